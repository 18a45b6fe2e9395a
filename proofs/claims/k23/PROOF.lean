import PyProof.Rows.All
import Wide.All
import OpenK.AllK
import Wide.FinOn
import HandS.ForMost
import HandS.IsInst
import HandS.Style
import PySem.Challenge.RW_wordbench_k23_what_is_meant
set_option Elab.async false
set_option linter.all false
set_option maxRecDepth 100000
/-! the generic layer -/
namespace Wb
open PySem PySem.Spec PyProof.Rows L2

/-- the frozen part of a heap: all but the addresses of B -/
def hid (B : List Addr) (H : Hp) : Hp := fun a => if a ∈ B then none else H a
/-- all that stood stands -/
def Ex (H H' : Hp) : Prop := ∀ a o, H a = some o → H' a = some o
theorem Ex.refl (H : Hp) : Ex H H := fun _ _ h => h
theorem Ex.trans {H H1 H2 : Hp} (a : Ex H H1) (b : Ex H1 H2) : Ex H H2 := fun x o h => b x o (a x o h)
theorem Ex.new {H : Hp} {p : Addr} {o : HO} (h : H p = none) : Ex H (upd H p o) := fun a u e => by
  rw [upd_ne (ne_of_none e h)]
  exact e
theorem ex_rd {H H' : Hp} {a : Addr} {u : HO} (e : Ex H H') (h : Rd H a u) : Rd H' a u := by
  rcases h with h | ⟨o, h⟩
  · exact Or.inl (e a _ h)
  · exact Or.inr ⟨o, e a _ h⟩
theorem ex_l {K : PySem.W.Frag} {H H' : Hp} {a : Addr} {xs : List V} (e : Ex H H') (h : SqL K H a xs) : SqL K H' a xs := by
  rcases h with h | h
  · exact Or.inl (ex_rd e h)
  · exact Or.inr h
theorem ex_t {K : PySem.W.Frag} {H H' : Hp} {a : Addr} {xs : List V} (e : Ex H H') (h : SqT K H a xs) : SqT K H' a xs := by
  rcases h with h | h
  · exact Or.inl (ex_rd e h)
  · exact Or.inr h
theorem hid_le (B : List Addr) (H : Hp) : Ex (hid B H) H := fun a o h => by
  unfold hid at h
  by_cases e : a ∈ B
  · rw [if_pos e] at h; cases h
  · rw [if_neg e] at h; exact h
theorem hid_out {B : List Addr} {H : Hp} {a : Addr} (e : a ∉ B) : hid B H a = H a := by
  unfold hid; rw [if_neg e]
theorem hid_in {B : List Addr} {H : Hp} {a : Addr} (e : a ∈ B) : hid B H a = none := by
  unfold hid; rw [if_pos e]
theorem hid_nil (H : Hp) : hid [] H = H := by
  funext a; exact hid_out (by simp)
/-- more hidden is less -/
theorem hid_sub {B B' : List Addr} {H : Hp} (h : ∀ a ∈ B, a ∈ B') : Ex (hid B' H) (hid B H) := fun a o e => by
  by_cases q : a ∈ B'
  · rw [hid_in q] at e; cases e
  · rw [hid_out q] at e
    rw [hid_out fun z => q (h a z)]
    exact e
/-- what changes at most the addresses of B' ⊆ B -/
theorem ex_hid {B B' : List Addr} {H H' : Hp} (h : ∀ a ∈ B', a ∈ B) (e : Ex (hid B' H) (hid B' H')) : Ex (hid B H) (hid B H') := fun a o q => by
  by_cases z : a ∈ B
  · rw [hid_in z] at q; cases q
  · rw [hid_out z] at q
    have z' : a ∉ B' := fun y => z (h a y)
    have := e a o (by rw [hid_out z']; exact q)
    rw [hid_out z'] at this
    rw [hid_out z]; exact this
theorem ex_hid0 {B : List Addr} {H H' : Hp} (e : Ex H H') : Ex (hid B H) (hid B H') :=
  ex_hid (B' := []) (by simp) (by rw [hid_nil, hid_nil]; exact e)

mutual
theorem dp_ex {K : PySem.W.Frag} {H H' : Hp} (e : Ex H H') : ∀ {d : PyData} {v : V}, Dp K H v d → Dp K H' v d
  | .none, _, h => by cases h; exact .non
  | .bool b, _, h => by cases h; exact .bl b
  | .int i, _, h => by cases h; exact .int i
  | .str x, _, h => by cases h; exact .str x
  | .list ds, _, h => by cases h with | lst hs ha => exact .lst (ex_l e hs) (dp_exA e ha)
  | .tuple ds, _, h => by cases h with | tup hs ha => exact .tup (ex_t e hs) (dp_exA e ha)
  | .dict _, _, h => by cases h
theorem dp_exA {K : PySem.W.Frag} {H H' : Hp} (e : Ex H H') : ∀ {ds : List PyData} {vs : List V}, DpAll K H vs ds → DpAll K H' vs ds
  | [], _, h => by cases h; exact .nil
  | d :: ds, _, h => by cases h with | cons h1 h2 => exact .cons (dp_ex e h1) (dp_exA e h2)
end
theorem DpAll.length {K : PySem.W.Frag} {H : Hp} : ∀ {ds : List PyData} {vs : List V}, DpAll K H vs ds → vs.length = ds.length
  | [], _, h => by cases h; rfl
  | d :: ds, _, h => by cases h with | cons h1 h2 => simp [DpAll.length h2]
theorem DpAll.get {K : PySem.W.Frag} {H : Hp} : ∀ {ds : List PyData} {vs : List V} {i : Nat} {d : PyData}, DpAll K H vs ds → ds[i]? = some d → ∃ v, vs[i]? = some v ∧ Dp K H v d
  | [], _, i, d, h, e => by simp at e
  | d :: ds, _, 0, d', h, e => by cases h with | cons h1 h2 => simp at e; subst e; exact ⟨_, rfl, h1⟩
  | d :: ds, _, i + 1, d', h, e => by
    cases h with
    | cons h1 h2 =>
      obtain ⟨v, a, b⟩ := DpAll.get h2 (by simpa using e)
      exact ⟨v, by simpa using a, b⟩
theorem DpAll.app {K : PySem.W.Frag} {H : Hp} {d : PyData} {v : V} (q : Dp K H v d) : ∀ {ds : List PyData} {vs : List V}, DpAll K H vs ds → DpAll K H (vs ++ [v]) (ds ++ [d])
  | [], _, h => by cases h; exact .cons q .nil
  | d :: ds, _, h => by cases h with | cons h1 h2 => exact .cons h1 (DpAll.app q h2)
theorem DpAll.append {K : PySem.W.Frag} {H : Hp} : ∀ {ds es : List PyData} {vs us : List V}, DpAll K H vs ds → DpAll K H us es → DpAll K H (vs ++ us) (ds ++ es)
  | [], _, _, _, h, q => by cases h; exact q
  | d :: ds, _, _, _, h, q => by cases h with | cons h1 h2 => exact .cons h1 (DpAll.append h2 q)
theorem dpall_strs {K : PySem.W.Frag} {H : Hp} : ∀ xs : List Str, DpAll K H (xs.map V.str) (xs.map PyData.str)
  | [] => .nil
  | x :: xs => .cons (.str x) (dpall_strs xs)
theorem dpall_strs_inv {K : PySem.W.Frag} {H : Hp} : ∀ {xs : List Str} {vs : List V}, DpAll K H vs (xs.map PyData.str) → vs = xs.map V.str
  | [], _, h => by cases h; rfl
  | x :: xs, _, h => by
    cases h with
    | cons h1 h2 =>
      cases h1
      rw [dpall_strs_inv h2]; rfl
theorem dpall_ints {K : PySem.W.Frag} {H : Hp} : ∀ xs : List Int, DpAll K H (xs.map V.int) (xs.map PyData.int)
  | [] => .nil
  | x :: xs => .cons (.int x) (dpall_ints xs)
theorem dpall_ints_inv {K : PySem.W.Frag} {H : Hp} : ∀ {xs : List Int} {vs : List V}, DpAll K H vs (xs.map PyData.int) → vs = xs.map V.int
  | [], _, h => by cases h; rfl
  | x :: xs, _, h => by
    cases h with
    | cons h1 h2 =>
      cases h1
      rw [dpall_ints_inv h2]; rfl

/-- what is known at a heap: the values of L bear their data, off the addresses of B (which are tracked) -/
structure Ctx (K : PySem.W.Frag) (B : List Addr) (H : Hp) (L : List (PyData × V)) : Prop where
  dat : ∀ q ∈ L, Dp K (hid B H) q.2 q.1
  trk : ∀ b ∈ B, H b ≠ none
section
variable {K : PySem.W.Frag} {B B' : List Addr} {H H' : Hp} {L L' : List (PyData × V)} {d : PyData} {v : V} {p : Addr} {o : HO}
theorem Ctx.get (C : Ctx K B H L) (h : (d, v) ∈ L) : Dp K (hid B H) v d := C.dat _ h
theorem Ctx.nil : Ctx K [] H [] := ⟨fun _ h => (nomatch h), fun _ h => (nomatch h)⟩
theorem Ctx.add (C : Ctx K B H L) (h : Dp K (hid B H) v d) : Ctx K B H ((d, v) :: L) := ⟨fun q z => by
  rcases List.mem_cons.mp z with rfl | z
  · exact h
  · exact C.dat q z, C.trk⟩
theorem Ctx.sub (C : Ctx K B H L) (h : ∀ q ∈ L', q ∈ L) : Ctx K B H L' := ⟨fun q z => C.dat q (h q z), C.trk⟩
/-- a heap in which at most B' ⊆ B changed -/
theorem Ctx.to (C : Ctx K B H L) (h : ∀ a ∈ B', a ∈ B) (e : Ex (hid B' H) (hid B' H')) (t : ∀ b ∈ B, H' b ≠ none) : Ctx K B H' L :=
  ⟨fun q z => dp_ex (ex_hid h e) (C.dat q z), t⟩
theorem Ctx.up (C : Ctx K B H L) (e : Ex H H') : Ctx K B H' L :=
  ⟨fun q z => dp_ex (ex_hid0 e) (C.dat q z), fun b hb z => by
    cases q : H b with
    | none => exact C.trk b hb q
    | some o => rw [e b o q] at z; cases z⟩
theorem Ctx.new (C : Ctx K B H L) (h : H p = none) : Ctx K B (upd H p o) L := C.up (Ex.new h)
theorem Ctx.notin (C : Ctx K B H L) (h : H p = none) : p ∉ B := fun z => C.trk p z h
/-- a new object, hidden from now on -/
theorem Ctx.own (C : Ctx K B H L) (h : H p = none) : Ctx K (p :: B) (upd H p o) L := ⟨fun q z => by
    refine dp_ex ?_ (C.dat q z)
    intro a u e
    have h1 := hid_le B H a u e
    have h2 : a ≠ p := ne_of_none h1 h
    have h3 : a ∉ B := fun y => by rw [hid_in y] at e; cases e
    rw [hid_out (by simp [h2, h3]), upd_ne h2]
    exact h1, fun b hb => by
    by_cases e : b = p
    · subst e; rw [upd_same]; simp
    · rw [upd_ne e]
      rcases List.mem_cons.mp hb with z | z
      · exact absurd z e
      · exact C.trk b z⟩
/-- the same over any heap in which p is new -/
theorem Ctx.own' (C : Ctx K B H L) (h : H p = none) (e : Ex H H') (h' : H' p ≠ none) : Ctx K (p :: B) H' L := ⟨fun q z => by
    refine dp_ex ?_ (C.dat q z)
    intro a u e1
    have h1 := hid_le B H a u e1
    have h2 : a ≠ p := ne_of_none h1 h
    have h3 : a ∉ B := fun y => by rw [hid_in y] at e1; cases e1
    rw [hid_out (by simp [h2, h3])]
    exact e a u h1, fun b hb => by
    rcases List.mem_cons.mp hb with rfl | z
    · exact h'
    · exact (C.up e).trk b z⟩
/-- a hidden one is written -/
theorem Ctx.mut (C : Ctx K B H L) (h : p ∈ B) : Ctx K B (upd H p o) L := ⟨fun q z => by
    refine dp_ex ?_ (C.dat q z)
    intro a u e
    have h3 : a ∉ B := fun y => by rw [hid_in y] at e; cases e
    have h2 : a ≠ p := fun y => h3 (y ▸ h)
    rw [hid_out h3, upd_ne h2]
    rw [hid_out h3] at e
    exact e, fun b hb => by
    by_cases e : b = p
    · subst e; rw [upd_same]; simp
    · rw [upd_ne e]; exact C.trk b hb⟩
/-- a hidden list is frozen -/
theorem Ctx.freeze {xs : List V} {ds : List PyData} (C : Ctx K (p :: B) H L) (n : p ∉ B) (h : H p = some (.lst xs)) (a : DpAll K (hid (p :: B) H) xs ds) : Ctx K B H ((.list ds, .ref p) :: L) := ⟨fun q z => by
    have s : Ex (hid (p :: B) H) (hid B H) := hid_sub fun a h => List.mem_cons_of_mem _ h
    rcases List.mem_cons.mp z with rfl | z
    · exact .lst (.inl (.inl (by rw [hid_out n]; exact h))) (dp_exA s a)
    · exact dp_ex s (C.dat q z), fun b hb => C.trk b (List.mem_cons_of_mem _ hb)⟩
theorem Ctx.drop (C : Ctx K (p :: B) H L) : Ctx K B H L := ⟨fun q z => by
    have s : Ex (hid (p :: B) H) (hid B H) := hid_sub fun a h => List.mem_cons_of_mem _ h
    exact dp_ex s (C.dat q z), fun b hb => C.trk b (List.mem_cons_of_mem _ hb)⟩
/-- a new list of known things -/
theorem Ctx.lst {xs : List V} {ds : List PyData} (C : Ctx K B H L) (h : H p = none) (a : DpAll K (hid B H) xs ds) : Ctx K B (upd H p (.lst xs)) ((.list ds, .ref p) :: L) :=
  (C.new h).add (.lst (.inl (.inl (by rw [hid_out (C.notin h)]; exact upd_same))) (dp_exA (ex_hid0 (Ex.new h)) a))
theorem Ctx.tup {xs : List V} {ds : List PyData} (C : Ctx K B H L) (h : H p = none) (a : DpAll K (hid B H) xs ds) : Ctx K B (upd H p (.tup xs)) ((.tuple ds, .ref p) :: L) :=
  (C.new h).add (.tup (.inl (.inl (by rw [hid_out (C.notin h)]; exact upd_same))) (dp_exA (ex_hid0 (Ex.new h)) a))
end
end Wb

set_option Elab.async false
set_option linter.all false
set_option maxRecDepth 100000
namespace Wb
open PySem PySem.Spec PyProof.Rows L2

/-! ### operators by the values' kinds -/
def rAddP : R2 := fun x y H Q => match x, y with
  | .int i, .int j => Q (.int (i + j)) H
  | .str a, .str b => a.length + b.length ≤ sizeLine ∧ Q (.str (a ++ b)) H
  | .ref l, .ref b => rCat (.ref l) (.ref b) H Q
  | _, _ => False
def rI2 (g : Int → Int → V) : R2 := fun x y H Q => match x, y with
  | .int i, .int j => Q (g i j) H
  | _, _ => False
def rIC (C : Int → Int → Prop) (g : Int → Int → V) : R2 := fun x y H Q => match x, y with
  | .int i, .int j => C i j ∧ Q (g i j) H
  | _, _ => False
def rEqP (K : PySem.W.Frag) : R2 := fun x y H Q => match x, y with
  | .int i, .int j => Q (.bl (decide (i = j))) H
  | .str i, .str j => Q (.bl (decide (i = j))) H
  | .bl i, .bl j => Q (.bl (decide (i = j))) H
  | .non, .non => Q (.bl true) H
  | .non, .str _ => Q (.bl false) H
  | .str _, .non => Q (.bl false) H
  | .non, .int _ => Q (.bl false) H
  | .int _, .non => Q (.bl false) H
  | .int _, .str _ => Q (.bl false) H
  | .str _, .int _ => Q (.bl false) H
  | x, y => rEqD K x y H Q
def rNeP (K : PySem.W.Frag) : R2 := fun x y H Q => match x, y with
  | .int i, .int j => Q (.bl (!decide (i = j))) H
  | .str i, .str j => Q (.bl (!decide (i = j))) H
  | .bl i, .bl j => Q (.bl (!decide (i = j))) H
  | .non, .non => Q (.bl false) H
  | .non, .str _ => Q (.bl true) H
  | .str _, .non => Q (.bl true) H
  | .non, .int _ => Q (.bl true) H
  | .int _, .non => Q (.bl true) H
  | .int _, .str _ => Q (.bl true) H
  | .str _, .int _ => Q (.bl true) H
  | x, y => rNeD K x y H Q
/-- in, not in: a text in a text, a thing in a list or tuple of flat things -/
def rInP (K : PySem.W.Frag) (neg : Bool) : R2 := fun x y H Q => match x, y with
  | .str i, .str j => Q (.bl (if neg then !(!(Builtin.Str.occurrences j i 0 j.length 1).isEmpty) else !(Builtin.Str.occurrences j i 0 j.length 1).isEmpty)) H
  | x, y => rIn K neg x y H Q
section
variable {X : Cx}
theorem op_addP : OpR X (binaryOp .Add) rAddP := by
  intro pins s σ H x y v u Q I rx ry h
  cases x <;> cases y <;> first
    | exact op_add pins s σ H _ _ v u Q I rx ry ⟨_, _, rfl, rfl, h⟩
    | exact op_add_str pins s σ H _ _ v u Q I rx ry ⟨_, _, rfl, rfl, h⟩
    | exact op_cat pins s σ H _ _ v u Q I rx ry h
    | exact False.elim h
theorem op_i2 {op : Operator} {g : Int → Int → V} (r : OpR X (binaryOp op) (rI0 g)) : OpR X (binaryOp op) (rI2 g) := by
  intro pins s σ H x y v u Q I rx ry h
  cases x <;> cases y <;> first
    | exact r pins s σ H _ _ v u Q I rx ry ⟨_, _, rfl, rfl, h⟩
    | exact False.elim h
theorem op_ic {op : Operator} {C : Int → Int → Prop} {g : Int → Int → V} (r : OpR X (binaryOp op) (rI C g)) : OpR X (binaryOp op) (rIC C g) := by
  intro pins s σ H x y v u Q I rx ry h
  cases x <;> cases y <;> first
    | exact r pins s σ H _ _ v u Q I rx ry ⟨_, _, rfl, rfl, h⟩
    | exact False.elim h
theorem cp_i2 {op : CmpOp} {g : Int → Int → V} (r : OpR X (compareOp op) (rI0 g)) : OpR X (compareOp op) (rI2 g) := by
  intro pins s σ H x y v u Q I rx ry h
  cases x <;> cases y <;> first
    | exact r pins s σ H _ _ v u Q I rx ry ⟨_, _, rfl, rfl, h⟩
    | exact False.elim h
theorem op_eqP {K : PySem.W.Frag} (hK : X.K = K) (hu : X.A.units + 64 < cLine) : OpR X (compareOp .Eq) (rEqP K) := by
  subst hK
  intro pins s σ H x y v u Q I rx ry h
  have sc : ∀ b, scal x y = true → decide (x = y) = b → Q (.bl b) H → wpAny (model X.prog X.w) X.A (compareOp .Eq v u) (EP X pins σ Q) X.xe s :=
    fun b s1 e q => op_eq pins s σ H _ _ v u Q I rx ry ⟨s1, by rw [e]; exact q⟩
  have eD : rEqD X.K x y H Q → wpAny (model X.prog X.w) X.A (compareOp .Eq v u) (EP X pins σ Q) X.xe s := op_eqD hu pins s σ H x y v u Q I rx ry
  cases x <;> cases y <;> first
    | exact eD h
    | exact sc _ rfl (by simp) h
theorem op_neP {K : PySem.W.Frag} (hK : X.K = K) (hu : X.A.units + 64 < cLine) : OpR X (compareOp .NotEq) (rNeP K) := by
  subst hK
  intro pins s σ H x y v u Q I rx ry h
  have sc : ∀ b, scal x y = true → (!decide (x = y)) = b → Q (.bl b) H → wpAny (model X.prog X.w) X.A (compareOp .NotEq v u) (EP X pins σ Q) X.xe s :=
    fun b s1 e q => op_ne pins s σ H _ _ v u Q I rx ry ⟨s1, by rw [e]; exact q⟩
  have eD : rNeD X.K x y H Q → wpAny (model X.prog X.w) X.A (compareOp .NotEq v u) (EP X pins σ Q) X.xe s := op_neD hu pins s σ H x y v u Q I rx ry
  cases x <;> cases y <;> first
    | exact eD h
    | exact sc _ rfl (by simp) h
theorem op_inP {K : PySem.W.Frag} (hK : X.K = K) : OpR X (compareOp .In) (rInP K false) := by
  subst hK
  intro pins s σ H x y v u Q I rx ry h
  have eD : rIn X.K false x y H Q → wpAny (model X.prog X.w) X.A (compareOp .In v u) (EP X pins σ Q) X.xe s := op_in_seq pins s σ H x y v u Q I rx ry
  cases x <;> cases y <;> first
    | exact eD h
    | exact op_in_str pins s σ H _ _ v u Q I rx ry ⟨_, _, rfl, rfl, h⟩
theorem op_notinP {K : PySem.W.Frag} (hK : X.K = K) : OpR X (compareOp .NotIn) (rInP K true) := by
  subst hK
  intro pins s σ H x y v u Q I rx ry h
  have eD : rIn X.K true x y H Q → wpAny (model X.prog X.w) X.A (compareOp .NotIn v u) (EP X pins σ Q) X.xe s := op_notIn_seq pins s σ H x y v u Q I rx ry
  cases x <;> cases y <;> first
    | exact eD h
    | exact op_notin_str pins s σ H _ _ v u Q I rx ry ⟨_, _, rfl, rfl, h⟩
end
/-- a[i] by kinds -/
def rIxP (K : PySem.W.Frag) : R2 := fun x y H Q => match x, y with
  | .str z, .int i => z.length ≤ sizeLine ∧ ∃ c, atI z.cps.toList i = some c ∧ Q (.str ⟨#[c]⟩) H
  | .ref p, .int i => ∃ xs v, (SqL K H p xs ∨ SqT K H p xs) ∧ atI xs i = some v ∧ Q v H
  | _, _ => False
def rSlP (K : PySem.W.Frag) : V → Option Int → Option Int → Hp → VK → Prop := fun x lo hi H Q => match x with
  | .str z => z.length ≤ sizeLine ∧ Q (.str (cutS z lo hi)) H
  | .ref a => rSlL K (.ref a) lo hi H Q ∨ rSlT K (.ref a) lo hi H Q
  | _ => False
section
variable {X : Cx}
theorem ix_P {K : PySem.W.Frag} (hK : X.K = K) : IxR X (rIxP K) := by
  subst hK
  intro va sl pins s σ H x y v u Q I rx ry h hs
  cases x <;> cases y <;> first
    | exact False.elim h
    | (obtain ⟨a, c, b, q⟩ := h; exact ix_str va sl pins s σ H _ _ v u Q I rx ry ⟨_, _, _, rfl, rfl, a, b, q⟩ hs)
    | (obtain ⟨xs, w, a | a, b, q⟩ := h
       · exact ix_list va sl pins s σ H _ _ v u Q I rx ry ⟨_, _, _, _, rfl, rfl, a, b, q⟩ hs
       · exact ix_tup va sl pins s σ H _ _ v u Q I rx ry ⟨_, _, _, _, rfl, rfl, a, b, q⟩ hs)
theorem sl_P {K : PySem.W.Frag} (hK : X.K = K) : SlR X (rSlP K) := by
  subst hK
  intro pins s σ H x v vl vu lo hi sl Q I rx h1 h2 h3 h
  cases x with
  | str z => exact sl_str pins s σ H _ v vl vu lo hi sl Q I rx h1 h2 h3 ⟨z, rfl, h⟩
  | ref a =>
    rcases h with h | h
    · exact sl_list pins s σ H _ v vl vu lo hi sl Q I rx h1 h2 h3 h
    · exact sl_tup pins s σ H _ v vl vu lo hi sl Q I rx h1 h2 h3 h
  | _ => exact False.elim h
/-- the calls of built-in functions, by kinds of their arguments -/
def rLenP (K : PySem.W.Frag) : List V → Hp → VK → Prop := fun xs H Q => match xs with
  | [x] => ∃ n, LenV K x H n ∧ Q (.int n) H
  | _ => False
theorem call_lenP {K : PySem.W.Frag} (hK : X.K = K) : CallR X (.builtin "len") (rLenP K) := by
  subst hK
  intro pins s σ H xs us Q I r h
  match xs, h with
  | [x], ⟨n, a, q⟩ => exact call_len pins s σ H _ us Q I r ⟨x, n, rfl, a, q⟩
def rMax2P : List V → Hp → VK → Prop := fun xs H Q => match xs with
  | [.int i, .int j] => Q (.int (max i j)) H
  | _ => False
theorem call_max2P (hc : X.calm = true) : CallR X (.builtin "max") rMax2P := by
  intro pins s σ H xs us Q I r h
  unfold rMax2P at h
  split at h
  · rename_i i j
    refine call_max2 hc pins s σ H _ us Q I r ⟨i, j, rfl, ?_⟩
    have e : (if j > i then j else i) = max i j := by
      by_cases z : j > i
      · rw [if_pos z]; omega
      · rw [if_neg z]; omega
    rw [e]; exact h
  · exact h.elim
def rMin2P : List V → Hp → VK → Prop := fun xs H Q => match xs with
  | [.int i, .int j] => Q (.int (min i j)) H
  | _ => False
theorem call_min2P (hc : X.calm = true) : CallR X (.builtin "min") rMin2P := by
  intro pins s σ H xs us Q I r h
  unfold rMin2P at h
  split at h
  · rename_i i j
    refine call_min2 hc pins s σ H _ us Q I r ⟨i, j, rfl, ?_⟩
    have e : (if j < i then j else i) = min i j := by
      by_cases z : j < i
      · rw [if_pos z]; omega
      · rw [if_neg z]; omega
    rw [e]; exact h
  · exact h.elim
def rInt1P : List V → Hp → VK → Prop := fun xs H Q => match xs with
  | [.int i] => Q (.int i) H
  | [.bl k] => Q (.int (if k then 1 else 0)) H
  | [.str a] => ∃ n, PySem.intText? a = some n ∧ a.length ≤ 640 ∧ Q (.int n) H
  | _ => False
theorem call_intP : CallR X (.type "int") rInt1P := by
  intro pins s σ H xs us Q I r h
  unfold rInt1P at h
  split at h
  · exact call_int1 pins s σ H _ us Q I r (.inl ⟨_, rfl, h⟩)
  · exact call_int1 pins s σ H _ us Q I r (.inr ⟨_, rfl, h⟩)
  · obtain ⟨n, a, b, q⟩ := h
    exact call_int_str pins s σ H _ us Q I r ⟨_, n, rfl, a, b, q⟩
  · exact h.elim
end

/-! ### steps of a reading -/
section
variable {X : Cx} {K : PySem.W.Frag} {σ : L2.St} {H : Hp} {Q : VK} {QT : Bool → Hp → Prop} {QA : List V → Hp → Prop} {ta tb te : TE} {t u : TT} {tA : TA} {r : R2} {v x y : V} {D : Ends} {ts us : TS}
theorem w_var {i : Nat} (h : σ[i]? = some (some v)) (q : Q v H) : tVar i σ H Q := ⟨v, h, q⟩
theorem w_c (q : Q v H) : tC v σ H Q := q
theorem w_op (q : ta σ H fun x H1 => tb σ H1 fun y H2 => r x y H2 Q) : tOp r ta tb σ H Q := q
theorem w_un {ru : V → Hp → VK → Prop} (q : ta σ H fun x H1 => ru x H1 Q) : tUn ru ta σ H Q := q
theorem w_neg {i : Int} (q : Q (.int (-i)) H) : (rU fun i => .int (-i)) (.int i) H Q := ⟨i, rfl, q⟩
theorem w_test (q : ta σ H fun x H' => ∃ k, x = .bl k ∧ QT k H') : tTest ta σ H QT := q
theorem w_tB (q : ta σ H fun x H' => ∃ k, x = .bl k ∧ QT k H') : tB ta σ H QT := q
theorem w_bl {k : Bool} {P : Bool → Prop} (q : P k) : ∃ k', V.bl k = .bl k' ∧ P k' := ⟨k, rfl, q⟩
theorem w_and (q : t σ H fun c H1 => if c = true then u σ H1 QT else QT false H1) : tAnd t u σ H QT := q
theorem w_or (q : t σ H fun c H1 => if c = true then QT true H1 else u σ H1 QT) : tOr t u σ H QT := q
theorem w_not (q : t σ H fun c H1 => QT (!c) H1) : tNot t σ H QT := q
theorem w_andV (q : ta σ H fun x H1 => ∃ c, x = .bl c ∧ if c = true then tb σ H1 Q else Q (.bl false) H1) : tAndV ta tb σ H Q := q
theorem w_orV (q : ta σ H fun x H1 => ∃ c, x = .bl c ∧ if c = true then Q (.bl true) H1 else tb σ H1 Q) : tOrV ta tb σ H Q := q
theorem w_notV (q : ta σ H fun x H1 => ∃ c, x = .bl c ∧ Q (.bl (!c)) H1) : tNotV ta σ H Q := q
theorem w_if (q : t σ H fun c H1 => if c = true then ta σ H1 Q else tb σ H1 Q) : tIf t ta tb σ H Q := q
theorem w_chain {r r' : R2} {tc : TE} (q : ta σ H fun x H1 => tb σ H1 fun y H2 => r x y H2 fun z H3 => ∃ k, z = .bl k ∧ (if k = true then tc σ H3 fun w' H4 => r' y w' H4 Q else Q (.bl false) H3)) : tChain r r' ta tb tc σ H Q := q
theorem w_nil (q : QA [] H) : tNil σ H QA := q
theorem w_cons (q : ta σ H fun x H1 => tA σ H1 fun xs H2 => QA (x :: xs) H2) : tCons ta tA σ H QA := q
theorem w_tup (q : tA σ H fun xs H1 => xs.length ≤ sizeLine ∧ ∀ p, H1 p = none → Q (.ref p) (upd H1 p (.tup xs))) : tTup tA σ H Q := q
theorem w_lst (q : tA σ H fun xs H1 => xs.length ≤ sizeLine ∧ ∀ p, H1 p = none → Q (.ref p) (upd H1 p (.lst xs))) : tLst tA σ H Q := q
theorem w_cb {rc : List V → Hp → VK → Prop} (q : tA σ H fun vs H1 => rc vs H1 Q) : tCB rc tA σ H Q := q
theorem w_call {sp : Sp} {dvs : List V} {E : XK} (q : tA σ H fun vs H1 => sp (vs ++ dvs) H1 Q E) : tCall sp dvs E tA σ H Q := q
theorem w_bm {T : String} {rm : V → List V → Hp → VK → Prop} (q : ta σ H fun x H1 => tyV K T x H1 ∧ tA σ H1 fun xs H2 => rm x xs H2 Q) : tBM K T rm ta tA σ H Q := q
theorem w_bm0 {T : String} {rm : V → List V → Hp → VK → Prop} (q : ta σ H fun x H1 => tyV K T x H1 ∧ rm x [] H1 Q) : tBM0 K T rm ta σ H Q := q
theorem w_m0 {rm : V → List V → Hp → VK → Prop} (q : ta σ H fun x H1 => (∃ a, x = .str a) ∧ rm x [] H1 Q) : tM0 rm ta σ H Q := q
theorem w_m1 {rm : V → List V → Hp → VK → Prop} (q : ta σ H fun x H1 => (∃ a, x = .str a) ∧ te σ H1 fun y H2 => rm x [y] H2 Q) : tM1 rm ta te σ H Q := q
theorem w_tyS {a : Str} {P : Prop} (q : P) : (∃ b, V.str a = .str b) ∧ P := ⟨⟨a, rfl⟩, q⟩
theorem w_sl {rs : V → Option Int → Option Int → Hp → VK → Prop} {tl th : TO} (q : ta σ H fun x H1 => tl σ H1 fun l H2 => th σ H2 fun u H3 => rs x l u H3 Q) : tSl rs ta tl th σ H Q := q
theorem w_nopart {QO : Option Int → Hp → Prop} (q : QO none H) : tNoPart σ H QO := q
theorem w_part {QO : Option Int → Hp → Prop} (q : ta σ H fun x H1 => ∃ i, x = .int i ∧ QO (some i) H1) : tPart ta σ H QO := q
theorem w_partI {i : Int} {P : Int → Prop} (q : P i) : ∃ j, V.int i = .int j ∧ P j := ⟨i, rfl, q⟩
theorem w_seq (q : ts { D with nx := us D } σ H) : tSeq ts us D σ H := q
theorem w_next (q : D.nx σ H) : tNext D σ H := q
theorem w_brk (q : D.bk σ H) : tBreak D σ H := q
theorem w_cont (q : D.ct σ H) : tCont D σ H := q
theorem w_drop (q : te σ H fun _ H1 => D.nx σ H1) : tDrop te D σ H := q
theorem w_ret (q : te σ H D.rt) : tRet te D σ H := q
theorem w_retN (q : D.rt .non H) : tRetN D σ H := q
theorem w_ifS (q : t σ H fun b H1 => if b = true then ts D σ H1 else us D σ H1) : tIfS t ts us D σ H := q
theorem w_asg {g : TG} (q : te σ H fun x H1 => g x σ H1 D.nx) : tAsg te g D σ H := q
theorem w_name {i : Nat} {k : L2.St → Hp → Prop} (q : k (σ.set i (some v)) H) : gName i v σ H k := q
theorem w_sub {to ti : TE} {ts : TSet} {k : L2.St → Hp → Prop} (q : to σ H fun o H1 => ti σ H1 fun i H2 => ts o i v H2 fun H3 => k σ H3) : gSub to ti ts v σ H k := q
theorem w_aug {i : Nat} {ti : TIp} (h : σ[i]? = some (some x)) (q : te σ H fun y H1 => ti x y H1 fun z H2 => D.nx (σ.set i (some z)) H2) : tAug i te ti D σ H := ⟨x, h, q⟩
theorem w_gtup {n : Nat} {tg : TGs} {a : Addr} {xs : List V} {k : L2.St → Hp → Prop} (h : SqT K H a xs) (hl : xs.length = n) (q : tg xs σ H k) : gTup K n tg (.ref a) σ H k := ⟨a, xs, rfl, h, hl, q⟩
/-- values -/
theorem w_addI {i j : Int} (q : Q (.int (i + j)) H) : rAddP (.int i) (.int j) H Q := q
theorem w_addS {a b : Str} (h : a.length + b.length ≤ sizeLine) (q : Q (.str (a ++ b)) H) : rAddP (.str a) (.str b) H Q := ⟨h, q⟩
theorem w_i2 {g : Int → Int → V} {i j : Int} (q : Q (g i j) H) : rI2 g (.int i) (.int j) H Q := q
theorem w_ic {C : Int → Int → Prop} {g : Int → Int → V} {i j : Int} (h : C i j) (q : Q (g i j) H) : rIC C g (.int i) (.int j) H Q := ⟨h, q⟩
theorem w_eqI {i j : Int} (q : Q (.bl (decide (i = j))) H) : rEqP K (.int i) (.int j) H Q := q
theorem w_eqS {i j : Str} (q : Q (.bl (decide (i = j))) H) : rEqP K (.str i) (.str j) H Q := q
theorem w_eqB {i j : Bool} (q : Q (.bl (decide (i = j))) H) : rEqP K (.bl i) (.bl j) H Q := q
theorem w_eqNN (q : Q (.bl true) H) : rEqP K .non .non H Q := q
theorem w_eqNS {i : Str} (q : Q (.bl false) H) : rEqP K .non (.str i) H Q := q
theorem w_eqSN {i : Str} (q : Q (.bl false) H) : rEqP K (.str i) .non H Q := q
theorem w_neI {i j : Int} (q : Q (.bl (!decide (i = j))) H) : rNeP K (.int i) (.int j) H Q := q
theorem w_neS {i j : Str} (q : Q (.bl (!decide (i = j))) H) : rNeP K (.str i) (.str j) H Q := q
theorem w_neB {i j : Bool} (q : Q (.bl (!decide (i = j))) H) : rNeP K (.bl i) (.bl j) H Q := q
theorem w_inS {i j : Str} (q : Q (.bl (!(Builtin.Str.occurrences j i 0 j.length 1).isEmpty)) H) : rInP K false (.str i) (.str j) H Q := q
theorem w_ninS {i j : Str} (q : Q (.bl (!(!(Builtin.Str.occurrences j i 0 j.length 1).isEmpty))) H) : rInP K true (.str i) (.str j) H Q := q
theorem w_lenS {a : Str} (h : a.length ≤ sizeLine) (q : Q (.int (a.length : Nat)) H) : rLenP K [.str a] H Q := ⟨_, ⟨h, rfl⟩, q⟩
theorem w_max2 {i j : Int} (q : Q (.int (max i j)) H) : rMax2P [.int i, .int j] H Q := q
theorem w_min2 {i j : Int} (q : Q (.int (min i j)) H) : rMin2P [.int i, .int j] H Q := q
theorem w_intI {i : Int} (q : Q (.int i) H) : rInt1P [.int i] H Q := q
theorem w_intB {k : Bool} (q : Q (.int (if k then 1 else 0)) H) : rInt1P [.bl k] H Q := q
theorem w_slS {z : Str} {lo hi : Option Int} (h : z.length ≤ sizeLine) (q : Q (.str (cutS z lo hi)) H) : rSlP K (.str z) lo hi H Q := ⟨h, q⟩
theorem w_ixS {z : Str} {i : Int} {c : Nat} (h : z.length ≤ sizeLine) (e : atI z.cps.toList i = some c) (q : Q (.str ⟨#[c]⟩) H) : rIxP K (.str z) (.int i) H Q := ⟨h, c, e, q⟩
theorem w_ixD {B : List Addr} {p : Addr} {ds : List PyData} {i : Int} {d : PyData} (h : Dp K (hid B H) (.ref p) (.list ds)) (e : atI ds i = some d) (q : ∀ v, Dp K (hid B H) v d → Q v H) : rIxP K (.ref p) (.int i) H Q := by
  cases h with
  | lst hs ha =>
    obtain ⟨j, e1, e2, e3, e4, e5⟩ := atI_get e
    obtain ⟨v, e6, e7⟩ := DpAll.get ha e2
    refine ⟨_, v, .inl (ex_l (hid_le B H) hs), ?_, q v e7⟩
    have l := DpAll.length ha
    unfold atI ixN at e ⊢
    rw [l]
    by_cases z : 0 ≤ i
    · simp only [z, if_true] at e ⊢
      by_cases z2 : i < ds.length
      · simp only [z2, if_true, Option.bind_some] at e ⊢
        obtain ⟨v', q1, q2⟩ := DpAll.get ha e
        have : j = i.toNat := by
          have := e1; unfold seqIndex? at this; simp [z] at this; omega
        subst this; exact e6
      · simp only [z2, if_false, Option.bind_none] at e; cases e
    · simp only [z, if_false] at e ⊢
      by_cases z2 : -(ds.length : Int) ≤ i
      · simp only [z2, if_true, Option.bind_some] at e ⊢
        have : j = (i + ds.length).toNat := by
          have := e1; unfold seqIndex? at this; simp [z] at this; omega
        subst this; exact e6
      · simp only [z2, if_false, Option.bind_none] at e; cases e
end
end Wb

set_option Elab.async false
set_option linter.all false
set_option maxRecDepth 100000
namespace Wb
open PySem PySem.Spec PyProof.Rows L2
def rMulP : R2 := fun x y H Q => match x, y with
  | .int i, .int j => CMul i j ∧ Q (.int (i * j)) H
  | .str a, .int n => (a.length ≤ 2000 ∧ n ≤ 2000 ∧ -(2 ^ 63) ≤ n) ∧ Q (.str (Txt.mul a n)) H
  | .ref l, .int k => rRep (.ref l) (.int k) H Q
  | _, _ => False
def rIAddP : TIp := fun x y H Q => match x, y with
  | .int i, .int j => Q (.int (i + j)) H
  | .str a, .str b => a.length + b.length ≤ sizeLine ∧ Q (.str (a ++ b)) H
  | _, _ => False
section
variable {X : Cx}
theorem op_mul_str : OpR X (binaryOp .Mult) (fun x y H Q => ∃ a n, x = .str a ∧ y = .int n ∧ (a.length ≤ 2000 ∧ n ≤ 2000 ∧ -(2 ^ 63) ≤ n) ∧ Q (.str (Txt.mul a n)) H) := by
  intro pins s σ H x y v u Q I rx ry h
  obtain ⟨a, n, rfl, rfl, ⟨h1, h2, h3⟩, q⟩ := h
  obtain ⟨t, rfl⟩ := rx
  obtain ⟨t', rfl⟩ := ry
  exact SB.mul (mulOk_of 2000 2000 h1 (by omega) h3 (by decide) (by decide)) fun t2 k => ⟨.str _, H, I.tok k, ⟨_, rfl⟩, q⟩
theorem op_mulP : OpR X (binaryOp .Mult) rMulP := by
  intro pins s σ H x y v u Q I rx ry h
  cases x <;> cases y <;> first
    | exact op_mul pins s σ H _ _ v u Q I rx ry ⟨_, _, rfl, rfl, h⟩
    | exact op_mul_str pins s σ H _ _ v u Q I rx ry ⟨_, _, rfl, rfl, h⟩
    | exact op_rep pins s σ H _ _ v u Q I rx ry h
    | exact False.elim h
theorem ip_addP : PIp X .Add rIAddP := by
  intro pins s σ H x y v u Q I rx ry h
  cases x <;> cases y <;> first
    | exact iop_add pins s σ H _ _ v u Q I rx ry ⟨_, _, rfl, rfl, h⟩
    | exact iop_add_str pins s σ H _ _ v u Q I rx ry ⟨_, _, rfl, rfl, h⟩
    | exact False.elim h
/-! methods of texts -/
def mS1 (g : Str → Str → V) : V → List V → Hp → VK → Prop := fun x xs H Q => match x, xs with
  | .str a, [.str b] => Q (g a b) H
  | _, _ => False
def mS0 (C : Str → Prop) (g : Str → V) : V → List V → Hp → VK → Prop := fun x xs H Q => match x, xs with
  | .str a, [] => C a ∧ Q (g a) H
  | _, _ => False
theorem mt_s1 {id : String} {g : Str → Str → V} (r : MtR X id (fun x xs H Q => ∃ a b, x = .str a ∧ xs = [.str b] ∧ Q (g a b) H)) : MtR X id (mS1 g) := by
  intro pins s σ H x xs v us Q I rx ry h
  unfold mS1 at h
  split at h
  · exact r pins s σ H _ _ v us Q I rx ry ⟨_, _, rfl, rfl, h⟩
  · exact h.elim
theorem mt_s0 {id : String} {C : Str → Prop} {g : Str → V} (r : MtR X id (fun x xs H Q => ∃ a, x = .str a ∧ xs = [] ∧ C a ∧ Q (g a) H)) : MtR X id (mS0 C g) := by
  intro pins s σ H x xs v us Q I rx ry h
  unfold mS0 at h
  split at h
  · exact r pins s σ H _ _ v us Q I rx ry ⟨_, rfl, rfl, h⟩
  · exact h.elim
theorem mt_startswithP : MtR X "str.startswith" (mS1 fun a b => .bl (Txt.startswith a b)) := mt_s1 mt_startswith
theorem mt_endswithP : MtR X "str.endswith" (mS1 fun a b => .bl (Txt.endswith a b)) := mt_s1 mt_endswith
theorem mt_upperP : MtR X "str.upper" (mS0 (fun a => a.length ≤ 5592405) fun a => .str (Txt.upper a)) := mt_s0 mt_upper
theorem mt_lowerP : MtR X "str.lower" (mS0 (fun a => a.length ≤ 5592405) fun a => .str (Txt.lower a)) := mt_s0 mt_lower
def rJoinP (K : PySem.W.Frag) : V → List V → Hp → VK → Prop := fun x xs H Q => match x, xs with
  | .str a, [.ref p] => ∃ ys : List Str, (SqL K H p (ys.map V.str) ∨ SqT K H p (ys.map V.str)) ∧ (ys.map (·.length)).sum + ys.length * a.length ≤ 16777216 ∧ Q (.str (Txt.join a ys)) H
  | _, _ => False
theorem mt_joinP {K : PySem.W.Frag} (hK : X.K = K) : MtR X "str.join" (rJoinP K) := by
  subst hK
  intro pins s σ H x xs v us Q I rx ry h
  unfold rJoinP at h
  split at h
  · obtain ⟨ys, h1, h2, q⟩ := h
    exact mt_join pins s σ H _ _ v us Q I rx ry ⟨_, _, ys, rfl, rfl, h1, h2, q⟩
  · exact h.elim
def rPartP : V → List V → Hp → VK → Prop := fun x xs H Q => match x, xs with
  | .str a, [.str b] => (b.length == 0) = false ∧ a.length ≤ sizeLine ∧ ∀ p, H p = none → Q (.ref p) (upd H p (.tup [.str (Txt.partition a b).1, .str (Txt.partition a b).2.1, .str (Txt.partition a b).2.2]))
  | _, _ => False
theorem mt_partitionP : MtR X "str.partition" rPartP := by
  intro pins s σ H x xs v us Q I rx ry h
  unfold rPartP at h
  split at h
  · exact mt_partition pins s σ H _ _ v us Q I rx ry ⟨_, _, rfl, rfl, h⟩
  · exact h.elim
def rSplitP : V → List V → Hp → VK → Prop := fun x xs H Q => match x, xs with
  | .str a, [.str b] => (b.length == 0) = false ∧ a.length + 2 ≤ sizeLine ∧ rNewStrs (Txt.split a b) H Q
  | _, _ => False
theorem mt_splitP : MtR X "str.split" rSplitP := by
  intro pins s σ H x xs v us Q I rx ry h
  unfold rSplitP at h
  split at h
  · exact mt_split pins s σ H _ _ v us Q I rx ry ⟨_, _, rfl, rfl, h⟩
  · exact h.elim
/-! isinstance -/
def rIsiP (K : PySem.W.Frag) : List V → Hp → VK → Prop := fun xs H Q => match xs with
  | [.str _, .ty n] => ∃ b, kitB "str" n = some b ∧ Q (.bl b) H
  | [.int _, .ty n] => ∃ b, kitB "int" n = some b ∧ Q (.bl b) H
  | [.bl _, .ty n] => ∃ b, kitB "bool" n = some b ∧ Q (.bl b) H
  | [.non, .ty n] => ∃ b, kitB "NoneType" n = some b ∧ Q (.bl b) H
  | [.ref a, .ty n] => ∃ T b, TyX K H (.ref a) (.type T) ∧ kitB T n = some b ∧ Q (.bl b) H
  | xs => rIsi K xs H Q
theorem call_isiP {K : PySem.W.Frag} (hK : X.K = K) : CallR X (.builtin "isinstance") (rIsiP K) := by
  subst hK
  intro pins s σ H xs us Q I r h
  unfold rIsiP at h
  split at h
  · obtain ⟨b, e, q⟩ := h
    exact call_isi pins s σ H _ us Q I r ⟨_, _, _, _, b, rfl, .ty _, .base (.str _), kit_ty e, q⟩
  · obtain ⟨b, e, q⟩ := h
    exact call_isi pins s σ H _ us Q I r ⟨_, _, _, _, b, rfl, .ty _, .base (.int _), kit_ty e, q⟩
  · obtain ⟨b, e, q⟩ := h
    exact call_isi pins s σ H _ us Q I r ⟨_, _, _, _, b, rfl, .ty _, .base (.bl _), kit_ty e, q⟩
  · obtain ⟨b, e, q⟩ := h
    exact call_isi pins s σ H _ us Q I r ⟨_, _, _, _, b, rfl, .ty _, .base .non, kit_ty e, q⟩
  · obtain ⟨T, b, t, e, q⟩ := h
    exact call_isi pins s σ H _ us Q I r ⟨_, _, _, _, b, rfl, .ty _, t, kit_ty e, q⟩
  · exact call_isi pins s σ H _ us Q I r h
/-- divmod by kinds -/
def rDivmodP : List V → Hp → VK → Prop := fun xs H Q => match xs with
  | [.int i, .int j] => CDiv i j ∧ ∀ p, H p = none → Q (.ref p) (upd H p (.tup [.int (i / j), .int (i % j)]))
  | _ => False
theorem call_divmodP : CallR X (.builtin "divmod") rDivmodP := by
  intro pins s σ H xs us Q I r h
  unfold rDivmodP at h
  split at h
  · exact call_divmod pins s σ H _ us Q I r ⟨_, _, rfl, h⟩
  · exact h.elim
def rListP (K : PySem.W.Frag) : List V → Hp → VK → Prop := fun xs H Q => match xs with
  | [.ref p] => ∃ ys, (SqL K H p ys ∨ SqT K H p ys) ∧ ∀ l, H l = none → Q (.ref l) (upd H l (.lst ys))
  | _ => False
theorem call_listP {K : PySem.W.Frag} (hK : X.K = K) : CallR X (.type "list") (rListP K) := by
  subst hK
  intro pins s σ H xs us Q I r h
  unfold rListP at h
  split at h
  · obtain ⟨ys, a, q⟩ := h
    exact call_list_of pins s σ H _ us Q I r ⟨_, ys, rfl, a, q⟩
  · exact h.elim
def rAnyP (K : PySem.W.Frag) : List V → Hp → VK → Prop := fun xs H Q => match xs with
  | [.ref a] => ∃ bs : List Bool, SqL K H a (bs.map V.bl) ∧ Q (.bl (bs.any id)) H
  | _ => False
def rAllP (K : PySem.W.Frag) : List V → Hp → VK → Prop := fun xs H Q => match xs with
  | [.ref a] => ∃ bs : List Bool, SqL K H a (bs.map V.bl) ∧ Q (.bl (bs.all id)) H
  | _ => False
theorem cr_anyP {K : PySem.W.Frag} (hK : X.K = K) (hc : X.calm = true) : CallR X (.builtin "any") (rAnyP K) := by
  subst hK
  intro pins s σ H xs us Q I r h
  unfold rAnyP at h
  split at h
  · obtain ⟨bs, a, q⟩ := h
    exact cr_any hc pins s σ H _ us Q I r ⟨_, bs, rfl, a, q⟩
  · exact h.elim
theorem cr_allP {K : PySem.W.Frag} (hK : X.K = K) (hc : X.calm = true) : CallR X (.builtin "all") (rAllP K) := by
  subst hK
  intro pins s σ H xs us Q I r h
  unfold rAllP at h
  split at h
  · obtain ⟨bs, a, q⟩ := h
    exact cr_all hc pins s σ H _ us Q I r ⟨_, bs, rfl, a, q⟩
  · exact h.elim
def rSortedP (K : PySem.W.Frag) : List V → Hp → VK → Prop := fun xs H Q => match xs with
  | [.ref a] => ∃ zs : List Str, SqL K H a (zs.map V.str) ∧ zs.length < 64 ∧ ∀ (ys : List Str) (p : Addr), ys.Perm zs → sortedS ys = true → H p = none → Q (.ref p) (upd H p (.lst (ys.map V.str)))
  | _ => False
theorem cr_sortedP {K : PySem.W.Frag} (hK : X.K = K) : CallR X (.builtin "sorted") (rSortedP K) := by
  subst hK
  intro pins s σ H xs us Q I r h
  unfold rSortedP at h
  split at h
  · obtain ⟨zs, a, b, q⟩ := h
    exact cr_sortedS pins s σ H _ us Q I r ⟨_, zs, rfl, a, b, q⟩
  · exact h.elim
/-! a module's constants -/
theorem pe_globS {x a : Str} {pos : Pos} (hg : Gl X x) (hm : ∃ t, X.mg x = some (.str a t)) (hd : (x == ("__debug__" : Str)) = false := by decide) : PE X (.Name x pos) (tC (.str a)) := by
  obtain ⟨t, h⟩ := hm
  exact pe_glob hg h ⟨t, rfl⟩ hd
theorem pe_globI {x : Str} {i : Int} {pos : Pos} (hg : Gl X x) (hm : ∃ t, X.mg x = some (.int i t)) (hd : (x == ("__debug__" : Str)) = false := by decide) : PE X (.Name x pos) (tC (.int i)) := by
  obtain ⟨t, h⟩ := hm
  exact pe_glob hg h ⟨t, rfl⟩ hd
end
/-! the library's own, the written part by its letter -/
section
variable {X : Cx} {K : PySem.W.Frag} {pos : Pos}
theorem pg_tupK (hK : X.K = K) {es : List Expr} {k : Nat} {t : TGs} {n : Nat} (hc : X.calm = true) (h : PGs X es t) (hn : (assignEach es X.env).length = n := by rfl) (hst : (assignEach es X.env).findIdx? (·.1) = none := by rfl) : PG X (.Tuple es k pos) (gTup K n t) := by
  subst hK; exact pg_tup hc h hn hst
theorem pi_listK (hK : X.K = K) {tg l : Expr} {tl : TE} (hl : PE X l tl) : PI X tg l (iList K tl) := by
  subst hK; exact pi_list hl
theorem pi_tupK (hK : X.K = K) {tg l : Expr} {tl : TE} (hl : PE X l tl) : PI X tg l (iTup K tl) := by
  subst hK; exact pi_tup hl
theorem pe_bmK (hK : X.K = K) {o e : Expr} {es : List Expr} {to : TE} {t : TA} {name : Str} {apos cpos : Pos} {T id : String} {r : V → List V → Hp → VK → Prop} (pa : PlainAttrs T) (slot : Slot T name id) (hty : typeOf (.builtin id) = pure (.type "method_descriptor")) (hm : MtR X id r) (ho : PE X o to) (ha : PA X (e :: es) t)
    (hbase : attributeBase o name X.env (eval o X.env) = eval o X.env := by rfl)
    (hfew : ((backTo cpos (starEach (e :: es) X.env)).all (fun x => !x.1) && (backToKw cpos (keywordEach [] X.env)).all (fun x => x.1.isSome)
      && decide ((e :: es).length + ([] : List Keyword).length + (if ([] : List Keyword).isEmpty then 0 else 1) < 30)) = true := by rfl)
    (hline : (apos.endLine == cpos.line) = true := by rfl) (hs : starEach (e :: es) X.env = (false, eval e X.env) :: starEach es X.env := by rfl) (hplain : (backTo cpos (starEach es X.env)).any (·.1) = false := by rfl) :
    PE X (.Call (.Attribute o name apos) (e :: es) [] cpos) (tBM K T r to t) := by
  subst hK; exact pe_bm pa slot hty hm ho ha hbase hfew hline hs hplain
theorem pe_bm0K (hK : X.K = K) {o : Expr} {to : TE} {name : Str} {apos cpos : Pos} {T id : String} {r : V → List V → Hp → VK → Prop} (pa : PlainAttrs T) (slot : Slot T name id) (hty : typeOf (.builtin id) = pure (.type "method_descriptor")) (hm : MtR X id r) (ho : PE X o to)
    (hbase : attributeBase o name X.env (eval o X.env) = eval o X.env := by rfl) (hline : (apos.endLine == cpos.line) = true := by rfl) : PE X (.Call (.Attribute o name apos) [] [] cpos) (tBM0 K T r to) := by
  subst hK; exact pe_bm0 pa slot hty hm ho hbase hline
end
/-! steps -/
section
variable {K : PySem.W.Frag} {H : Hp} {Q : VK} {QT : Bool → Hp → Prop} {B : List Addr}
theorem w_mulI {i j : Int} (h : CMul i j) (q : Q (.int (i * j)) H) : rMulP (.int i) (.int j) H Q := ⟨h, q⟩
theorem w_mulS {a : Str} {n : Int} (h : a.length ≤ 2000 ∧ n ≤ 2000 ∧ -(2 ^ 63) ≤ n) (q : Q (.str (Txt.mul a n)) H) : rMulP (.str a) (.int n) H Q := ⟨h, q⟩
theorem w_iaddI {i j : Int} (q : Q (.int (i + j)) H) : rIAddP (.int i) (.int j) H Q := q
theorem w_iaddS {a b : Str} (h : a.length + b.length ≤ sizeLine) (q : Q (.str (a ++ b)) H) : rIAddP (.str a) (.str b) H Q := ⟨h, q⟩
theorem w_s1 {g : Str → Str → V} {a b : Str} (q : Q (g a b) H) : mS1 g (.str a) [.str b] H Q := q
theorem w_s0 {C : Str → Prop} {g : Str → V} {a : Str} (h : C a) (q : Q (g a) H) : mS0 C g (.str a) [] H Q := ⟨h, q⟩
theorem w_isiS {n : String} {a : Str} {b : Bool} (h : kitB "str" n = some b) (q : Q (.bl b) H) : rIsiP K [.str a, .ty n] H Q := ⟨b, h, q⟩
theorem w_isiI {n : String} {a : Int} {b : Bool} (h : kitB "int" n = some b) (q : Q (.bl b) H) : rIsiP K [.int a, .ty n] H Q := ⟨b, h, q⟩
theorem w_isiB {n : String} {a : Bool} {b : Bool} (h : kitB "bool" n = some b) (q : Q (.bl b) H) : rIsiP K [.bl a, .ty n] H Q := ⟨b, h, q⟩
theorem w_isiN {n : String} {b : Bool} (h : kitB "NoneType" n = some b) (q : Q (.bl b) H) : rIsiP K [.non, .ty n] H Q := ⟨b, h, q⟩
theorem dp_lenL {p : Addr} {ds : List PyData} (h : Dp K (hid B H) (.ref p) (.list ds)) (q : Q (.int (ds.length : Nat)) H) : rLenP K [.ref p] H Q := by
  cases h with
  | lst hs ha =>
    refine ⟨_, .inl ⟨_, ex_l (hid_le B H) hs, rfl⟩, ?_⟩
    rw [DpAll.length ha]; exact q
theorem dp_lenT {p : Addr} {ds : List PyData} (h : Dp K (hid B H) (.ref p) (.tuple ds)) (q : Q (.int (ds.length : Nat)) H) : rLenP K [.ref p] H Q := by
  cases h with
  | tup hs ha =>
    refine ⟨_, .inr ⟨_, ex_t (hid_le B H) hs, rfl⟩, ?_⟩
    rw [DpAll.length ha]; exact q
end
theorem iteD {p : Prop} [Decidable p] {A B : Prop} (h1 : p → A) (h2 : ¬ p → B) : if decide p = true then A else B := by
  by_cases h : p
  · rw [decide_eq_true h]; exact iteT (h1 h)
  · rw [decide_eq_false h]; exact iteF (h2 h)
theorem iteN {p : Prop} [Decidable p] {A B : Prop} (h1 : ¬ p → A) (h2 : p → B) : if (!decide p) = true then A else B := by
  by_cases h : p
  · rw [decide_eq_true h]; exact iteF (h2 h)
  · rw [decide_eq_false h]; exact iteT (h1 h)
theorem iteB {b : Bool} {A B : Prop} (h1 : b = true → A) (h2 : b = false → B) : if b = true then A else B := by
  cases b with
  | true => exact iteT (h1 rfl)
  | false => exact iteF (h2 rfl)
theorem iteNB {b : Bool} {A B : Prop} (h1 : b = false → A) (h2 : b = true → B) : if (!b) = true then A else B := by
  cases b with
  | true => exact iteF (h2 rfl)
  | false => exact iteT (h1 rfl)
theorem szl {n : Nat} (h : n ≤ 16000000) : n ≤ sizeLine := Nat.le_trans h (by decide)
end Wb
namespace Wb
open PySem PySem.Spec PyProof.Rows L2
theorem len_app (a b : Str) : (a ++ b).length = a.length + b.length := by
  show (a.cps ++ b.cps).size = _
  rw [Array.size_append]; rfl
theorem len_nil : Str.length (Str.ofString "") = 0 := by decide +kernel
theorem atI_nat' {α : Type} {xs : List α} {i : Int} {v : α} (h0 : 0 ≤ i) (h : xs[i.toNat]? = some v) : atI xs i = some v := by
  have := atI_nat h
  rwa [show ((i.toNat : Nat) : Int) = i by omega] at this
section
variable {K : PySem.W.Frag} {H H' H0 : Hp} {Q : VK} {p q : Addr} {o : HO}
theorem w_ixH {xs : List V} {i : Int} {v : V} (h : H p = some (.lst xs)) (e : atI xs i = some v) (q : Q v H) : rIxP K (.ref p) (.int i) H Q := ⟨xs, v, .inl (.of h), e, q⟩
/-- all things of a list are texts that .. -/
def AllS (P : Str → Prop) : List V → Prop
  | [] => True
  | .str s :: r => P s ∧ AllS P r
  | _ => False
theorem AllS.get {P : Str → Prop} : ∀ {xs : List V} {i : Nat}, AllS P xs → i < xs.length → ∃ s, xs[i]? = some (.str s) ∧ P s
  | [], i, _, h => by simp at h
  | .str s :: r, 0, ⟨h, _⟩, _ => ⟨s, rfl, h⟩
  | .str s :: r, i + 1, ⟨_, h⟩, hl => by
    obtain ⟨t, a, b⟩ := AllS.get h (by simpa using hl)
    exact ⟨t, by simpa using a, b⟩
theorem w_pickS {xs : List V} {i : Int} (P : Str → Prop) (h : H p = some (.lst xs)) (h0 : 0 ≤ i) (h1 : i < xs.length) (hP : AllS P xs) (q : ∀ s, P s → Q (.str s) H) : rIxP K (.ref p) (.int i) H Q := by
  obtain ⟨s, a, b⟩ := AllS.get (i := i.toNat) hP (by omega)
  exact w_ixH h (atI_nat' h0 a) (q s b)
def AllI (P : Int → Prop) : List V → Prop
  | [] => True
  | .int s :: r => P s ∧ AllI P r
  | _ => False
theorem AllI.get {P : Int → Prop} : ∀ {xs : List V} {i : Nat}, AllI P xs → i < xs.length → ∃ s, xs[i]? = some (.int s) ∧ P s
  | [], i, _, h => by simp at h
  | .int s :: r, 0, ⟨h, _⟩, _ => ⟨s, rfl, h⟩
  | .int s :: r, i + 1, ⟨_, h⟩, hl => by
    obtain ⟨t, a, b⟩ := AllI.get h (by simpa using hl)
    exact ⟨t, by simpa using a, b⟩
theorem w_pickI {xs : List V} {i : Int} (P : Int → Prop) (h : H p = some (.lst xs)) (h0 : 0 ≤ i) (h1 : i < xs.length) (hP : AllI P xs) (q : ∀ s, P s → Q (.int s) H) : rIxP K (.ref p) (.int i) H Q := by
  obtain ⟨s, a, b⟩ := AllI.get (i := i.toNat) hP (by omega)
  exact w_ixH h (atI_nat' h0 a) (q s b)
/-- a pot: two numbers, none below 0 -/
def Pot (H : Hp) (p : Addr) : Prop := ∃ u w : Int, H p = some (.lst [.int u, .int w]) ∧ 0 ≤ u ∧ 0 ≤ w ∧ w < 2147483629
theorem Pot.ne (h : Pot H p) (n : H q = none) : q ≠ p := fun e => by
  obtain ⟨u, w, h, _⟩ := h
  rw [e, h] at n; cases n
theorem Pot.ex (h : Pot H p) (e : Ex H H') : Pot H' p := by
  obtain ⟨u, w, h, r⟩ := h
  exact ⟨u, w, e _ _ h, r⟩
/-- a way on which at most the pot changed -/
structure Stp (p : Addr) (H H' : Hp) : Prop where
  ex : Ex (hid [p] H) (hid [p] H')
  pot : Pot H' p
theorem Stp.refl (h : Pot H p) : Stp p H H := ⟨Ex.refl _, h⟩
theorem Stp.trans (a : Stp p H0 H) (b : Stp p H H') : Stp p H0 H' := ⟨a.ex.trans b.ex, b.pot⟩
theorem Stp.to (a : Stp p H0 H) (e : Ex H H') : Stp p H0 H' := ⟨a.ex.trans (ex_hid0 e), a.pot.ex e⟩
theorem Stp.new (a : Stp p H0 H) (h : H q = none) : Stp p H0 (upd H q o) := a.to (Ex.new h)
theorem Stp.at (a : Stp p H H') (h : H q = some o) (n : q ≠ p) : H' q = some o := by
  have := a.ex q o (by rw [hid_out (by simp [n])]; exact h)
  rwa [hid_out (by simp [n])] at this
/-- .. the pot written -/
theorem Stp.set {u w : Int} (a : Stp p H0 H) (hu : 0 ≤ u) (hw : 0 ≤ w) (hw2 : w < 2147483629) : Stp p H0 (upd H p (.lst [.int u, .int w])) :=
  ⟨a.ex.trans fun b x e => by
    by_cases z : b = p
    · subst z; rw [hid_in (by simp)] at e; cases e
    · rw [hid_out (by simp [z])] at e ⊢
      rw [upd_ne z]; exact e, ⟨u, w, upd_same, hu, hw, hw2⟩⟩
/-- a new pot, used up -/
theorem Stp.over (h : H p = none) (e : Ex H H0) (s : Stp p H0 H') : Ex H H' := fun a o ha => s.at (e a o ha) (ne_of_none ha h)
end
end Wb
namespace Wb
open PySem PySem.Spec PyProof.Rows L2
theorem ll {n : Nat} (h : Nat.ble n 1000 = true) : n ≤ sizeLine := Nat.le_trans (Nat.le_of_ble_eq_true h) (by decide)
theorem ll' {n : Nat} (h : n ≤ 1000000) : n ≤ sizeLine := Nat.le_trans h (by decide)
theorem ltl {n : Nat} (h : n ≤ 1000000) : n < sizeLine := Nat.lt_of_le_of_lt h (by decide)
section
variable {K : PySem.W.Frag} {σ : L2.St} {H : Hp} {Q : VK} {te tl : TE} {tt : TT} {g : TG} {wi : TI} {vs : List Nat} {ta : TA} {R : It → Hp → Prop} {D : Ends} {tb : TS}
theorem w_lc (q : wi σ H fun J H1 => ∀ D, H1 D = none → ∃ W : Nat → Nat → Hp → Prop, (∃ m, W 0 m (upd H1 D (.lst []))) ∧ ∀ i m H, W i m H →
  (J.stop i H ∧ Q (.ref D) H) ∨ (J.go i H ∧ ∃ Nx : Hp → Prop, (∀ H', Nx H' → ∃ m', m' < m ∧ W (i + 1) m' H') ∧ ∀ x H', J.yld i H x H' → g x (wipe σ vs) H' fun σ2 H2 => wipe σ2 vs = wipe σ vs ∧ tt σ2 H2 fun b H3 =>
    if b = true then te σ2 H3 fun y H4 => ∃ acc, H4 D = some (.lst acc) ∧ acc.length < sizeLine ∧ Nx (upd H4 D (.lst (acc ++ [y]))) else Nx H3)) : tLc wi g tt te vs σ H Q := q
theorem w_rng1 (q : ta σ H fun vs H1 => ∃ j : Int, vs = [.int j] ∧ -(2 ^ 62) ≤ j ∧ j < 2 ^ 62 ∧ R (Itr 0 j.toNat) H1) : iRng1 ta σ H R := q
theorem w_rngI {d : Int} (h1 : -(2 ^ 62) ≤ d) (h2 : d < 2 ^ 62) (q : R (Itr 0 d.toNat) H) : ∃ j : Int, [V.int d] = [.int j] ∧ -(2 ^ 62) ≤ j ∧ j < 2 ^ 62 ∧ R (Itr 0 j.toNat) H := ⟨d, rfl, h1, h2, q⟩
theorem w_rng2 (q : ta σ H fun vs H1 => ∃ i j : Int, vs = [.int i, .int j] ∧ (-(2 ^ 62) ≤ i ∧ i < 2 ^ 62 ∧ -(2 ^ 62) ≤ j ∧ j < 2 ^ 62) ∧ R (Itr i (j - i).toNat) H1) : iRng2 ta σ H R := q
theorem w_rngII {a d : Int} (h1 : -(2 ^ 62) ≤ a ∧ a < 2 ^ 62 ∧ -(2 ^ 62) ≤ d ∧ d < 2 ^ 62) (q : R (Itr a (d - a).toNat) H) : ∃ i j : Int, [V.int a, V.int d] = [.int i, .int j] ∧ (-(2 ^ 62) ≤ i ∧ i < 2 ^ 62 ∧ -(2 ^ 62) ≤ j ∧ j < 2 ^ 62) ∧ R (Itr i (j - i).toNat) H := ⟨a, d, rfl, h1, q⟩
theorem w_ilist (q : tl σ H fun x H1 => ∃ a, x = .ref a ∧ (∃ xs, SqL K H1 a xs) ∧ R (Itl K a) H1) : iList K tl σ H R := q
theorem w_ilistR {a : Addr} {xs : List V} (h : SqL K H a xs) (q : R (Itl K a) H) : ∃ a', V.ref a = .ref a' ∧ (∃ xs, SqL K H a' xs) ∧ R (Itl K a') H := ⟨a, rfl, ⟨xs, h⟩, q⟩
theorem w_for (q : wi σ H fun J H1 => ∃ W : Nat → Nat → L2.St → Hp → Prop, (∃ m, W 0 m σ H1) ∧ ∀ i m σ H, W i m σ H →
  (J.stop i H ∧ D.nx σ H) ∨ (J.go i H ∧ ∃ N : L2.St → Hp → Prop, (∀ σ' H', N σ' H' → ∃ m', m' < m ∧ W (i + 1) m' σ' H') ∧ ∀ x H', J.yld i H x H' → g x σ H' fun σ2 H2 => tb { D with nx := N, ct := N, bk := D.nx } σ2 H2)) : tFor wi g tb D σ H := q
theorem w_yes {QT : Bool → Hp → Prop} (q : QT true H) : tYes σ H QT := q
/-- append -/
theorem w_append {l : Addr} {xs : List V} {y : V} (h : H l = some (.lst xs)) (hz : xs.length < sizeLine) (q : Q .non (upd H l (.lst (xs ++ [y])))) : tyV K "list" (.ref l) H ∧ (rAppend (.ref l) [y] H Q) := ⟨.inl ⟨rfl, _, .inl (.inl h)⟩, l, xs, y, rfl, rfl, h, hz, q⟩
end
/-- the list under way: new since H0, so off what stood -/
theorem Stp.push {p D : Addr} {H0 H : Hp} {xs : List V} (s : Stp p H0 H) (h : H0 D = none) (n : D ≠ p) : Stp p H0 (upd H D (.lst xs)) :=
  ⟨fun a o e => by
    have h1 := s.ex a o e
    have h2 := hid_le _ _ _ _ e
    have h3 : a ≠ D := ne_of_none h2 h
    by_cases z : a ∈ [p]
    · rw [hid_in z] at e; cases e
    · rw [hid_out z] at h1 ⊢
      rw [upd_ne h3]; exact h1, by
    obtain ⟨u, w, e, r⟩ := s.pot
    exact ⟨u, w, by rw [upd_ne n.symm]; exact e, r⟩⟩
end Wb
namespace Wb
open PySem PySem.Spec PyProof.Rows L2
/-- what is free behind was free ahead -/
theorem Stp.free {p q : Addr} {H H' : Hp} (s : Stp p H H') (hp : Pot H p) (h : H' q = none) : H q = none := by
  cases e : H q with
  | none => rfl
  | some o =>
    have n : q ≠ p := s.pot.ne h
    rw [s.at e n] at h; cases h
end Wb
namespace Wb
open PySem PySem.Spec PyProof.Rows L2
def rR1 : List V → Hp → (It → Hp → Prop) → Prop := fun vs H R => match vs with
  | [.int j] => (-(2 ^ 62) ≤ j ∧ j < 2 ^ 62) ∧ R (Itr 0 j.toNat) H
  | _ => False
def rR2 : List V → Hp → (It → Hp → Prop) → Prop := fun vs H R => match vs with
  | [.int i, .int j] => (-(2 ^ 62) ≤ i ∧ i < 2 ^ 62 ∧ -(2 ^ 62) ≤ j ∧ j < 2 ^ 62) ∧ R (Itr i (j - i).toNat) H
  | _ => False
def iR1 (ta : TA) : TI := fun σ H R => ta σ H fun vs H1 => rR1 vs H1 R
def iR2 (ta : TA) : TI := fun σ H R => ta σ H fun vs H1 => rR2 vs H1 R
theorem pi_range1P {X : Cx} {tg : Expr} {a : Expr} {ta : TA} {p pos : Pos} (hg : Gl X "range") (hm : X.mg "range" = none) (ha : PA X [a] ta) (hs : starEach [a] X.env = [(false, eval a X.env)] := by rfl) : PI X tg (.Call (.Name "range" p) [a] [] pos) (iR1 ta) := by
  refine ⟨fun pins s σ H R I h => ?_⟩
  refine Call_ (ld_blt I hg hm boot_range (PyProof.Rows.callWith_type1 (thn (ha.run pos pins s σ H _ I h) fun us s1 ⟨vs, H1, I1, r1, q1⟩ => ?_) hs rfl))
  have q1 : rR1 vs H1 R := q1
  unfold rR1 at q1
  split at q1
  · obtain ⟨⟨q1, q2⟩, q⟩ := q1
    cases r1 with
    | cons r rr =>
      cases rr
      obtain ⟨t, rfl⟩ := r
      exact call_range_1 (range_it I1 (by omega) (by omega) q1 q2 (by simpa using q))
  · exact q1.elim
theorem pi_range2P {X : Cx} {tg : Expr} {a b : Expr} {ta : TA} {p pos : Pos} (hg : Gl X "range") (hm : X.mg "range" = none) (ha : PA X [a, b] ta) (hs : starEach [a, b] X.env = [(false, eval a X.env), (false, eval b X.env)] := by rfl) (hs2 : starEach [b] X.env = [(false, eval b X.env)] := by rfl) :
    PI X tg (.Call (.Name "range" p) [a, b] [] pos) (iR2 ta) := by
  refine ⟨fun pins s σ H R I h => ?_⟩
  refine Call_ (ld_blt I hg hm boot_range (PyProof.Rows.callWith_type1 (thn (ha.run pos pins s σ H _ I h) fun us s1 ⟨vs, H1, I1, r1, q1⟩ => ?_) (by rw [hs, hs2]) (by rw [hs2]; rfl)))
  have q1 : rR2 vs H1 R := q1
  unfold rR2 at q1
  split at q1
  · obtain ⟨⟨a1, a2, a3, a4⟩, q⟩ := q1
    cases r1 with
    | cons r rr =>
      cases rr with
      | cons r' rr' =>
        cases rr'
        obtain ⟨t, rfl⟩ := r
        obtain ⟨t', rfl⟩ := r'
        exact call_range_2 (range_it I1 a1 a2 a3 a4 q)
  · exact q1.elim
section
variable {σ : L2.St} {H : Hp} {ta : TA} {R : It → Hp → Prop}
theorem w_r1 (q : ta σ H fun vs H1 => rR1 vs H1 R) : iR1 ta σ H R := q
theorem w_r2 (q : ta σ H fun vs H1 => rR2 vs H1 R) : iR2 ta σ H R := q
theorem w_r1I {d : Int} (h : -(2 ^ 62) ≤ d ∧ d < 2 ^ 62) (q : R (Itr 0 d.toNat) H) : rR1 [.int d] H R := ⟨h, q⟩
theorem w_r2I {a d : Int} (h : -(2 ^ 62) ≤ a ∧ a < 2 ^ 62 ∧ -(2 ^ 62) ≤ d ∧ d < 2 ^ 62) (q : R (Itr a (d - a).toNat) H) : rR2 [.int a, .int d] H R := ⟨h, q⟩
end
end Wb

set_option Elab.async false
set_option linter.all false
set_option maxRecDepth 100000
/-! texts as lists of signs -/
namespace Wb
open PySem PySem.Spec PyProof.Rows L2
open TL (tl)
theorem tl_len (a : Str) : a.length = (tl a).length := TL.len_tl a
theorem str_eq {a b : Str} : a = b ↔ tl a = tl b := ⟨fun h => by rw [h], TL.ext_tl⟩
theorem tl_app (a b : Str) : tl (a ++ b) = tl a ++ tl b := TL.tl_append a b
theorem starts_tl (a b : Str) : Txt.startswith a b = (tl b).isPrefixOf (tl a) := by
  unfold Txt.startswith
  rw [StrLaws.subAt_eq, Nat.zero_add, List.drop_zero, tl_len, tl_len]
  show (decide ((tl b).length ≤ (tl a).length) && (List.take (tl b).length (tl a) == tl b)) = _
  generalize tl a = x
  generalize tl b = y
  by_cases h : y <+: x
  · rw [List.isPrefixOf_iff_prefix.mpr h, ← List.prefix_iff_eq_take.mp h, decide_eq_true h.length_le]
    simp
  · have e : y.isPrefixOf x = false := by
      cases q : y.isPrefixOf x
      · rfl
      · exact absurd (List.isPrefixOf_iff_prefix.mp q) h
    rw [e]
    cases q : (List.take y.length x == y)
    · simp
    · exact absurd (List.prefix_iff_eq_take.mpr (beq_iff_eq.mp q).symm) h
theorem starts_iff {a b : Str} : Txt.startswith a b = true ↔ tl b <+: tl a := by
  rw [starts_tl]; exact List.isPrefixOf_iff_prefix
theorem tl_cut (z : Str) (lo hi : Option Int) : tl (cutS z lo hi) = ((tl z).drop (HT.sIx (tl z).length 0 lo)).take (HT.sIx (tl z).length (tl z).length hi - HT.sIx (tl z).length 0 lo) := by
  show tl ⟨_⟩ = _
  rw [TL.tl_mk, tl_len]
theorem tl_one (c : Nat) : tl ⟨#[c]⟩ = [c] := rfl
end Wb
namespace Wb
open PySem PySem.Spec PyProof.Rows L2
section
variable {σ : L2.St} {H : Hp} {c : TT} {tb t u : TS} {D : Ends} {wi : TI} {g : TG}
/-- what follows a loop, an if: proved once -/
theorem w_whileZ (Z : L2.St → Hp → Prop) (hz : ∀ σ H, Z σ H → D.nx σ H) (h : (∀ σ H, Z σ H → D.nx σ H) → ∃ W : Nat → L2.St → Hp → Prop, (∃ m, W m σ H) ∧ ∀ m σ H, W m σ H →
  c σ H fun b H1 => if b = true then ∃ N : L2.St → Hp → Prop, (∀ σ' H', N σ' H' → ∃ m', m' < m ∧ W m' σ' H') ∧ tb { D with nx := N, ct := N, bk := D.nx } σ H1 else D.nx σ H1) : tWhile c tb D σ H := h hz
theorem w_ifZ (Z : L2.St → Hp → Prop) (hz : ∀ σ H, Z σ H → D.nx σ H) (h : (∀ σ H, Z σ H → D.nx σ H) → c σ H fun b H1 => if b = true then t D σ H1 else u D σ H1) : tIfS c t u D σ H := h hz
end
end Wb
namespace Wb
open PySem PySem.Spec PyProof.Rows L2
section
variable {K : PySem.W.Frag} {H : Hp} {Q : VK}
theorem w_isiS_str {a : Str} (q : Q (.bl true) H) : rIsiP K [.str a, .ty "str"] H Q := ⟨true, by decide +kernel, q⟩
theorem w_isiS_int {a : Str} (q : Q (.bl false) H) : rIsiP K [.str a, .ty "int"] H Q := ⟨false, by decide +kernel, q⟩
theorem w_isiS_bool {a : Str} (q : Q (.bl false) H) : rIsiP K [.str a, .ty "bool"] H Q := ⟨false, by decide +kernel, q⟩
theorem w_isiS_list {a : Str} (q : Q (.bl false) H) : rIsiP K [.str a, .ty "list"] H Q := ⟨false, by decide +kernel, q⟩
theorem w_isiS_tuple {a : Str} (q : Q (.bl false) H) : rIsiP K [.str a, .ty "tuple"] H Q := ⟨false, by decide +kernel, q⟩
theorem w_isiS_dict {a : Str} (q : Q (.bl false) H) : rIsiP K [.str a, .ty "dict"] H Q := ⟨false, by decide +kernel, q⟩
theorem w_isiI_str {a : Int} (q : Q (.bl false) H) : rIsiP K [.int a, .ty "str"] H Q := ⟨false, by decide +kernel, q⟩
theorem w_isiI_int {a : Int} (q : Q (.bl true) H) : rIsiP K [.int a, .ty "int"] H Q := ⟨true, by decide +kernel, q⟩
theorem w_isiI_bool {a : Int} (q : Q (.bl false) H) : rIsiP K [.int a, .ty "bool"] H Q := ⟨false, by decide +kernel, q⟩
theorem w_isiI_list {a : Int} (q : Q (.bl false) H) : rIsiP K [.int a, .ty "list"] H Q := ⟨false, by decide +kernel, q⟩
theorem w_isiI_tuple {a : Int} (q : Q (.bl false) H) : rIsiP K [.int a, .ty "tuple"] H Q := ⟨false, by decide +kernel, q⟩
theorem w_isiI_dict {a : Int} (q : Q (.bl false) H) : rIsiP K [.int a, .ty "dict"] H Q := ⟨false, by decide +kernel, q⟩
theorem w_isiB_str {a : Bool} (q : Q (.bl false) H) : rIsiP K [.bl a, .ty "str"] H Q := ⟨false, by decide +kernel, q⟩
theorem w_isiB_int {a : Bool} (q : Q (.bl true) H) : rIsiP K [.bl a, .ty "int"] H Q := ⟨true, by decide +kernel, q⟩
theorem w_isiB_bool {a : Bool} (q : Q (.bl true) H) : rIsiP K [.bl a, .ty "bool"] H Q := ⟨true, by decide +kernel, q⟩
theorem w_isiB_list {a : Bool} (q : Q (.bl false) H) : rIsiP K [.bl a, .ty "list"] H Q := ⟨false, by decide +kernel, q⟩
theorem w_isiB_tuple {a : Bool} (q : Q (.bl false) H) : rIsiP K [.bl a, .ty "tuple"] H Q := ⟨false, by decide +kernel, q⟩
theorem w_isiB_dict {a : Bool} (q : Q (.bl false) H) : rIsiP K [.bl a, .ty "dict"] H Q := ⟨false, by decide +kernel, q⟩
theorem w_isiN_str  (q : Q (.bl false) H) : rIsiP K [.non, .ty "str"] H Q := ⟨false, by decide +kernel, q⟩
theorem w_isiN_int  (q : Q (.bl false) H) : rIsiP K [.non, .ty "int"] H Q := ⟨false, by decide +kernel, q⟩
theorem w_isiN_bool  (q : Q (.bl false) H) : rIsiP K [.non, .ty "bool"] H Q := ⟨false, by decide +kernel, q⟩
theorem w_isiN_list  (q : Q (.bl false) H) : rIsiP K [.non, .ty "list"] H Q := ⟨false, by decide +kernel, q⟩
theorem w_isiN_tuple  (q : Q (.bl false) H) : rIsiP K [.non, .ty "tuple"] H Q := ⟨false, by decide +kernel, q⟩
theorem w_isiN_dict  (q : Q (.bl false) H) : rIsiP K [.non, .ty "dict"] H Q := ⟨false, by decide +kernel, q⟩
theorem w_isi_list_str {p : Addr} {xs : List V} (h : H p = some (.lst xs)) (q : Q (.bl false) H) : rIsiP K [.ref p, .ty "str"] H Q := ⟨"list", false, .base (.lst h), by decide +kernel, q⟩
theorem w_isi_list_int {p : Addr} {xs : List V} (h : H p = some (.lst xs)) (q : Q (.bl false) H) : rIsiP K [.ref p, .ty "int"] H Q := ⟨"list", false, .base (.lst h), by decide +kernel, q⟩
theorem w_isi_list_bool {p : Addr} {xs : List V} (h : H p = some (.lst xs)) (q : Q (.bl false) H) : rIsiP K [.ref p, .ty "bool"] H Q := ⟨"list", false, .base (.lst h), by decide +kernel, q⟩
theorem w_isi_list_list {p : Addr} {xs : List V} (h : H p = some (.lst xs)) (q : Q (.bl true) H) : rIsiP K [.ref p, .ty "list"] H Q := ⟨"list", true, .base (.lst h), by decide +kernel, q⟩
theorem w_isi_list_tuple {p : Addr} {xs : List V} (h : H p = some (.lst xs)) (q : Q (.bl false) H) : rIsiP K [.ref p, .ty "tuple"] H Q := ⟨"list", false, .base (.lst h), by decide +kernel, q⟩
theorem w_isi_list_dict {p : Addr} {xs : List V} (h : H p = some (.lst xs)) (q : Q (.bl false) H) : rIsiP K [.ref p, .ty "dict"] H Q := ⟨"list", false, .base (.lst h), by decide +kernel, q⟩
theorem w_isi_tuple_str {p : Addr} {xs : List V} (h : H p = some (.tup xs)) (q : Q (.bl false) H) : rIsiP K [.ref p, .ty "str"] H Q := ⟨"tuple", false, .base (.tup h), by decide +kernel, q⟩
theorem w_isi_tuple_int {p : Addr} {xs : List V} (h : H p = some (.tup xs)) (q : Q (.bl false) H) : rIsiP K [.ref p, .ty "int"] H Q := ⟨"tuple", false, .base (.tup h), by decide +kernel, q⟩
theorem w_isi_tuple_bool {p : Addr} {xs : List V} (h : H p = some (.tup xs)) (q : Q (.bl false) H) : rIsiP K [.ref p, .ty "bool"] H Q := ⟨"tuple", false, .base (.tup h), by decide +kernel, q⟩
theorem w_isi_tuple_list {p : Addr} {xs : List V} (h : H p = some (.tup xs)) (q : Q (.bl false) H) : rIsiP K [.ref p, .ty "list"] H Q := ⟨"tuple", false, .base (.tup h), by decide +kernel, q⟩
theorem w_isi_tuple_tuple {p : Addr} {xs : List V} (h : H p = some (.tup xs)) (q : Q (.bl true) H) : rIsiP K [.ref p, .ty "tuple"] H Q := ⟨"tuple", true, .base (.tup h), by decide +kernel, q⟩
theorem w_isi_tuple_dict {p : Addr} {xs : List V} (h : H p = some (.tup xs)) (q : Q (.bl false) H) : rIsiP K [.ref p, .ty "dict"] H Q := ⟨"tuple", false, .base (.tup h), by decide +kernel, q⟩
end
end Wb
namespace Wb
theorem iteNT {A B : Prop} (h : B) : if (!true) = true then A else B := L2.iteF h
theorem iteNF {A B : Prop} (h : A) : if (!false) = true then A else B := L2.iteT h
end Wb

set_option Elab.async false
set_option linter.all false
set_option maxRecDepth 100000
namespace Wb
open PySem PySem.Spec PyProof.Rows L2
open TL (tl)
/-! sorted lists of texts -/
def leS (a b : Str) : Bool := !decide (tl b < tl a)
theorem leS_iff {a b : Str} : leS a b = true ↔ tl a ≤ tl b := by
  unfold leS
  rw [Bool.not_eq_true', decide_eq_false_iff_not]; exact List.not_lt
theorem leS_trans {a b c : Str} (h1 : leS a b = true) (h2 : leS b c = true) : leS a c = true := leS_iff.mpr (List.le_trans (leS_iff.mp h1) (leS_iff.mp h2))
theorem leS_total (a b : Str) : (leS a b || leS b a) = true := by
  rcases List.le_total (tl a) (tl b) with h | h
  · rw [leS_iff.mpr h]; rfl
  · rw [leS_iff.mpr h]; simp
theorem leS_anti {a b : Str} (h1 : leS a b = true) (h2 : leS b a = true) : a = b := TL.ext_tl (List.le_antisymm (leS_iff.mp h1) (leS_iff.mp h2))
def sortS (l : List Str) : List Str := l.mergeSort leS
theorem sortS_perm (l : List Str) : (sortS l).Perm l := List.mergeSort_perm l leS
theorem sortS_pw (l : List Str) : (sortS l).Pairwise fun a b => leS a b = true := List.pairwise_mergeSort (le := leS) (fun a b c => leS_trans) leS_total l
theorem rising_pw : ∀ {l : List Str} {p : Str}, risingS p l = true → (∀ x ∈ l, leS p x = true) ∧ l.Pairwise fun a b => leS a b = true
  | [], p, _ => ⟨fun _ h => (nomatch h), List.Pairwise.nil⟩
  | x :: r, p, h => by
    unfold risingS at h
    rw [Bool.and_eq_true, Bool.not_eq_true', ltCps_eq] at h
    obtain ⟨h1, h2⟩ := h
    have e : leS p x = true := by unfold leS; rw [h1]; rfl
    obtain ⟨a, b⟩ := rising_pw h2
    refine ⟨fun y hy => ?_, .cons a b⟩
    rcases List.mem_cons.mp hy with rfl | hy
    · exact e
    · exact leS_trans e (a y hy)
theorem sortedS_pw {l : List Str} (h : sortedS l = true) : l.Pairwise fun a b => leS a b = true := by
  cases l with
  | nil => exact .nil
  | cons x r => obtain ⟨a, b⟩ := rising_pw h; exact .cons a b
theorem pw_unique : ∀ {l m : List Str}, l.Perm m → l.Pairwise (fun a b => leS a b = true) → m.Pairwise (fun a b => leS a b = true) → l = m
  | [], m, p, _, _ => p.nil_eq
  | x :: l, [], p, _, _ => by simp at p
  | x :: l, y :: m, p, h1, h2 => by
    have e : x = y := by
      have hx : x ∈ y :: m := p.mem_iff.mp (List.mem_cons_self ..)
      have hy : y ∈ x :: l := p.mem_iff.mpr (List.mem_cons_self ..)
      rcases List.mem_cons.mp hx with h | hx
      · exact h
      · rcases List.mem_cons.mp hy with h | hy
        · exact h.symm
        · exact leS_anti (List.rel_of_pairwise_cons h1 hy) (List.rel_of_pairwise_cons h2 hx)
    subst e
    rw [pw_unique (List.perm_cons x |>.mp p) (List.pairwise_cons.mp h1).2 (List.pairwise_cons.mp h2).2]
theorem sort_is {ys zs : List Str} (p : ys.Perm zs) (h : sortedS ys = true) : ys = sortS zs := pw_unique (p.trans (sortS_perm zs).symm) (sortedS_pw h) (sortS_pw zs)
theorem sortS_congr {l m : List Str} (p : l.Perm m) : sortS l = sortS m := pw_unique (((sortS_perm l).trans p).trans (sortS_perm m).symm) (sortS_pw l) (sortS_pw m)
section
variable {K : PySem.W.Frag} {H : Hp} {Q : VK} {B : List Addr}
theorem w_sorted {a : Addr} {zs : List Str} (h : SqL K H a (zs.map V.str)) (hz : zs.length < 64) (q : ∀ p, H p = none → Q (.ref p) (upd H p (.lst ((sortS zs).map V.str)))) : rSortedP K [.ref a] H Q :=
  ⟨zs, h, hz, fun ys p hp hs np => by rw [sort_is hp hs]; exact q p np⟩
/-! == of lists of texts -/
theorem dp_strs {a : Addr} {xs : List Str} (h : SqL K H a (xs.map V.str)) : Dp K H (.ref a) (.list (xs.map PyData.str)) := .lst h (dpall_strs xs)
theorem dp_strs_inv {v : V} {xs : List Str} (h : Dp K H v (.list (xs.map PyData.str))) : ∃ a, v = .ref a ∧ SqL K H a (xs.map V.str) := by
  cases h with
  | lst hs ha => rw [dpall_strs_inv ha] at hs; exact ⟨_, rfl, hs⟩
end
end Wb
namespace Wb
open PySem PySem.Spec PyProof.Rows L2
open TL (tl)
/-- a text of signs from the blank to the tilde -/
def Gd (t : Str) : Prop := ∀ c ∈ tl t, 32 ≤ c ∧ c < 127
theorem Gd.app {a b : Str} (h : Gd a) (k : Gd b) : Gd (a ++ b) := fun c hc => by
  rw [tl_app] at hc
  rcases List.mem_append.mp hc with z | z
  · exact h c z
  · exact k c z
theorem Gd.cut {a : Str} {lo hi : Option Int} (h : Gd a) : Gd (cutS a lo hi) := fun c hc => by
  rw [tl_cut] at hc
  exact h c (List.mem_of_mem_drop (List.mem_of_mem_take hc))
theorem Gd.of {a b : Str} (h : Gd b) (k : ∀ c ∈ a.cps.toList, c ∈ b.cps.toList) : Gd a := fun c hc => h c (k c hc)
theorem Gd.ok {a : Str} (h : Gd a) : PyData.strOk a = true := by
  unfold PyData.strOk
  rw [Array.all_eq_true']
  intro x hx
  have := (h x (by simpa [TL.tl] using hx)).2
  simp; omega
theorem gd_all {a : Str} (h : (tl a).all (fun c => decide (32 ≤ c ∧ c < 127)) = true) : Gd a := fun c hc => of_decide_eq_true (List.all_eq_true.mp h c hc)
theorem gd_ok {s : String} (h : (tl (Str.ofString s)).all (fun c => decide (32 ≤ c ∧ c < 127)) = true) : Gd (Str.ofString s) := fun c hc => of_decide_eq_true (List.all_eq_true.mp h c hc)
theorem depth_strs : ∀ xs : List Str, PyData.depthAll (xs.map PyData.str) ≤ 1
  | [] => by simp [PyData.depthAll]
  | x :: xs => by
    have := depth_strs xs
    simp [PyData.depthAll, PyData.depth]; omega
theorem lay_strs : ∀ xs : List Str, (∀ x ∈ xs, Gd x) → PyData.canLayAll0 (xs.map PyData.str) = true
  | [], _ => rfl
  | x :: xs, h => by
    show (PyData.canLay0 (.str x) && PyData.canLayAll0 (xs.map PyData.str)) = true
    rw [lay_strs xs fun y hy => h y (by simp [hy])]
    show (PyData.strOk x && true) = true
    rw [(h x (by simp)).ok]; rfl
theorem eqv_strs : ∀ xs ys : List Str, PyData.eqvAll (xs.map PyData.str) (ys.map PyData.str) = decide (xs = ys)
  | [], [] => by simp [PyData.eqvAll]
  | [], y :: ys => by simp [PyData.eqvAll]
  | x :: xs, [] => by simp [PyData.eqvAll]
  | x :: xs, y :: ys => by
    rw [List.map_cons, List.map_cons, PyData.eqvAll, eqv_strs xs ys, PyData.eqv]
    by_cases h1 : x = y <;> by_cases h2 : xs = ys <;> simp [h1, h2]
theorem shaped_strs {xs : List Str} (h : ∀ x ∈ xs, Gd x) : SeqAt.shaped (.list (xs.map PyData.str)) = true := by
  unfold SeqAt.shaped
  rw [show PyData.canLay0 (.list (xs.map PyData.str)) = true from lay_strs xs h]
  have := depth_strs xs
  simp [PyData.depth]; omega
section
variable {K : PySem.W.Frag} {H : Hp} {Q : VK} {B B' : List Addr} {a b : Addr} {xs ys : List Str}
theorem w_eqLS (ha : Dp K H (.ref a) (.list (xs.map PyData.str))) (hb : Dp K H (.ref b) (.list (ys.map PyData.str))) (ga : ∀ x ∈ xs, Gd x) (gb : ∀ x ∈ ys, Gd x) (q : Q (.bl (decide (xs = ys))) H) : rEqP K (.ref a) (.ref b) H Q :=
  ⟨_, _, ha, hb, shaped_strs ga, shaped_strs gb, by rw [show PyData.eqv (.list (xs.map PyData.str)) (.list (ys.map PyData.str)) = decide (xs = ys) from (by rw [PyData.eqv]; exact eqv_strs xs ys)]; exact q⟩
theorem w_neLS (ha : Dp K H (.ref a) (.list (xs.map PyData.str))) (hb : Dp K H (.ref b) (.list (ys.map PyData.str))) (ga : ∀ x ∈ xs, Gd x) (gb : ∀ x ∈ ys, Gd x) (q : Q (.bl (!decide (xs = ys))) H) : rNeP K (.ref a) (.ref b) H Q :=
  ⟨_, _, ha, hb, shaped_strs ga, shaped_strs gb, by rw [show PyData.eqv (.list (xs.map PyData.str)) (.list (ys.map PyData.str)) = decide (xs = ys) from (by rw [PyData.eqv]; exact eqv_strs xs ys)]; exact q⟩
theorem inV_strs (x : Str) : ∀ xs : List Str, inV (.str x) (xs.map V.str) = decide (x ∈ xs)
  | [] => by simp [inV]
  | y :: ys => by
    have := inV_strs x ys
    unfold inV at this ⊢
    rw [List.map_cons, List.any_cons, this]
    show ((y == x) || _) = _
    by_cases h : y = x
    · subst h; simp
    · have h' : ¬ x = y := fun z => h z.symm
      simp [h, h']
theorem flat_strs (xs : List Str) : (xs.map V.str).all flatV = true := by
  rw [List.all_map]; exact List.all_eq_true.mpr fun _ _ => rfl
theorem w_inLS {x : Str} (h : SqL K H a (xs.map V.str)) (q : Q (.bl (decide (x ∈ xs))) H) : rInP K false (.str x) (.ref a) H Q :=
  ⟨a, xs.map V.str, rfl, .inl h, rfl, flat_strs xs, by rw [inV_strs]; exact q⟩
theorem w_ninLS {x : Str} (h : SqL K H a (xs.map V.str)) (q : Q (.bl (!decide (x ∈ xs))) H) : rInP K true (.str x) (.ref a) H Q :=
  ⟨a, xs.map V.str, rfl, .inl h, rfl, flat_strs xs, by rw [inV_strs]; exact q⟩
theorem w_ixLS {i : Int} (h : SqL K H a (xs.map V.str)) (h0 : 0 ≤ i) (h1 : i < xs.length) (q : ∀ x ∈ xs, Q (.str x) H) : rIxP K (.ref a) (.int i) H Q := by
  have hl : i.toNat < xs.length := by omega
  exact ⟨_, _, .inl h, atI_nat' h0 (by rw [List.getElem?_map, List.getElem?_eq_getElem hl]; rfl), q _ (List.getElem_mem hl)⟩
theorem w_lenL {vs : List V} (h : SqL K H a vs) (q : Q (.int (vs.length : Nat)) H) : rLenP K [.ref a] H Q := ⟨_, .inl ⟨_, h, rfl⟩, q⟩
theorem w_list {vs : List V} (h : SqL K H a vs) (q : ∀ l, H l = none → Q (.ref l) (upd H l (.lst vs))) : rListP K [.ref a] H Q := ⟨vs, .inl h, q⟩
end
/-- a comprehension whose element and test change nothing that stood -/
theorem lc_pure {K : PySem.W.Frag} {a : Addr} {xs : List V} {g : TG} {tt : TT} {te : TE} {vs : List Nat} {σ : L2.St} {H1 : Hp} {D : Addr} {Qd : Hp → Prop} (f : V → Bool) (e : V → V) (hl : SqL K H1 a xs) (hz : xs.length ≤ 1000000) (nD : H1 D = none)
    (hs : ∀ x ∈ xs, ∀ H2, Ex H1 H2 → ∀ (Z : V → Hp → Prop) (N : Hp → Prop), (f x = true → ∀ H3, Ex H2 H3 → Z (e x) H3) → (f x = false → ∀ H3, Ex H2 H3 → N H3) →
      g x (wipe σ vs) H2 fun σ2 H3 => wipe σ2 vs = wipe σ vs ∧ tt σ2 H3 fun b H4 => if b = true then te σ2 H4 fun y H5 => Z y H5 else N H4)
    (hd : ∀ H2, Ex H1 H2 → H2 D = some (.lst ((xs.filter f).map e)) → Qd H2) :
    ∃ W : Nat → Nat → Hp → Prop, (∃ m, W 0 m (upd H1 D (.lst []))) ∧ ∀ i m H, W i m H →
      ((Itl K a).stop i H ∧ Qd H) ∨ ((Itl K a).go i H ∧ ∃ Nx : Hp → Prop, (∀ H', Nx H' → ∃ m', m' < m ∧ W (i + 1) m' H') ∧ ∀ x H', (Itl K a).yld i H x H' → g x (wipe σ vs) H' fun σ2 H2 => wipe σ2 vs = wipe σ vs ∧ tt σ2 H2 fun b H3 =>
        if b = true then te σ2 H3 fun y H4 => ∃ acc, H4 D = some (.lst acc) ∧ acc.length < sizeLine ∧ Nx (upd H4 D (.lst (acc ++ [y]))) else Nx H3) := by
  refine lc_list (K := K) (a := a) (xs := xs) (fun i H => Ex H1 H ∧ H D = some (.lst (((xs.take i).filter f).map e))) ⟨Ex.new nD, upd_same⟩ (fun i H _ hP => ex_l hP.1 hl) (fun i x H hx hP => ?_) (fun H hP => hd H hP.1 (by rw [List.take_length] at hP; exact hP.2))
  obtain ⟨E2, eD⟩ := hP
  have hm := List.mem_of_getElem? hx
  have ht : xs.take (i + 1) = xs.take i ++ [x] := by rw [List.take_add_one, hx]; rfl
  refine hs x hm H E2 (fun y H4 => ∃ acc, H4 D = some (.lst acc) ∧ acc.length < sizeLine ∧ (Ex H1 (upd H4 D (.lst (acc ++ [y]))) ∧ (upd H4 D (.lst (acc ++ [y]))) D = some (.lst (((xs.take (i + 1)).filter f).map e)))) (fun H3 => Ex H1 H3 ∧ H3 D = some (.lst (((xs.take (i + 1)).filter f).map e))) (fun hf H3 E3 => ?_) (fun hf H3 E3 => ?_)
  · refine ⟨_, E3 _ _ eD, ltl ?_, ?_, ?_⟩
    · rw [List.length_map]
      have h1 := List.length_filter_le f (xs.take i)
      have h2 := List.length_take_le i xs
      have h3 : (xs.take i).length ≤ xs.length := by rw [List.length_take]; omega
      omega
    · intro c o hc
      rw [upd_ne (ne_of_none hc nD)]
      exact E3 _ _ (E2 _ _ hc)
    · rw [upd_same, ht, List.filter_append, List.map_append]
      simp [hf]
  · refine ⟨E2.trans E3, ?_⟩
    rw [ht, List.filter_append]
    simp only [List.filter_cons, hf, List.filter_nil]
    simpa using E3 _ _ eD
end Wb
namespace Wb
open PySem PySem.Spec PyProof.Rows L2
theorem pe_revL' {X : Cx} {K : PySem.W.Frag} (hK : X.K = K) {e : Expr} {te : TE} {k : Nat} {p1 p2 p3 pos : Pos} (he : PE X e te) : PE X (.Subscript e (.Slice none none (some (.UnaryOp .USub (.Constant (.int 1) k p1) p2)) p3) pos) (tRevL K te) := by
  subst hK; exact pe_revL he
theorem w_rev {K : PySem.W.Frag} {te : TE} {σ : L2.St} {H : Hp} {Q : VK} (q : te σ H fun x H1 => ∃ a xs, x = .ref a ∧ SqL K H1 a xs ∧ ∀ p, H1 p = none → Q (.ref p) (upd H1 p (.lst xs.reverse))) : tRevL K te σ H Q := q
end Wb
namespace Wb
open PySem PySem.Spec PyProof.Rows L2
theorem w_call0 {sp : Sp} {E : XK} {tA : TA} {σ : L2.St} {H : Hp} {Q : VK} (q : tA σ H fun vs H1 => sp vs H1 Q E) : tCall sp [] E tA σ H Q := by
  unfold tCall
  simpa using q
theorem Ex.free {H H' : Hp} {p : Addr} (e : Ex H H') (h : H' p = none) : H p = none := by
  cases z : H p with
  | none => rfl
  | some o => rw [e _ _ z] at h; cases h
theorem Gd.one {c : Nat} {s : Str} (h : Gd s) (k : c ∈ s.cps.toList) : Gd ⟨#[c]⟩ := fun x hx => by
  have : x = c := by simpa [TL.tl] using hx
  rw [this]; exact h c k
theorem cut_len_to (z : Str) (n : Nat) : (cutS z none (some (n : Int))).length ≤ n := by
  rw [tl_len, tl_cut, List.length_take]
  have : HT.sIx (TL.tl z).length (TL.tl z).length (some (n : Int)) = min n (TL.tl z).length := HT.sIx_nat _ _ _
  rw [this, HT.sIx_none]; omega
theorem tl_to (z : Str) (n : Nat) : TL.tl (cutS z none (some (n : Int))) = (TL.tl z).take n := by
  rw [tl_cut, HT.sIx_none, List.drop_zero, show HT.sIx (TL.tl z).length (TL.tl z).length (some (n : Int)) = min n (TL.tl z).length from HT.sIx_nat _ _ _]
  rw [Nat.sub_zero, List.take_eq_take_iff]; omega
theorem tl_from (z : Str) (n : Nat) : TL.tl (cutS z (some (n : Int)) none) = (TL.tl z).drop n := by
  rw [tl_cut, HT.sIx_none, show HT.sIx (TL.tl z).length 0 (some (n : Int)) = min n (TL.tl z).length from HT.sIx_nat _ _ _]
  by_cases h : n ≤ (TL.tl z).length
  · rw [Nat.min_eq_left h]; exact List.take_of_length_le (by rw [List.length_drop]; omega)
  · rw [Nat.min_eq_right (by omega), List.drop_eq_nil_of_le (Nat.le_refl _), List.drop_eq_nil_of_le (by omega)]; simp
theorem len_to (z : Str) (n : Nat) : (cutS z none (some (n : Int))).length = min n z.length := by
  rw [tl_len, tl_to, List.length_take, tl_len]
theorem len_from (z : Str) (n : Nat) : (cutS z (some (n : Int)) none).length = z.length - n := by
  rw [tl_len, tl_from, List.length_drop, tl_len]
/-- z[:len b] == b : z begins with b -/
theorem cut_starts (z b : Str) : cutS z none (some (b.length : Nat)) = b ↔ Txt.startswith z b = true := by
  rw [starts_iff, str_eq, tl_to, List.prefix_iff_eq_take, ← tl_len]
  exact ⟨fun h => h.symm, fun h => h.symm⟩
end Wb
namespace Wb
open PySem PySem.Spec PyProof.Rows L2
section
variable {K : PySem.W.Frag} {H : Hp} {Q : VK} {l : Addr} {xs : List V} {y : V} {P : Prop}
theorem w_tyL (h : H l = some (.lst xs)) (q : P) : tyV K "list" (.ref l) H ∧ P := ⟨.inl ⟨rfl, _, .inl (.inl h)⟩, q⟩
theorem w_app (h : H l = some (.lst xs)) (hz : xs.length < sizeLine) (q : Q .non (upd H l (.lst (xs ++ [y])))) : rAppend (.ref l) [y] H Q := ⟨l, xs, y, rfl, rfl, h, hz, q⟩
end
end Wb
namespace Wb
open PySem PySem.Spec PyProof.Rows L2
theorem Stp.sq {K : PySem.W.Frag} {p a : Addr} {H H' : Hp} {xs : List V} (s : Stp p H H') (h : SqL K H a xs) (n : a ≠ p) : SqL K H' a xs := by
  rcases h with (h | ⟨o, h⟩) | h
  · exact .inl (.inl (s.at h n))
  · exact .inl (.inr ⟨o, s.at h n⟩)
  · exact .inr h
end Wb

set_option Elab.async false
set_option linter.all false
set_option maxRecDepth 100000
/-! the laws' own draws -/
namespace Wb
open PySem PySem.Spec PyProof.Rows L2
def sp_law_cell (K : PySem.W.Frag) : Sp := fun vs H Q E => ∃ (B : List Addr) (a : Addr) (ns : List Int) (k : Int), vs = [.ref a, .int k] ∧ Dp K (hid B H) (.ref a) (.list (ns.map PyData.int)) ∧ 0 ≤ k ∧ ∀ z : Int, Q (.int z) H
def sp_law_pot (K : PySem.W.Frag) : Sp := fun vs H Q E => ∃ (B : List Addr) (a : Addr) (ns : List Int) (k : Int), vs = [.ref a, .int k] ∧ Dp K (hid B H) (.ref a) (.list (ns.map PyData.int)) ∧ 0 ≤ k ∧ k ≤ 64 ∧
  ∀ p H', H p = none → Ex H H' → Pot H' p → Q (.ref p) H' 
def sp_law_draw (K : PySem.W.Frag) : Sp := fun vs H Q E => ∃ (p : Addr) (n : Int), vs = [.ref p, .int n] ∧ Pot H p ∧ 0 < n ∧ n < 1073741824 ∧
  ∀ d H', Ex (hid [p] H) (hid [p] H') → Pot H' p → 0 ≤ d → d < n → Q (.int d) H' 
theorem use_draw {K : PySem.W.Frag} {H0 H : Hp} {p : Addr} {n : Int} {Q : VK} {E : XK} (S : Stp p H0 H) (h1 : 0 < n) (h2 : n < 1073741824)
    (q : ∀ d H', Stp p H0 H' → Stp p H H' → 0 ≤ d → d < n → Q (.int d) H') : sp_law_draw K [.ref p, .int n] H Q E :=
  ⟨p, n, rfl, S.pot, h1, h2, fun d H' e hp a b => q d H' (S.trans ⟨e, hp⟩) ⟨e, hp⟩ a b⟩

def sp_law_signs (K : PySem.W.Frag) : Sp := fun vs H Q E => vs = [] ∧ ∀ s : Str, s.length = 94 → Gd s → Q (.str s) H
theorem use_signs {K : PySem.W.Frag} {H : Hp} {Q : VK} {E : XK} (q : ∀ s : Str, s.length = 94 → Gd s → Q (.str s) H) : sp_law_signs K [] H Q E := ⟨rfl, q⟩
def sp_law_text (K : PySem.W.Frag) : Sp := fun vs H Q E => ∃ (p : Addr) (m : Int) (s : Str), vs = [.ref p, .int m, .str s] ∧ Pot H p ∧ 0 ≤ m ∧ m ≤ 100 ∧ 0 < s.length ∧ s.length ≤ 200 ∧
  ∀ (t : Str) H', Ex (hid [p] H) (hid [p] H') → Pot H' p → t.length ≤ m → (∀ c ∈ t.cps.toList, c ∈ s.cps.toList) → Q (.str t) H' 
theorem join_signs {cs : List Nat} {ys : List Str} (h : ∀ y ∈ ys, ∃ c ∈ cs, y = ⟨#[c]⟩) : (ys.map (·.length)).sum = ys.length ∧ (Txt.join (Str.ofString "") ys).length = ys.length ∧ ∀ c ∈ (Txt.join (Str.ofString "") ys).cps.toList, c ∈ cs := by
  have e0 : TL.tl (Str.ofString "") = [] := by decide +kernel
  have e1 : TL.tl (Txt.join (Str.ofString "") ys) = (ys.map TL.tl).flatten := by
    rw [TL.join_eq, TL.tl_join, e0]
    generalize ys.map TL.tl = l
    clear h e0
    induction l with
    | nil => rfl
    | cons a r ih =>
      cases r with
      | nil => simp [TL.joinL]
      | cons b r => rw [TL.joinL, ih]; simp
  have e2 : (ys.map (·.length)).sum = ys.length ∧ ((ys.map TL.tl).flatten).length = ys.length ∧ ∀ c ∈ (ys.map TL.tl).flatten, c ∈ cs := by
    clear e1 e0
    induction ys with
    | nil => exact ⟨rfl, rfl, fun _ h => nomatch h⟩
    | cons y r ih =>
      obtain ⟨c, hc, rfl⟩ := h y (by simp)
      obtain ⟨a, b, d⟩ := ih fun z hz => h z (by simp [hz])
      refine ⟨?_, ?_, ?_⟩
      · rw [List.map_cons, List.sum_cons, a, List.length_cons]; show 1 + _ = _; omega
      · rw [List.map_cons, List.flatten_cons, List.length_append, b]; simp [TL.tl]; omega
      · intro x hx
        rw [List.map_cons, List.flatten_cons] at hx
        rcases List.mem_append.mp hx with z | z
        · have : x = c := by simpa [TL.tl] using z
          rw [this]; exact hc
        · exact d x z
  refine ⟨e2.1, ?_, ?_⟩
  · rw [TL.len_tl, e1]; exact e2.2.1
  · rw [show (Txt.join (Str.ofString "") ys).cps.toList = (ys.map TL.tl).flatten from e1]; exact e2.2.2
theorem use_text {K : PySem.W.Frag} {H0 H : Hp} {p : Addr} {m : Int} {s : Str} {Q : VK} {E : XK} (S : Stp p H0 H) (h1 : 0 ≤ m) (h2 : m ≤ 100) (h3 : 0 < s.length) (h4 : s.length ≤ 200)
    (q : ∀ (t : Str) H', Stp p H0 H' → Stp p H H' → t.length ≤ m → (∀ c ∈ t.cps.toList, c ∈ s.cps.toList) → Q (.str t) H') : sp_law_text K [.ref p, .int m, .str s] H Q E :=
  ⟨p, m, s, rfl, S.pot, h1, h2, h3, h4, fun d H' e hp a b => q d H' (S.trans ⟨e, hp⟩) ⟨e, hp⟩ a b⟩
end Wb

set_option Elab.async false
set_option linter.all false
set_option maxRecDepth 100000
set_option maxHeartbeats 4000000
namespace Wb
open PySem PySem.Spec PyProof.Rows L2
def topS (i : Nat) : Stmt := PySem.Challenge.pw_wordbench_k23_what_is_meant.main.body.getD i (.Pass ⟨0, 0, 0, 0⟩)
abbrev s_meant : Stmt := topS 1
abbrev s_law_cell : Stmt := topS 3
abbrev s_law_pot : Stmt := topS 4
abbrev s_law_draw : Stmt := topS 5
abbrev s_law_signs : Stmt := topS 6
abbrev s_law_text : Stmt := topS 7
abbrev s_law_names : Stmt := topS 8
abbrev s_law_beginning : Stmt := topS 9
abbrev s_law_meant : Stmt := topS 10
abbrev s_law_right : Stmt := topS 11
abbrev s_law : Stmt := topS 12
theorem sc_meant : FnScope ["names", "beginning", "name"] ["names", "beginning"] (defScope s_meant) := ⟨rfl, rfl, rfl, by decide +kernel, rfl, by decide +kernel, by decide +kernel⟩
theorem sc_law_cell : FnScope ["_law_script", "_law_k"] ["_law_script", "_law_k"] (defScope s_law_cell) := ⟨rfl, rfl, rfl, by decide +kernel, rfl, by decide +kernel, by decide +kernel⟩
theorem sc_law_pot : FnScope ["_law_script", "_law_k", "_law_cell_here"] ["_law_script", "_law_k"] (defScope s_law_pot) := ⟨rfl, rfl, rfl, by decide +kernel, rfl, by decide +kernel, by decide +kernel⟩
theorem sc_law_draw : FnScope ["_law_pot_here", "_law_many", "_law_digit"] ["_law_pot_here", "_law_many"] (defScope s_law_draw) := ⟨rfl, rfl, rfl, by decide +kernel, rfl, by decide +kernel, by decide +kernel⟩
theorem sc_law_signs : FnScope ["_law_letters"] [] (defScope s_law_signs) := ⟨rfl, rfl, rfl, by decide +kernel, rfl, by decide +kernel, by decide +kernel⟩
theorem sc_law_text : FnScope ["_law_pot_here", "_law_most", "_law_signs_here", "_law_k"] ["_law_pot_here", "_law_most", "_law_signs_here"] (defScope s_law_text) := ⟨rfl, rfl, rfl, by decide +kernel, rfl, by decide +kernel, by decide +kernel⟩
theorem sc_law_names : FnScope ["_law_pot_here", "_law_most", "_law_letters", "_law_found", "_law_k", "_law_name"] ["_law_pot_here", "_law_most"] (defScope s_law_names) := ⟨rfl, rfl, rfl, by decide +kernel, rfl, by decide +kernel, by decide +kernel⟩
theorem sc_law_beginning : FnScope ["_law_pot_here", "_law_names_here", "_law_way", "_law_name"] ["_law_pot_here", "_law_names_here"] (defScope s_law_beginning) := ⟨rfl, rfl, rfl, by decide +kernel, rfl, by decide +kernel, by decide +kernel⟩
theorem sc_law_meant : FnScope ["_law_names_here", "_law_beginning_here", "_law_name"] ["_law_names_here", "_law_beginning_here"] (defScope s_law_meant) := ⟨rfl, rfl, rfl, by decide +kernel, rfl, by decide +kernel, by decide +kernel⟩
theorem sc_law_right : FnScope ["_law_names_here", "_law_beginning_here", "_law_due", "_law_handed", "_law_kept", "_law_found"] ["_law_names_here", "_law_beginning_here"] (defScope s_law_right) := ⟨rfl, rfl, rfl, by decide +kernel, rfl, by decide +kernel, by decide +kernel⟩
theorem sc_law : FnScope ["_law_script", "_law_k", "_law_pot_here", "_law_names_here", "_law_turn"] ["_law_script"] (defScope s_law) := ⟨rfl, rfl, rfl, by decide +kernel, rfl, by decide +kernel, by decide +kernel⟩
/-- what the top has left -/
structure Tx (K : PySem.W.Frag) (mg : Str → Option Value) where
  a_meant : Addr
  fd_meant : FuncData
  F_meant : Fun K "meant" "meant" s_meant a_meant fd_meant
  m_meant : mg "meant" = some (.ref a_meant)
  a_law_cell : Addr
  fd_law_cell : FuncData
  F_law_cell : Fun K "_law_cell" "_law_cell" s_law_cell a_law_cell fd_law_cell
  m_law_cell : mg "_law_cell" = some (.ref a_law_cell)
  a_law_pot : Addr
  fd_law_pot : FuncData
  F_law_pot : Fun K "_law_pot" "_law_pot" s_law_pot a_law_pot fd_law_pot
  m_law_pot : mg "_law_pot" = some (.ref a_law_pot)
  a_law_draw : Addr
  fd_law_draw : FuncData
  F_law_draw : Fun K "_law_draw" "_law_draw" s_law_draw a_law_draw fd_law_draw
  m_law_draw : mg "_law_draw" = some (.ref a_law_draw)
  a_law_signs : Addr
  fd_law_signs : FuncData
  F_law_signs : Fun K "_law_signs" "_law_signs" s_law_signs a_law_signs fd_law_signs
  m_law_signs : mg "_law_signs" = some (.ref a_law_signs)
  a_law_text : Addr
  fd_law_text : FuncData
  F_law_text : Fun K "_law_text" "_law_text" s_law_text a_law_text fd_law_text
  m_law_text : mg "_law_text" = some (.ref a_law_text)
  a_law_names : Addr
  fd_law_names : FuncData
  F_law_names : Fun K "_law_names" "_law_names" s_law_names a_law_names fd_law_names
  m_law_names : mg "_law_names" = some (.ref a_law_names)
  a_law_beginning : Addr
  fd_law_beginning : FuncData
  F_law_beginning : Fun K "_law_beginning" "_law_beginning" s_law_beginning a_law_beginning fd_law_beginning
  m_law_beginning : mg "_law_beginning" = some (.ref a_law_beginning)
  a_law_meant : Addr
  fd_law_meant : FuncData
  F_law_meant : Fun K "_law_meant" "_law_meant" s_law_meant a_law_meant fd_law_meant
  m_law_meant : mg "_law_meant" = some (.ref a_law_meant)
  a_law_right : Addr
  fd_law_right : FuncData
  F_law_right : Fun K "_law_right" "_law_right" s_law_right a_law_right fd_law_right
  m_law_right : mg "_law_right" = some (.ref a_law_right)
  a_law : Addr
  fd_law : FuncData
  F_law : Fun K "law" "law" s_law a_law fd_law
  m_law : mg "law" = some (.ref a_law)
  n_divmod : mg "divmod" = none
  n_isinstance : mg "isinstance" = none
  n_len : mg "len" = none
  n_list : mg "list" = none
  n_max : mg "max" = none
  n_min : mg "min" = none
  n_range : mg "range" = none
  n_sorted : mg "sorted" = none
section
variable {P : Program} {w : World} {K : PySem.W.Frag} {mg : Str → Option Value} {base : Heap}
theorem b_meant (T : Tx K mg) : Binds K T.fd_meant ["names", "beginning"] [] := T.F_meant.binds (ps := ["names", "beginning"]) fun _ _ _ _ _ _ us hl => match us, hl with | [_, _], _ => rfl
theorem b_law_cell (T : Tx K mg) : Binds K T.fd_law_cell ["_law_script", "_law_k"] [] := T.F_law_cell.binds (ps := ["_law_script", "_law_k"]) fun _ _ _ _ _ _ us hl => match us, hl with | [_, _], _ => rfl
theorem b_law_pot (T : Tx K mg) : Binds K T.fd_law_pot ["_law_script", "_law_k"] [] := T.F_law_pot.binds (ps := ["_law_script", "_law_k"]) fun _ _ _ _ _ _ us hl => match us, hl with | [_, _], _ => rfl
theorem b_law_draw (T : Tx K mg) : Binds K T.fd_law_draw ["_law_pot_here", "_law_many"] [] := T.F_law_draw.binds (ps := ["_law_pot_here", "_law_many"]) fun _ _ _ _ _ _ us hl => match us, hl with | [_, _], _ => rfl
theorem b_law_signs (T : Tx K mg) : Binds K T.fd_law_signs [] [] := T.F_law_signs.binds (ps := []) fun _ _ _ _ _ _ us hl => match us, hl with | [], _ => rfl
theorem b_law_text (T : Tx K mg) : Binds K T.fd_law_text ["_law_pot_here", "_law_most", "_law_signs_here"] [] := T.F_law_text.binds (ps := ["_law_pot_here", "_law_most", "_law_signs_here"]) fun _ _ _ _ _ _ us hl => match us, hl with | [_, _, _], _ => rfl
theorem b_law_names (T : Tx K mg) : Binds K T.fd_law_names ["_law_pot_here", "_law_most"] [] := T.F_law_names.binds (ps := ["_law_pot_here", "_law_most"]) fun _ _ _ _ _ _ us hl => match us, hl with | [_, _], _ => rfl
theorem b_law_beginning (T : Tx K mg) : Binds K T.fd_law_beginning ["_law_pot_here", "_law_names_here"] [] := T.F_law_beginning.binds (ps := ["_law_pot_here", "_law_names_here"]) fun _ _ _ _ _ _ us hl => match us, hl with | [_, _], _ => rfl
theorem b_law_meant (T : Tx K mg) : Binds K T.fd_law_meant ["_law_names_here", "_law_beginning_here"] [] := T.F_law_meant.binds (ps := ["_law_names_here", "_law_beginning_here"]) fun _ _ _ _ _ _ us hl => match us, hl with | [_, _], _ => rfl
theorem b_law_right (T : Tx K mg) : Binds K T.fd_law_right ["_law_names_here", "_law_beginning_here"] [] := T.F_law_right.binds (ps := ["_law_names_here", "_law_beginning_here"]) fun _ _ _ _ _ _ us hl => match us, hl with | [_, _], _ => rfl
theorem b_law (T : Tx K mg) : Binds K T.fd_law ["_law_script"] [] := T.F_law.binds (ps := ["_law_script"]) fun _ _ _ _ _ _ us hl => match us, hl with | [_], _ => rfl

local macro_rules | `(tactic| walk_at "side") => `(tactic| first
  | omega
  | exact ⟨by omega, by omega⟩
  | exact .inr ⟨by omega, by omega⟩
  | exact .inl ⟨by omega, by omega⟩
  | exact ⟨by omega, by omega, by omega⟩
  | (show (0 : Int) < _; omega)
  | (refine szl ?_; omega)
  | (refine szl ?_; simp only [len_app, len_nil]; omega)
  | (refine szl ?_; decide +kernel)
  | (refine szl (Nat.le_trans (Nat.add_le_add_left (show _ ≤ 1000 by decide +kernel) _) ?_); omega)
  | (refine szl (Nat.le_trans (Nat.add_le_add_right (show _ ≤ 1000 by decide +kernel) _) ?_); omega))
local macro_rules | `(tactic| walk_at "go1") => `(tactic| first
  | (with_reducible refine w_seq ?_)
  | (with_reducible refine w_asg ?_)
  | ((with_reducible refine' w_var ?h1 ?_); (case h1 => exact rfl))
  | (with_reducible refine w_c ?_)
  | (with_reducible refine w_name ?_)
  | (with_reducible refine w_ret ?_)
  | (with_reducible refine w_cons ?_)
  | (with_reducible refine w_nil ?_)
  | (with_reducible refine w_call0 ?_)
  | (with_reducible refine w_op ?_)
  | (with_reducible refine w_test ?_)
  | (with_reducible refine w_tB ?_)
  | (with_reducible refine w_bl ?_)
  | (with_reducible refine w_cb ?_)
  | (with_reducible refine w_and ?_)
  | (with_reducible refine w_or ?_)
  | (with_reducible refine w_not ?_)
  | (with_reducible refine iteT ?_)
  | (with_reducible refine iteF ?_)
  | (with_reducible refine iteNT ?_)
  | (with_reducible refine iteNF ?_)
  | (with_reducible refine w_drop ?_)
  | (with_reducible refine w_m1 ?_)
  | (with_reducible refine w_m0 ?_)
  | (with_reducible refine w_tyS ?_)
  | (with_reducible refine w_s1 ?_)
  | (with_reducible refine w_addI ?_)
  | (with_reducible refine w_i2 ?_)
  | (with_reducible refine w_eqS ?_)
  | (with_reducible refine w_neS ?_)
  | (with_reducible refine w_eqI ?_)
  | (with_reducible refine w_neI ?_)
  | (with_reducible refine w_eqB ?_)
  | (with_reducible refine w_neB ?_)
  | (with_reducible refine w_next ?_)
  | (with_reducible refine w_brk ?_)
  | (with_reducible refine w_cont ?_)
  | (with_reducible refine w_retN ?_)
  | (with_reducible refine w_if ?_)
  | (with_reducible refine w_chain ?_)
  | (with_reducible refine w_andV ?_)
  | (with_reducible refine w_orV ?_)
  | (with_reducible refine w_notV ?_)
  | (with_reducible refine w_un ?_)
  | (with_reducible refine w_neg ?_)
  | (with_reducible refine w_tup ?_)
  | (with_reducible refine w_lst ?_)
  | (with_reducible refine w_sl ?_)
  | (with_reducible refine w_nopart ?_)
  | (with_reducible refine w_part ?_)
  | (with_reducible refine w_partI ?_)
  | ((with_reducible refine' w_aug ?h1 ?_); (case h1 => exact rfl))
  | (with_reducible refine w_sub ?_)
  | (with_reducible refine w_iaddI ?_)
  | (with_reducible refine w_max2 ?_)
  | (with_reducible refine w_min2 ?_)
  | (with_reducible refine w_intI ?_)
  | (with_reducible refine w_intB ?_)
  | (with_reducible refine w_inS ?_)
  | (with_reducible refine w_ninS ?_)
  | (with_reducible refine w_eqNN ?_)
  | (with_reducible refine w_eqNS ?_)
  | (with_reducible refine w_eqSN ?_)
  | (with_reducible refine w_lc ?_)
  | (with_reducible refine w_for ?_)
  | (with_reducible refine w_r1 ?_)
  | (with_reducible refine w_r2 ?_)
  | (with_reducible refine w_ilist ?_)
  | (with_reducible refine w_yes ?_)
  | ((with_reducible refine' w_r1I ?h1 ?_); (case h1 => exact ⟨by omega, by omega⟩))
  | ((with_reducible refine' w_r2I ?h1 ?_); (case h1 => exact ⟨by omega, by omega, by omega, by omega⟩))
  | (with_reducible refine w_rev ?_)
  | (with_reducible refine w_bm ?_)
  | (with_reducible refine w_bm0 ?_)
  | ((with_reducible refine' w_ic ?h1 ?_); (case h1 => walk_at "side"))
  | ((with_reducible refine' w_mulI ?h1 ?_); (case h1 => walk_at "side"))
  | ((with_reducible refine' w_addS ?h1 ?_); (case h1 => walk_at "side"))
  | ((with_reducible refine' w_iaddS ?h1 ?_); (case h1 => walk_at "side"))
  | ((with_reducible refine' w_lenS ?h1 ?_); (case h1 => walk_at "side"))
  | ((with_reducible refine' w_slS ?h1 ?_); (case h1 => walk_at "side"))
  | ((with_reducible refine' w_s0 ?h1 ?_); (case h1 => walk_at "side"))
  | (with_reducible refine w_isiS_str ?_)
  | (with_reducible refine w_isiS_int ?_)
  | (with_reducible refine w_isiS_bool ?_)
  | (with_reducible refine w_isiS_list ?_)
  | (with_reducible refine w_isiS_tuple ?_)
  | (with_reducible refine w_isiS_dict ?_)
  | (with_reducible refine w_isiI_str ?_)
  | (with_reducible refine w_isiI_int ?_)
  | (with_reducible refine w_isiI_bool ?_)
  | (with_reducible refine w_isiI_list ?_)
  | (with_reducible refine w_isiI_tuple ?_)
  | (with_reducible refine w_isiI_dict ?_)
  | (with_reducible refine w_isiB_str ?_)
  | (with_reducible refine w_isiB_int ?_)
  | (with_reducible refine w_isiB_bool ?_)
  | (with_reducible refine w_isiB_list ?_)
  | (with_reducible refine w_isiB_tuple ?_)
  | (with_reducible refine w_isiB_dict ?_)
  | (with_reducible refine w_isiN_str ?_)
  | (with_reducible refine w_isiN_int ?_)
  | (with_reducible refine w_isiN_bool ?_)
  | (with_reducible refine w_isiN_list ?_)
  | (with_reducible refine w_isiN_tuple ?_)
  | (with_reducible refine w_isiN_dict ?_))
local macro_rules | `(tactic| walk_at "go") => `(tactic| repeat (first | walk_at "go1" | (with_reducible refine w_ifS ?_)))
local macro_rules | `(tactic| walk_at "gos") => `(tactic| repeat (walk_at "go1"))

def mMeant (names : List Str) (b : Str) : List Str := if b = Str.ofString "" then [] else if b ∈ names then [b] else sortS (names.filter fun n => Txt.startswith n b)
theorem mMeant_gd {names : List Str} {b : Str} (h : ∀ x ∈ names, Gd x) (gb : Gd b) : ∀ x ∈ mMeant names b, Gd x := by
  unfold mMeant
  split
  · exact fun _ h => nomatch h
  · split
    · intro x hx; rw [List.mem_singleton.mp hx]; exact gb
    · intro x hx
      have := (sortS_perm _).mem_iff.mp hx
      exact h x (List.mem_filter.mp this).1
theorem mMeant_len (names : List Str) (b : Str) : (mMeant names b).length ≤ names.length + 1 := by
  unfold mMeant
  split
  · simp
  · split
    · simp
    · rw [(sortS_perm _).length_eq]
      have := List.length_filter_le (fun n => Txt.startswith n b) names
      omega
theorem mMeant_perm {l m : List Str} (p : l.Perm m) (b : Str) : mMeant l b = mMeant m b := by
  unfold mMeant
  simp only [p.mem_iff, sortS_congr (p.filter _)]

/-! ### meant -/
def sp_meant (K : PySem.W.Frag) : Sp := fun vs H Q E => ∃ (a : Addr) (names : List Str) (b : Str), vs = [.ref a, .str b] ∧ SqL K H a (names.map V.str) ∧ names.length < 64 ∧
  ∀ p H', Ex H H' → H p = none → H' p = some (.lst ((mMeant names b).map V.str)) → Q (.ref p) H' 
set_option maxHeartbeats 4000000 in
theorem ok_meant (T : Tx K mg) : FnOk P w K mg base CX0 1 T.a_meant T.fd_meant ["names", "beginning"] (sp_meant K) := by
  refine T.F_meant.ok sc_meant (fun vs H Q E h => ?_) (fun cdv A outer s H vs Q E hr h => ?_)
  · obtain ⟨a, names, b, rfl, hS, hl, q⟩ := h; rfl
  · obtain ⟨a, names, b, rfl, hS, hl, q⟩ := h
    refine ⟨_, (pss_cons (ps_if (pt_cmpR (op_eqP (K := K) rfl hr.units) (pv 1) pe_str (nomark _)) (pss_one (ps_ret (pe_lst pa_nil))) pss_nil)
      (pss_cons (ps_if (pt_cmpR (op_inP (K := K) rfl) (pv 1) (pv 0) (by rfl)) (pss_one (ps_ret (pe_lst (pa_cons (pv 1) pa_nil)))) pss_nil)
      (pss_one (ps_ret (pe_callB (cr_sortedP (K := K) rfl) (by rfl) T.n_sorted (by decide +kernel) (pa_cons (pe_lc (own := [("name", 2)]) (g := gName 2) (by rfl) sc_meant.nd (pi_listK (K := K) rfl (pv 0)) (blkOk_by (own := [("name", 2)]) (N := ["names", "beginning", "name"]) (sc := defScope s_meant) (by decide +kernel)) (fun _ _ _ _ _ => pg_name (i := 2) sc_meant.nd rfl (Or.inl rfl)) (fun _ _ _ _ _ => pts_one (pt_val (pe_m1 PySem.F.slot_str_startswith PySem.F.type_str_startswith mt_startswithP (pv 2) (pv 1)))) (fun _ _ _ _ _ => (pv 2))) pa_nil)))))), ?_⟩
    walk_at "go"
    refine iteD (fun h1 => ?_) fun h1 => ?_
    · walk_at "go"
      refine ⟨ll rfl, fun p np => q p _ (Ex.new np) np ?_⟩
      rw [upd_same, mMeant, if_pos h1]; rfl
    walk_at "go"
    refine w_inLS hS ?_
    walk_at "go"
    refine iteD (fun h2 => ?_) fun h2 => ?_
    · walk_at "go"
      refine ⟨ll rfl, fun p np => q p _ (Ex.new np) np ?_⟩
      rw [upd_same, mMeant, if_neg h1, if_pos h2]; rfl
    walk_at "go"
    refine ⟨a, rfl, ⟨_, hS⟩, fun D nD => ?_⟩
    refine lc_pure (xs := names.map V.str) (fun v => match v with | .str n => Txt.startswith n b | _ => false) (fun v => v) hS (by rw [List.length_map]; omega) nD (fun x hx H2 E2 Z N hZ hN => ?_) fun H2 E2 eD => ?_
    · obtain ⟨n, hn, rfl⟩ := List.mem_map.mp hx
      refine ⟨rfl, ?_⟩
      walk_at "go"
      refine iteB (fun h3 => ?_) fun h3 => ?_
      · walk_at "go"
        exact hZ h3 _ (Ex.refl _)
      · exact hN h3 _ (Ex.refl _)
    · have e1 : ((names.map V.str).filter (fun v => match v with | .str n => Txt.startswith n b | _ => false)).map (fun v => v) = (names.filter fun n => Txt.startswith n b).map V.str := by
        rw [List.map_id', List.filter_map]; rfl
      rw [e1] at eD
      refine w_sorted (.of eD) (Nat.lt_of_le_of_lt (List.length_filter_le _ _) hl) fun p np => ?_
      have np1 : H p = none := by
        cases z : H p with
        | none => rfl
        | some o => rw [E2 _ _ z] at np; cases np
      refine q p _ (E2.trans (Ex.new np)) np1 ?_
      rw [upd_same, mMeant, if_neg h1, if_neg h2]
/-! ### _law_cell -/

set_option maxHeartbeats 4000000 in
theorem ok_law_cell (T : Tx K mg) : FnOk P w K mg base CX0 1 T.a_law_cell T.fd_law_cell ["_law_script", "_law_k"] (sp_law_cell K) := by
  refine T.F_law_cell.ok sc_law_cell (fun vs H Q E h => ?_) (fun cdv A outer s H vs Q E hr h => ?_)
  · obtain ⟨B, a, ns, k, rfl, hS, hk, q⟩ := h; rfl
  · obtain ⟨B, a, ns, k, rfl, hS, hk, q⟩ := h
    refine ⟨_, (pss_one (ps_ret (pe_ifExp (pt_cmpR (cp_i2 op_lt) (pv 1) (pe_callB (call_lenP (K := K) rfl) (by rfl) T.n_len (by decide +kernel) (pa_cons (pv 0) pa_nil)) (nomark _)) (pe_ix (ix_P (K := K) rfl) (pv 0) (pv 1) (fun _ _ => rfl)) pe_int))), ?_⟩
    walk_at "go"
    refine dp_lenL hS ?_
    walk_at "go"
    refine iteD (fun h1 => ?_) fun h1 => ?_
    · walk_at "go"
      rw [List.length_map] at h1
      refine w_ixD hS (atI_nat' hk (by rw [List.getElem?_map, List.getElem?_eq_getElem (show k.toNat < ns.length by omega)]; rfl)) fun v hv => ?_
      cases hv
      exact q _
    · walk_at "go"
      exact q _
/-! ### _law_pot -/

set_option maxHeartbeats 4000000 in
theorem ok_law_pot (T : Tx K mg) : FnOk P w K mg base CX0 2 T.a_law_pot T.fd_law_pot ["_law_script", "_law_k"] (sp_law_pot K) := by
  refine T.F_law_pot.ok sc_law_pot (fun vs H Q E h => ?_) (fun cdv A outer s H vs Q E hr h => ?_)
  · obtain ⟨B, a, ns, k, rfl, hS, hk, hk2, q⟩ := h; rfl
  · obtain ⟨B, a, ns, k, rfl, hS, hk, hk2, q⟩ := h
    refine ⟨_, (pss_cons (ps_set (i := 2) sc_law_pot.nd rfl (.inl rfl) (pe_call (ok_law_cell T) (hr.mono (by decide)) (by rfl) T.m_law_cell T.F_law_cell.kp (b_law_cell T) .nil pass0 (pa_cons (pv 0) (pa_cons (pv 1) pa_nil))))
      (pss_one (ps_ret (pe_lst (pa_cons (pe_callB (call_max2P rfl) (by rfl) T.n_max (by decide +kernel) (pa_cons pe_int (pa_cons (pe_op (op_i2 op_sub) (pv 2) (pe_op (op_ic op_pow) pe_int pe_int)) pa_nil))) (pa_cons (pe_op (op_ic op_mod) (pe_op op_addP (pe_op op_addP (pe_op op_mulP (pe_op (op_ic op_mod) (pv 2) pe_int) pe_int) (pe_op op_mulP pe_int (pv 1))) pe_int) pe_int) pa_nil)))))), ?_⟩
    walk_at "go"
    refine ⟨B, a, ns, k, rfl, hS, hk, fun z => ?_⟩
    walk_at "go"
    refine ⟨ll rfl, fun p hp => ?_⟩
    exact q p _ hp (Ex.new hp) ⟨_, _, upd_same, by omega, Int.emod_nonneg _ (by decide), Int.emod_lt_of_pos _ (by decide)⟩
/-! ### _law_draw -/

set_option maxHeartbeats 4000000 in
theorem ok_law_draw (T : Tx K mg) : FnOk P w K mg base CX0 1 T.a_law_draw T.fd_law_draw ["_law_pot_here", "_law_many"] (sp_law_draw K) := by
  refine T.F_law_draw.ok sc_law_draw (fun vs H Q E h => ?_) (fun cdv A outer s H vs Q E hr h => ?_)
  · obtain ⟨p, n, rfl, hP, hn, hn2, q⟩ := h; rfl
  · obtain ⟨p, n, rfl, hP, hn, hn2, q⟩ := h
    refine ⟨_, (pss_cons (ps_if (pt_cmpR (cp_i2 op_gt) (pe_ix (ix_P (K := K) rfl) (pv 0) pe_int (fun _ _ => rfl)) pe_int (nomark _)) (pss_cons (ps_asg (pe_callB call_divmodP (by rfl) T.n_divmod (by decide +kernel) (pa_cons (pe_ix (ix_P (K := K) rfl) (pv 0) pe_int (fun _ _ => rfl)) (pa_cons (pv 1) pa_nil))) (pg_tupK (K := K) (n := 2) rfl rfl (pgs_cons (pg_sub (pv 0) pe_int set_list) (pgs_cons (pg_name (i := 2) sc_law_draw.nd rfl (.inl rfl)) pgs_nil))))
      (pss_one (ps_ret (pv 2)))) pss_nil)
      (pss_cons (ps_asg (pe_op (op_ic op_mod) (pe_op op_addP (pe_op op_mulP (pe_ix (ix_P (K := K) rfl) (pv 0) pe_int (fun _ _ => rfl)) pe_int) pe_int) pe_int) (pg_sub (pv 0) pe_int set_list))
      (pss_one (ps_ret (pe_op (op_ic op_mod) (pe_op (op_ic op_fdiv) (pe_op (op_ic op_mod) (pe_op (op_ic op_pow) (pe_ix (ix_P (K := K) rfl) (pv 0) pe_int (fun _ _ => rfl)) pe_int) pe_int) pe_int) (pv 1)))))), ?_⟩
    obtain ⟨u, w, hH, hu, hw, hw2⟩ := hP
    have S : Stp p H H := .refl ⟨u, w, hH, hu, hw, hw2⟩
    walk_at "go"
    refine w_ixH hH rfl ?_
    walk_at "go"
    refine iteD (fun h1 => ?_) fun h1 => ?_
    · walk_at "go"
      refine w_ixH hH rfl ?_
      walk_at "go"
      refine ⟨⟨hn, hn2⟩, fun t ht => ?_⟩
      refine w_gtup (.of upd_same) rfl ?_
      have nt : p ≠ t := fun e => by rw [← e, hH] at ht; cases ht
      refine ⟨_, [.int (u % n)], rfl, ?_⟩
      walk_at "go"
      refine ⟨p, _, 0, 0, rfl, rfl, by rw [upd_ne nt]; exact hH, rfl, ?_⟩
      refine ⟨_, [], rfl, ?_⟩
      walk_at "go"
      refine ⟨rfl, ?_⟩
      walk_at "go"
      have S2 := (S.new (o := .tup [.int (u / n), .int (u % n)]) ht).set (u := u / n) (w := w) (Int.ediv_nonneg hu (by omega)) hw hw2
      exact q _ _ S2.ex S2.pot (Int.emod_nonneg _ (by omega)) (Int.emod_lt_of_pos _ hn)
    · walk_at "go"
      refine w_ixH hH rfl ?_
      walk_at "go"
      refine ⟨p, _, 1, 1, rfl, rfl, hH, rfl, ?_⟩
      walk_at "go"
      have hb : (0:Int) ≤ (w * 39373 + 8191) % 2147483587 := Int.emod_nonneg _ (by decide)
      have hc : (w * 39373 + 8191) % 2147483587 < 2147483587 := Int.emod_lt_of_pos _ (by decide)
      have S2 := S.set hu hb (show _ < (2147483629 : Int) by omega)
      refine w_ixH (xs := [.int u, .int ((w * 39373 + 8191) % 2147483587)]) upd_same rfl ?_
      generalize (w * 39373 + 8191) % 2147483587 = z at *
      walk_at "go"
      exact q _ _ S2.ex S2.pot (Int.emod_nonneg _ (by omega)) (Int.emod_lt_of_pos _ hn)
/-! ### _law_signs -/

set_option maxHeartbeats 4000000 in
theorem ok_law_signs (T : Tx K mg) : FnOk P w K mg base CX0 1 T.a_law_signs T.fd_law_signs [] (sp_law_signs K) := by
  refine T.F_law_signs.ok sc_law_signs (fun vs H Q E h => ?_) (fun cdv A outer s H vs Q E hr h => ?_)
  · obtain ⟨rfl, q⟩ := h; rfl
  · obtain ⟨rfl, q⟩ := h
    refine ⟨_, (pss_cons (ps_set (i := 0) sc_law_signs.nd rfl (.inl rfl) pe_str)
      (pss_one (ps_ret (pe_op op_addP (pe_op op_addP pe_str (pv 0)) (pe_m0 PySem.F.slot_str_upper PySem.F.type_str_upper mt_upperP (pv 0)))))), ?_⟩
    walk_at "go"
    refine w_s0 (by decide +kernel) ?_
    refine w_addS (by refine szl ?_; decide +kernel) ?_
    refine q _ (by decide +kernel) (gd_all ?_)
    decide +kernel
/-! ### _law_text -/

set_option maxHeartbeats 4000000 in
theorem ok_law_text (T : Tx K mg) : FnOk P w K mg base CX0 2 T.a_law_text T.fd_law_text ["_law_pot_here", "_law_most", "_law_signs_here"] (sp_law_text K) := by
  refine T.F_law_text.ok sc_law_text (fun vs H Q E h => ?_) (fun cdv A outer s H vs Q E hr h => ?_)
  · obtain ⟨p, m, s, rfl, hP, hm, hm2, hs, hs2, q⟩ := h; rfl
  · obtain ⟨p, m, s, rfl, hP, hm, hm2, hs, hs2, q⟩ := h
    refine ⟨_, (pss_one (ps_ret (pe_m1 PySem.F.slot_str_join PySem.F.type_str_join (mt_joinP (K := K) rfl) pe_str (pe_lc (own := [("_law_k", 3)]) (g := gName 3) (by rfl) sc_law_text.nd (pi_range1P (by rfl) T.n_range (pa_cons (pe_call (ok_law_draw T) (hr.mono (by decide)) (by rfl) T.m_law_draw T.F_law_draw.kp (b_law_draw T) .nil pass0 (pa_cons (pv 0) (pa_cons (pe_op op_addP (pv 1) pe_int) pa_nil))) pa_nil)) (blkOk_by (own := [("_law_k", 3)]) (N := ["_law_pot_here", "_law_most", "_law_signs_here", "_law_k"]) (sc := defScope s_law_text) (by decide +kernel)) (fun _ _ _ _ _ => pg_name (i := 3) sc_law_text.nd rfl (Or.inl rfl)) (fun _ _ _ _ _ => pts_nil) (fun _ _ _ _ _ => (pe_ix (ix_P (K := K) rfl) (pv 2) (pe_call (ok_law_draw T) (hr.mono (by decide)) (by rfl) T.m_law_draw T.F_law_draw.kp (b_law_draw T) .nil pass0 (pa_cons (pv 0) (pa_cons (pe_callB (call_lenP (K := K) rfl) (by rfl) T.n_len (by decide +kernel) (pa_cons (pv 2) pa_nil)) pa_nil))) (fun _ _ => rfl))))))), ?_⟩
    walk_at "go"
    refine use_draw (.refl hP) (by omega) (by omega) fun d H1 S _ hd0 hd1 => ?_
    walk_at "go"
    intro D nD
    have nDp := S.pot.ne nD
    have nD0 := S.free hP nD
    refine lc_range (lo := 0) (n := d.toNat) (fun i H2 => Stp p H H2 ∧ (∃ ys : List Str, H2 D = some (.lst (ys.map V.str)) ∧ ys.length = i ∧ ∀ y ∈ ys, ∃ c ∈ s.cps.toList, y = ⟨#[c]⟩)) ⟨S.new nD, [], upd_same, rfl, fun _ h => nomatch h⟩ (fun i H2 hi hP2 => ?_) (fun H2 hP2 => ?_)
    · obtain ⟨S2, ys, eD, hy, hc⟩ := hP2
      refine ⟨rfl, ?_⟩
      walk_at "go"
      refine use_draw S2 (by omega) (by omega) fun d3 H3 S3 T3 h30 h31 => ?_
      have hl3 : d3.toNat < s.cps.toList.length := by show d3.toNat < s.cps.size; have : s.length = s.cps.size := rfl; omega
      refine w_ixS (szl (by omega)) (atI_nat' h30 (List.getElem?_eq_getElem hl3)) ?_
      have e3 := T3.at eD nDp
      refine ⟨_, e3, ltl (by rw [List.length_map]; omega), S3.push nD0 nDp, ys ++ [⟨#[s.cps.toList[d3.toNat]]⟩], by rw [upd_same, List.map_append]; rfl, by rw [List.length_append, hy]; rfl, fun y hy2 => ?_⟩
      rcases List.mem_append.mp hy2 with z | z
      · exact hc y z
      · rw [List.mem_singleton.mp z]; exact ⟨_, List.getElem_mem _, rfl⟩
    · obtain ⟨S2, ys, eD, hy, hc⟩ := hP2
      obtain ⟨j1, j2, j3⟩ := join_signs hc
      refine ⟨ys, .inl (.of eD), ?_, ?_⟩
      · rw [j1]; show ys.length + ys.length * 0 ≤ _; omega
      · exact q _ _ S2.ex S2.pot (by rw [j2]; omega) j3
/-! ### _law_names -/
def sp_law_names (K : PySem.W.Frag) : Sp := fun vs H Q E => ∃ (p : Addr) (m : Int), vs = [.ref p, .int m] ∧ Pot H p ∧ 0 ≤ m ∧ m ≤ 60 ∧
  ∀ q H' (xs : List Str), Stp p H H' → H q = none → H' q = some (.lst (xs.map V.str)) → xs.length ≤ m → xs.Nodup → (∀ x ∈ xs, Gd x ∧ 1 ≤ x.length ∧ x.length ≤ 13) → Q (.ref q) H' 
set_option maxHeartbeats 4000000 in
theorem ok_law_names (T : Tx K mg) : FnOk P w K mg base CX0 3 T.a_law_names T.fd_law_names ["_law_pot_here", "_law_most"] (sp_law_names K) := by
  refine T.F_law_names.ok sc_law_names (fun vs H Q E h => ?_) (fun cdv A outer s H vs Q E hr h => ?_)
  · obtain ⟨p, m, rfl, hP, hm, hm2, q⟩ := h; rfl
  · obtain ⟨p, m, rfl, hP, hm, hm2, q⟩ := h
    refine ⟨_, (pss_cons (ps_set (i := 2) sc_law_names.nd rfl (.inl rfl) (pe_ix (ix_P (K := K) rfl) (pe_lst (pa_cons pe_str (pa_cons pe_str (pa_cons pe_str (pa_cons (pe_call0 (ok_law_signs T) (hr.mono (by decide)) (by rfl) T.m_law_signs T.F_law_signs.kp (b_law_signs T) .nil pass0) pa_nil))))) (pe_call (ok_law_draw T) (hr.mono (by decide)) (by rfl) T.m_law_draw T.F_law_draw.kp (b_law_draw T) .nil pass0 (pa_cons (pv 0) (pa_cons pe_int pa_nil))) (fun _ _ => rfl)))
      (pss_cons (ps_set (i := 3) sc_law_names.nd rfl (.inl rfl) (pe_lst pa_nil))
      (pss_cons (ps_for PassesOwn.never rfl (pi_range1P (by rfl) T.n_range (pa_cons (pe_call (ok_law_draw T) (hr.mono (by decide)) (by rfl) T.m_law_draw T.F_law_draw.kp (b_law_draw T) .nil pass0 (pa_cons (pv 0) (pa_cons (pe_op op_addP (pv 1) pe_int) pa_nil))) pa_nil)) (pg_name (i := 4) sc_law_names.nd rfl (.inl rfl))
      (pss_cons (ps_set (i := 5) sc_law_names.nd rfl (.inl rfl) (pe_op op_addP (pe_ix (ix_P (K := K) rfl) (pv 2) (pe_call (ok_law_draw T) (hr.mono (by decide)) (by rfl) T.m_law_draw T.F_law_draw.kp (b_law_draw T) .nil pass0 (pa_cons (pv 0) (pa_cons (pe_callB (call_lenP (K := K) rfl) (by rfl) T.n_len (by decide +kernel) (pa_cons (pv 2) pa_nil)) pa_nil))) (fun _ _ => rfl)) (pe_call (ok_law_text T) (hr.mono (by decide)) (by rfl) T.m_law_text T.F_law_text.kp (b_law_text T) .nil pass0 (pa_cons (pv 0) (pa_cons (pe_ix (ix_P (K := K) rfl) (pe_lst (pa_cons pe_int (pa_cons pe_int pa_nil))) (pe_call (ok_law_draw T) (hr.mono (by decide)) (by rfl) T.m_law_draw T.F_law_draw.kp (b_law_draw T) .nil pass0 (pa_cons (pv 0) (pa_cons pe_int pa_nil))) (fun _ _ => rfl)) (pa_cons (pv 2) pa_nil))))))
      (pss_cons (ps_if (PW.pt (pw_and (pt_cmpR (op_neP (K := K) rfl hr.units) (pv 3) (pe_lst pa_nil) (nomark _)) (pw_and1 (pt_cmpR (op_eqP (K := K) rfl hr.units) (pe_call (ok_law_draw T) (hr.mono (by decide)) (by rfl) T.m_law_draw T.F_law_draw.kp (b_law_draw T) .nil pass0 (pa_cons (pv 0) (pa_cons pe_int pa_nil))) pe_int (nomark _))))) (pss_one (ps_set (i := 5) sc_law_names.nd rfl (.inl rfl) (pe_slice (sl_P (K := K) rfl) (pe_op op_addP (pe_ix (ix_P (K := K) rfl) (pv 3) (pe_call (ok_law_draw T) (hr.mono (by decide)) (by rfl) T.m_law_draw T.F_law_draw.kp (b_law_draw T) .nil pass0 (pa_cons (pv 0) (pa_cons (pe_callB (call_lenP (K := K) rfl) (by rfl) T.n_len (by decide +kernel) (pa_cons (pv 3) pa_nil)) pa_nil))) (fun _ _ => rfl)) (pe_call (ok_law_text T) (hr.mono (by decide)) (by rfl) T.m_law_text T.F_law_text.kp (b_law_text T) .nil pass0 (pa_cons (pv 0) (pa_cons pe_int (pa_cons (pv 2) pa_nil))))) po_none (po_some pe_int)))) pss_nil)
      (pss_one (ps_if (pt_cmpR (op_notinP (K := K) rfl) (pv 5) (pv 3) (by rfl)) (pss_one (ps_expr (pe_bmK (K := K) rfl PySem.F.plainAttrs_list PySem.F.slot_list_append PySem.F.type_list_append mt_append (pv 3) (pa_cons (pv 5) pa_nil)))) pss_nil)))))
      (pss_one (ps_ret (pv 3)))))), ?_⟩
    walk_at "go"
    refine use_signs fun sg hsg gsg => ?_
    walk_at "go"
    refine ⟨ll rfl, fun l1 n1 => ?_⟩
    have S0 := (Stp.refl hP).new (o := .lst [.str "ab", .str "no-a", .str "abcdefghijklmnopqrstuvwxyz0123456789-", .str sg]) n1
    walk_at "go"
    refine use_draw S0 (by decide) (by decide) fun d1 H1 S1 T1 a1 b1 => ?_
    refine w_pickS (fun s => (0 < s.length ∧ s.length ≤ 94) ∧ Gd s) (T1.at upd_same (hP.ne n1)) a1 b1 ⟨⟨by decide +kernel, gd_ok (by decide +kernel)⟩, ⟨by decide +kernel, gd_ok (by decide +kernel)⟩, ⟨by decide +kernel, gd_ok (by decide +kernel)⟩, ⟨by omega, gsg⟩, trivial⟩ fun L hL => ?_
    obtain ⟨⟨hL1, hL2⟩, gL⟩ := hL
    walk_at "go"
    refine ⟨ll rfl, fun l nl => ?_⟩
    have nlp := S1.pot.ne nl
    have nl0 := S1.free hP nl
    have S2 := S1.new (o := .lst []) nl
    walk_at "go"
    refine use_draw S2 (by omega) (by omega) fun d2 H2 S3 T2 a2 b2 => ?_
    walk_at "go"
    have el2 := T2.at (q := l) upd_same nlp
    refine for_range (lo := 0) (n := d2.toNat) (fun i σ' H' => ∃ (xs : List Str) (y4 y5 : Option V), σ' = [some (.ref p), some (.int m), some (.str L), some (.ref l), y4, y5] ∧ Stp p H H' ∧ H' l = some (.lst (xs.map V.str)) ∧ xs.length ≤ i ∧ xs.Nodup ∧ (∀ x ∈ xs, Gd x ∧ 1 ≤ x.length ∧ x.length ≤ 13)) ⟨[], none, none, rfl, S3, el2, Nat.le_refl _, List.nodup_nil, fun _ h => nomatch h⟩ (fun i σ' H' hi hP2 => ?_) (fun σ' H' hP2 => ?_)
    · obtain ⟨xs, y4, y5, rfl, S4, el, hxl, hnd, hxs⟩ := hP2
      walk_at "go"
      refine use_draw S4 (by omega) (by omega) fun d3 H3 S5 T3 a3 b3 => ?_
      have hd3 : d3.toNat < L.cps.toList.length := by show d3.toNat < L.cps.size; have : L.length = L.cps.size := rfl; omega
      refine w_ixS (szl (by omega)) (atI_nat' a3 (List.getElem?_eq_getElem hd3)) ?_
      walk_at "go"
      refine ⟨ll rfl, fun l3 n3 => ?_⟩
      have S6 := S5.new (o := .lst [.int 2, .int 12]) n3
      walk_at "go"
      refine use_draw S6 (by decide) (by decide) fun d4 H4 S7 T4 a4 b4 => ?_
      refine w_pickI (fun s => 0 ≤ s ∧ s ≤ 12) (T4.at upd_same (S5.pot.ne n3)) a4 b4 ⟨by decide, by decide, trivial⟩ fun mm hmm => ?_
      walk_at "go"
      refine use_text S7 (by omega) (by omega) (by omega) (by omega) fun t H5 S8 T5 ht hts => ?_
      have e5 : H5 l = some (.lst (xs.map V.str)) := T5.at (T4.at (by rw [upd_ne (ne_of_none (T3.at el nlp) n3)]; exact T3.at el nlp) nlp) nlp
      have hone : (⟨#[L.cps.toList[d3.toNat]]⟩ : Str).length = 1 := rfl
      have g1 : Gd (⟨#[L.cps.toList[d3.toNat]]⟩ ++ t) := (gL.one (List.getElem_mem _)).app (gL.of hts)
      have l1' : (⟨#[L.cps.toList[d3.toNat]]⟩ ++ t : Str).length = 1 + t.length := by rw [len_app]; rfl
      refine w_addS (szl (by omega)) ?_
      generalize (⟨#[L.cps.toList[d3.toNat]]⟩ ++ t : Str) = nm at g1 l1' ⊢
      walk_at "gos"
      refine w_ifZ (fun σ' H' => ∃ (nm : Str) (y4 : Option V), σ' = [some (.ref p), some (.int m), some (.str L), some (.ref l), y4, some (.str nm)] ∧ Stp p H H' ∧ H' l = some (.lst (xs.map V.str)) ∧ Gd nm ∧ 1 ≤ nm.length ∧ nm.length ≤ 13) (fun σ' H' hZ => ?_) fun hz => ?_
      · obtain ⟨nm, y4, rfl, S9, e9, g9, h91, h92⟩ := hZ
        walk_at "go"
        refine w_ninLS (.of e9) ?_
        walk_at "go"
        refine iteN (fun hn => ?_) fun hn => ?_
        · walk_at "go"
          refine w_tyL e9 ?_
          walk_at "go"
          refine w_app e9 (ltl (by rw [List.length_map]; omega)) ?_
          walk_at "go"
          refine ⟨xs ++ [nm], _, _, rfl, S9.push nl0 nlp, by rw [upd_same, List.map_append]; rfl, by rw [List.length_append]; simp; omega, ?_, fun x hx => ?_⟩
          · rw [List.nodup_append]
            exact ⟨hnd, by simp, fun a ha b hb => by rw [List.mem_singleton.mp hb]; intro e; exact hn (e ▸ ha)⟩
          · rcases List.mem_append.mp hx with z | z
            · exact hxs x z
            · rw [List.mem_singleton.mp z]; exact ⟨g9, h91, h92⟩
        · walk_at "go"
          exact ⟨xs, _, _, rfl, S9, e9, by omega, hnd, hxs⟩
      · walk_at "go"
        refine ⟨ll rfl, fun l6 n6 => ?_⟩
        have S9 := S8.new (o := .lst []) n6
        have e6 : upd H5 l6 (.lst []) l = some (.lst (xs.map V.str)) := by rw [upd_ne (ne_of_none e5 n6)]; exact e5
        refine w_neLS (xs := xs) (ys := []) (dp_strs (.of e6)) (dp_strs (.of upd_same)) (fun x hx => (hxs x hx).1) (fun _ h => nomatch h) ?_
        walk_at "go"
        refine iteN (fun hne => ?_) fun _ => ?_
        · walk_at "go"
          refine use_draw S9 (by decide) (by decide) fun d7 H7 S10 T7 a7 b7 => ?_
          walk_at "go"
          have e7 := T7.at e6 nlp
          refine iteD (fun _ => ?_) fun _ => ?_
          · walk_at "go"
            refine w_lenL (.of e7) ?_
            walk_at "go"
            rw [List.length_map]
            have hpos : 0 < xs.length := List.length_pos_iff.mpr hne
            refine use_draw S10 (by omega) (by omega) fun d8 H8 S11 T8 a8 b8 => ?_
            have e8 := T8.at e7 nlp
            refine w_ixLS (.of e8) a8 b8 fun x hx => ?_
            obtain ⟨gx, hx1, hx2⟩ := hxs x hx
            walk_at "go"
            refine use_text S11 (by decide) (by decide) (by omega) (by omega) fun t2 H9 S12 T9 ht2 hts2 => ?_
            have e9 := T9.at e8 nlp
            have := len_app x t2
            refine w_addS (szl (by omega)) ?_
            walk_at "gos"
            have hc := len_to (x ++ t2) 13
            exact hz _ _ ⟨_, _, rfl, S12, e9, (gx.app (gL.of hts2)).cut, by show 1 ≤ (cutS (x ++ t2) none (some ((13 : Nat) : Int))).length; omega, by show (cutS (x ++ t2) none (some ((13 : Nat) : Int))).length ≤ 13; omega⟩
          · exact hz _ _ ⟨_, _, rfl, S10, e7, g1, by omega, by omega⟩
        · exact hz _ _ ⟨_, _, rfl, S9, e6, g1, by omega, by omega⟩
    · obtain ⟨xs, y4, y5, rfl, S4, el, hxl, hnd, hxs⟩ := hP2
      walk_at "go"
      exact q _ _ xs S4 nl0 el (by omega) hnd hxs
/-! ### _law_beginning -/
def sp_law_beginning (K : PySem.W.Frag) : Sp := fun vs H Q E => ∃ (p a : Addr) (xs : List Str), vs = [.ref p, .ref a] ∧ Pot H p ∧ a ≠ p ∧ SqL K H a (xs.map V.str) ∧ xs.length ≤ 60 ∧ (∀ x ∈ xs, Gd x ∧ 1 ≤ x.length ∧ x.length ≤ 13) ∧
  ∀ H' (t : Str), Stp p H H' → Gd t → t.length ≤ 14 → Q (.str t) H' 
set_option maxHeartbeats 4000000 in
theorem ok_law_beginning (T : Tx K mg) : FnOk P w K mg base CX0 3 T.a_law_beginning T.fd_law_beginning ["_law_pot_here", "_law_names_here"] (sp_law_beginning K) := by
  refine T.F_law_beginning.ok sc_law_beginning (fun vs H Q E h => ?_) (fun cdv A outer s H vs Q E hr h => ?_)
  · obtain ⟨p, a, xs, rfl, hP, nap, hS, hl, hx, q⟩ := h; rfl
  · obtain ⟨p, a, xs, rfl, hP, nap, hS, hl, hx, q⟩ := h
    refine ⟨_, (pss_cons (ps_set (i := 2) sc_law_beginning.nd rfl (.inl rfl) (pe_call (ok_law_draw T) (hr.mono (by decide)) (by rfl) T.m_law_draw T.F_law_draw.kp (b_law_draw T) .nil pass0 (pa_cons (pv 0) (pa_cons pe_int pa_nil))))
      (pss_cons (ps_if (PW.pt (pw_or (pt_cmpR (op_eqP (K := K) rfl hr.units) (pv 1) (pe_lst pa_nil) (nomark _)) (pw_or1 (pt_cmpR (op_eqP (K := K) rfl hr.units) (pv 2) pe_int (nomark _))))) (pss_one (ps_ret (pe_call (ok_law_text T) (hr.mono (by decide)) (by rfl) T.m_law_text T.F_law_text.kp (b_law_text T) .nil pass0 (pa_cons (pv 0) (pa_cons pe_int (pa_cons pe_str pa_nil)))))) pss_nil)
      (pss_cons (ps_set (i := 3) sc_law_beginning.nd rfl (.inl rfl) (pe_ix (ix_P (K := K) rfl) (pv 1) (pe_call (ok_law_draw T) (hr.mono (by decide)) (by rfl) T.m_law_draw T.F_law_draw.kp (b_law_draw T) .nil pass0 (pa_cons (pv 0) (pa_cons (pe_callB (call_lenP (K := K) rfl) (by rfl) T.n_len (by decide +kernel) (pa_cons (pv 1) pa_nil)) pa_nil))) (fun _ _ => rfl)))
      (pss_cons (ps_if (pt_cmpR (cp_i2 op_lt) (pv 2) pe_int (nomark _)) (pss_one (ps_ret (pe_slice (sl_P (K := K) rfl) (pv 3) po_none (po_some (pe_call (ok_law_draw T) (hr.mono (by decide)) (by rfl) T.m_law_draw T.F_law_draw.kp (b_law_draw T) .nil pass0 (pa_cons (pv 0) (pa_cons (pe_op op_addP (pe_callB (call_lenP (K := K) rfl) (by rfl) T.n_len (by decide +kernel) (pa_cons (pv 3) pa_nil)) pe_int) pa_nil))))))) pss_nil)
      (pss_one (ps_ret (pe_ix (ix_P (K := K) rfl) (pe_lst (pa_cons (pe_op op_addP (pv 3) pe_str) (pa_cons (pe_slice (sl_P (K := K) rfl) (pv 3) (po_some pe_int) po_none) pa_nil))) (pe_op (op_i2 op_sub) (pv 2) pe_int) (fun _ _ => rfl)))))))), ?_⟩
    walk_at "go"
    refine use_draw (.refl hP) (by decide) (by decide) fun w1 H1 S1 T1 a1 b1 => ?_
    have hS1 : SqL K H1 a (xs.map V.str) := S1.sq hS nap
    walk_at "go"
    refine ⟨ll rfl, fun l2 n2 => ?_⟩
    have S2 := S1.new (o := .lst []) n2
    have hS2 : SqL K (upd H1 l2 (.lst [])) a (xs.map V.str) := ex_l (Ex.new n2) hS1
    refine w_eqLS (xs := xs) (ys := []) (dp_strs hS2) (dp_strs (.of upd_same)) (fun x h => (hx x h).1) (fun _ h => nomatch h) ?_
    walk_at "go"
    refine iteD (fun h1 => ?_) fun h1 => ?_
    · walk_at "go"
      refine use_text S2 (by decide) (by decide) (by decide +kernel) (by decide +kernel) fun t H3 S3 T3 ht hts => ?_
      exact q _ t S3 ((gd_ok (by decide +kernel)).of hts) (by omega)
    walk_at "go"
    refine iteD (fun h2 => ?_) fun h2 => ?_
    · walk_at "go"
      refine use_text S2 (by decide) (by decide) (by decide +kernel) (by decide +kernel) fun t H3 S3 T3 ht hts => ?_
      exact q _ t S3 ((gd_ok (by decide +kernel)).of hts) (by omega)
    walk_at "go"
    refine w_lenL hS2 ?_
    walk_at "go"
    rw [List.length_map]
    have hpos : 0 < xs.length := List.length_pos_iff.mpr h1
    refine use_draw S2 (by omega) (by omega) fun d3 H3 S3 T3 a3 b3 => ?_
    refine w_ixLS (S3.sq hS nap) a3 b3 fun nm hnm => ?_
    obtain ⟨gn, hn1, hn2⟩ := hx nm hnm
    walk_at "go"
    refine iteD (fun h3 => ?_) fun h3 => ?_
    · walk_at "go"
      refine use_draw S3 (by omega) (by omega) fun d4 H4 S4 T4 a4 b4 => ?_
      walk_at "go"
      obtain ⟨k, rfl⟩ : ∃ k : Nat, d4 = k := ⟨d4.toNat, by omega⟩
      have hc := len_to nm k
      exact q _ _ S4 gn.cut (by omega)
    walk_at "go"
    have hf : (cutS nm (some 1) none).length = nm.length - 1 := len_from nm 1
    refine ⟨ll rfl, fun l5 n5 => ?_⟩
    have S5 := S3.new (o := .lst [.str (nm ++ Str.ofString "a"), .str (cutS nm (some 1) none)]) n5
    walk_at "go"
    have ea : (nm ++ Str.ofString "a").length = nm.length + 1 := by rw [len_app]; rfl
    refine w_pickS (fun s => Gd s ∧ s.length ≤ 14) upd_same (by omega) (by show w1 - 4 < 2; omega) ⟨⟨gn.app (gd_ok (by decide +kernel)), by omega⟩, ⟨gn.cut, by omega⟩, trivial⟩ fun t ht => ?_
    exact q _ t S5 ht.1 ht.2
/-! ### _law_meant -/
def sp_law_meant (K : PySem.W.Frag) : Sp := fun vs H Q E => ∃ (a : Addr) (names : List Str) (b : Str), vs = [.ref a, .str b] ∧ SqL K H a (names.map V.str) ∧ names.length < 64 ∧ (∀ x ∈ names, x.length ≤ 1000) ∧ b.length ≤ 1000 ∧
  ∀ p H', Ex H H' → H p = none → H' p = some (.lst ((mMeant names b).map V.str)) → Q (.ref p) H' 
set_option maxHeartbeats 4000000 in
theorem ok_law_meant (T : Tx K mg) : FnOk P w K mg base CX0 1 T.a_law_meant T.fd_law_meant ["_law_names_here", "_law_beginning_here"] (sp_law_meant K) := by
  refine T.F_law_meant.ok sc_law_meant (fun vs H Q E h => ?_) (fun cdv A outer s H vs Q E hr h => ?_)
  · obtain ⟨a, names, b, rfl, hS, hl, hx, hb, q⟩ := h; rfl
  · obtain ⟨a, names, b, rfl, hS, hl, hx, hb, q⟩ := h
    refine ⟨_, (pss_cons (ps_if (pt_cmpR (op_eqP (K := K) rfl hr.units) (pv 1) pe_str (nomark _)) (pss_one (ps_ret (pe_lst pa_nil))) pss_nil)
      (pss_cons (ps_if (pt_cmpR (op_inP (K := K) rfl) (pv 1) (pv 0) (by rfl)) (pss_one (ps_ret (pe_lst (pa_cons (pv 1) pa_nil)))) pss_nil)
      (pss_one (ps_ret (pe_callB (cr_sortedP (K := K) rfl) (by rfl) T.n_sorted (by decide +kernel) (pa_cons (pe_lc (own := [("_law_name", 2)]) (g := gName 2) (by rfl) sc_law_meant.nd (pi_listK (K := K) rfl (pv 0)) (blkOk_by (own := [("_law_name", 2)]) (N := ["_law_names_here", "_law_beginning_here", "_law_name"]) (sc := defScope s_law_meant) (by decide +kernel)) (fun _ _ _ _ _ => pg_name (i := 2) sc_law_meant.nd rfl (Or.inl rfl)) (fun _ _ _ _ _ => pts_one (pt_cmpR (op_eqP (K := K) rfl hr.units) (pe_slice (sl_P (K := K) rfl) (pv 2) po_none (po_some (pe_callB (call_lenP (K := K) rfl) (by rfl) T.n_len (by decide +kernel) (pa_cons (pv 1) pa_nil)))) (pv 1) (nomark _))) (fun _ _ _ _ _ => (pv 2))) pa_nil)))))), ?_⟩
    walk_at "go"
    refine iteD (fun h1 => ?_) fun h1 => ?_
    · walk_at "go"
      refine ⟨ll rfl, fun p np => q p _ (Ex.new np) np ?_⟩
      rw [upd_same, mMeant, if_pos h1]; rfl
    walk_at "go"
    refine w_inLS hS ?_
    walk_at "go"
    refine iteD (fun h2 => ?_) fun h2 => ?_
    · walk_at "go"
      refine ⟨ll rfl, fun p np => q p _ (Ex.new np) np ?_⟩
      rw [upd_same, mMeant, if_neg h1, if_pos h2]; rfl
    walk_at "go"
    refine ⟨a, rfl, ⟨_, hS⟩, fun D nD => ?_⟩
    refine lc_pure (xs := names.map V.str) (fun v => match v with | .str n => Txt.startswith n b | _ => false) (fun v => v) hS (by rw [List.length_map]; omega) nD (fun x hx2 H2 E2 Z N hZ hN => ?_) fun H2 E2 eD => ?_
    · obtain ⟨n, hn, rfl⟩ := List.mem_map.mp hx2
      have := hx n hn
      refine ⟨rfl, ?_⟩
      walk_at "go"
      refine iteD (fun h3 => ?_) fun h3 => ?_
      · walk_at "go"
        exact hZ ((cut_starts n b).mp h3) _ (Ex.refl _)
      · exact hN (by show Txt.startswith n b = false; have := mt (cut_starts n b).mpr h3; simpa using this) _ (Ex.refl _)
    · have e1 : ((names.map V.str).filter (fun v => match v with | .str n => Txt.startswith n b | _ => false)).map (fun v => v) = (names.filter fun n => Txt.startswith n b).map V.str := by
        rw [List.map_id', List.filter_map]; rfl
      rw [e1] at eD
      refine w_sorted (.of eD) (Nat.lt_of_le_of_lt (List.length_filter_le _ _) hl) fun p np => ?_
      refine q p _ (E2.trans (Ex.new np)) (E2.free np) ?_
      rw [upd_same, mMeant, if_neg h1, if_neg h2]
/-! ### _law_right -/
def sp_law_right (K : PySem.W.Frag) : Sp := fun vs H Q E => ∃ (a : Addr) (names : List Str) (b : Str), vs = [.ref a, .str b] ∧ SqL K H a (names.map V.str) ∧ names.length ≤ 60 ∧ (∀ x ∈ names, Gd x ∧ 1 ≤ x.length ∧ x.length ≤ 13) ∧ Gd b ∧ b.length ≤ 14 ∧
  ∀ H', Ex H H' → Q (.bl true) H' 
set_option maxHeartbeats 4000000 in
theorem ok_law_right (T : Tx K mg) : FnOk P w K mg base CX0 2 T.a_law_right T.fd_law_right ["_law_names_here", "_law_beginning_here"] (sp_law_right K) := by
  refine T.F_law_right.ok sc_law_right (fun vs H Q E h => ?_) (fun cdv A outer s H vs Q E hr h => ?_)
  · obtain ⟨a, names, b, rfl, hS, hl, hx, gb, hb, q⟩ := h; rfl
  · obtain ⟨a, names, b, rfl, hS, hl, hx, gb, hb, q⟩ := h
    refine ⟨_, (pss_cons (ps_set (i := 2) sc_law_right.nd rfl (.inl rfl) (pe_call (ok_law_meant T) (hr.mono (by decide)) (by rfl) T.m_law_meant T.F_law_meant.kp (b_law_meant T) .nil pass0 (pa_cons (pv 0) (pa_cons (pv 1) pa_nil))))
      (pss_cons (ps_for PassesOwn.never rfl (pi_listK (K := K) rfl (pe_lst (pa_cons (pe_callTy (call_listP (K := K) rfl) (by rfl) T.n_list (by decide +kernel) (pa_cons (pv 0) pa_nil)) (pa_cons (pe_revL' (K := K) rfl (pv 0)) pa_nil)))) (pg_name (i := 3) sc_law_right.nd rfl (.inl rfl))
      (pss_cons (ps_set (i := 4) sc_law_right.nd rfl (.inl rfl) (pe_callTy (call_listP (K := K) rfl) (by rfl) T.n_list (by decide +kernel) (pa_cons (pv 3) pa_nil)))
      (pss_cons (ps_set (i := 5) sc_law_right.nd rfl (.inl rfl) (pe_call (ok_meant T) (hr.mono (by decide)) (by rfl) T.m_meant T.F_meant.kp (b_meant T) .nil pass0 (pa_cons (pv 3) (pa_cons (pv 1) pa_nil))))
      (pss_cons (ps_if (PW.pt (pw_or (pt_not (pt_val (pe_callB (call_isiP (K := K) rfl) (by rfl) T.n_isinstance (by decide +kernel) (pa_cons (pv 5) (pa_cons (pe_bltn (v := .ty "list") (by rfl) T.n_list (by decide +kernel) rfl) pa_nil))))) (pw_or (pt_cmpR (op_neP (K := K) rfl hr.units) (pv 5) (pv 2) (nomark _)) (pw_or1 (pt_cmpR (op_neP (K := K) rfl hr.units) (pv 3) (pv 4) (nomark _)))))) (pss_one (ps_ret pe_bl)) pss_nil)
      (pss_cons (ps_expr (pe_bmK (K := K) rfl PySem.F.plainAttrs_list PySem.F.slot_list_append PySem.F.type_list_append mt_append (pv 5) (pa_cons pe_str pa_nil)))
      (pss_one (ps_if (PW.pt (pw_or (pt_cmpR (op_neP (K := K) rfl hr.units) (pe_call (ok_meant T) (hr.mono (by decide)) (by rfl) T.m_meant T.F_meant.kp (b_meant T) .nil pass0 (pa_cons (pv 3) (pa_cons (pv 1) pa_nil))) (pv 2) (nomark _)) (pw_or1 (pt_cmpR (op_neP (K := K) rfl hr.units) (pv 3) (pv 4) (nomark _))))) (pss_one (ps_ret pe_bl)) pss_nil)))))))
      (pss_one (ps_ret pe_bl)))), ?_⟩
    have hb2 : b.length ≤ 1000 := by omega
    have gm := mMeant_gd (names := names) (b := b) (fun x h => (hx x h).1) gb
    have hml := mMeant_len names b
    walk_at "go"
    refine ⟨a, names, b, rfl, hS, by omega, fun x h => by have := (hx x h).2.2; omega, hb2, fun u H1 E1 nu eu => ?_⟩
    have hS1 := ex_l E1 hS
    walk_at "go"
    refine w_list hS1 fun l1 n1 => ?_
    have E2 := E1.trans (Ex.new (o := .lst (names.map V.str)) n1)
    have hS2 := ex_l (Ex.new (o := .lst (names.map V.str)) n1) hS1
    walk_at "go"
    refine ⟨a, _, rfl, hS2, fun l2 n2 => ?_⟩
    have E3 := E2.trans (Ex.new (o := .lst (names.map V.str).reverse) n2)
    walk_at "go"
    refine ⟨ll rfl, fun l3 n3 => ?_⟩
    have E4 := E3.trans (Ex.new (o := .lst [.ref l1, .ref l2]) n3)
    refine ⟨l3, rfl, ⟨_, .of upd_same⟩, ?_⟩
    have eb : upd (upd (upd H1 l1 (.lst (names.map V.str))) l2 (.lst (names.map V.str).reverse)) l3 (.lst [.ref l1, .ref l2]) l3 = some (.lst [.ref l1, .ref l2]) := upd_same
    have hu : upd (upd (upd H1 l1 (.lst (names.map V.str))) l2 (.lst (names.map V.str).reverse)) l3 (.lst [.ref l1, .ref l2]) u = some (.lst ((mMeant names b).map V.str)) :=
      Ex.new n3 _ _ (Ex.new n2 _ _ (Ex.new n1 _ _ eu))
    have hL : ∀ x ∈ [V.ref l1, V.ref l2], ∃ (l : Addr) (hs : List Str), x = .ref l ∧ SqL K (upd (upd (upd H1 l1 (.lst (names.map V.str))) l2 (.lst (names.map V.str).reverse)) l3 (.lst [.ref l1, .ref l2])) l (hs.map V.str) ∧ hs.Perm names := by
      intro x hx
      simp only [List.mem_cons, List.not_mem_nil, or_false] at hx
      rcases hx with rfl | rfl
      · exact ⟨l1, names, rfl, .of (Ex.new n3 _ _ (Ex.new n2 _ _ upd_same)), .refl _⟩
      · exact ⟨l2, names.reverse, rfl, .of (Ex.new n3 _ _ (by rw [upd_same, List.map_reverse])), List.reverse_perm names⟩
    generalize upd (upd (upd H1 l1 (.lst (names.map V.str))) l2 (.lst (names.map V.str).reverse)) l3 (.lst [.ref l1, .ref l2]) = HB at *
    refine for_list (xs := [.ref l1, .ref l2]) (fun i σ' H' => ∃ y3 y4 y5, σ' = [some (.ref a), some (.str b), some (.ref u), y3, y4, y5] ∧ Ex HB H') ⟨none, none, none, rfl, Ex.refl _⟩ (fun i σ' H' hi hP => ?_) (fun i x σ' H' hx2 hP => ?_) (fun σ' H' hP => ?_)
    · obtain ⟨y3, y4, y5, rfl, E⟩ := hP
      exact .of (E _ _ eb)
    · obtain ⟨y3, y4, y5, rfl, E⟩ := hP
      obtain ⟨l, hs, rfl, hl1, hp⟩ := hL x (List.mem_of_getElem? hx2)
      have hhl : hs.length = names.length := hp.length_eq
      have hg : ∀ x ∈ hs, Gd x := fun x h => (hx x (hp.mem_iff.mp h)).1
      have em : mMeant hs b = mMeant names b := mMeant_perm hp b
      have hl2 := ex_l E hl1
      walk_at "go"
      refine w_list hl2 fun k nk => ?_
      have Ek := E.trans (Ex.new (o := .lst (hs.map V.str)) nk)
      have hl3 := ex_l (Ex.new (o := .lst (hs.map V.str)) nk) hl2
      have ek : upd H' k (.lst (hs.map V.str)) k = some (.lst (hs.map V.str)) := upd_same
      generalize upd H' k (.lst (hs.map V.str)) = H4 at *
      walk_at "go"
      refine ⟨l, hs, b, rfl, hl3, by omega, fun p H5 E5 np ep => ?_⟩
      rw [em] at ep
      walk_at "go"
      refine w_isi_list_list ep ?_
      walk_at "go"
      refine w_neLS (xs := mMeant names b) (ys := mMeant names b) (dp_strs (.of ep)) (dp_strs (.of (E5 _ _ (Ek _ _ hu)))) gm gm ?_
      walk_at "go"
      refine iteN (fun z => absurd rfl z) fun _ => ?_
      walk_at "go"
      refine w_neLS (xs := hs) (ys := hs) (dp_strs (ex_l E5 hl3)) (dp_strs (.of (E5 _ _ ek))) hg hg ?_
      walk_at "go"
      refine iteN (fun z => absurd rfl z) fun _ => ?_
      walk_at "go"
      refine w_tyL ep ?_
      walk_at "go"
      refine w_app ep (ltl (by rw [List.length_map]; omega)) ?_
      have E6 : Ex H4 (upd H5 p (.lst ((mMeant names b).map V.str ++ [.str "more"]))) := fun c o hc => by
        rw [upd_ne (ne_of_none hc np)]; exact E5 _ _ hc
      generalize upd H5 p (.lst ((mMeant names b).map V.str ++ [.str "more"])) = H6 at *
      walk_at "go"
      refine ⟨l, hs, b, rfl, ex_l E6 hl3, by omega, fun p7 H7 E7 np7 ep7 => ?_⟩
      rw [em] at ep7
      walk_at "go"
      refine w_neLS (xs := mMeant names b) (ys := mMeant names b) (dp_strs (.of ep7)) (dp_strs (.of (E7 _ _ (E6 _ _ (Ek _ _ hu))))) gm gm ?_
      walk_at "go"
      refine iteN (fun z => absurd rfl z) fun _ => ?_
      walk_at "go"
      refine w_neLS (xs := hs) (ys := hs) (dp_strs (ex_l E7 (ex_l E6 hl3))) (dp_strs (.of (E7 _ _ (E6 _ _ ek)))) hg hg ?_
      walk_at "go"
      refine iteN (fun z => absurd rfl z) fun _ => ?_
      walk_at "go"
      exact ⟨_, _, _, rfl, Ek.trans (E6.trans E7)⟩
    · obtain ⟨y3, y4, y5, rfl, E⟩ := hP
      walk_at "go"
      exact q _ (E4.trans E)
/-! ### law -/
def sp_law (K : PySem.W.Frag) : Sp := fun vs H Q E => ∃ (a : Addr) (ns : List Int), vs = [.ref a] ∧ Dp K H (.ref a) (.list (ns.map PyData.int)) ∧ ns.length ≤ 63 ∧ ∀ H', Q (.bl true) H'
theorem law_start {K : PySem.W.Frag} {H : Hp} {a : Addr} {ns : List Int} (hl : ns.length ≤ 63) (h : SqL K H a (ns.map V.int)) : sp_law K [.ref a] H (fun v _ => v = .bl true) (fun _ _ _ => False) :=
  ⟨a, ns, rfl, .lst h (dpall_ints ns), hl, fun _ => rfl⟩
set_option maxHeartbeats 4000000 in
theorem ok_law (T : Tx K mg) : FnOk P w K mg base CX0 4 T.a_law T.fd_law ["_law_script"] (sp_law K) := by
  refine T.F_law.ok sc_law (fun vs H Q E h => ?_) (fun cdv A outer s H vs Q E hr h => ?_)
  · obtain ⟨a, ns, rfl, hS, hl, q⟩ := h; rfl
  · obtain ⟨a, ns, rfl, hS, hl, q⟩ := h
    refine ⟨_, (pss_cons (ps_for PassesOwn.never rfl (pi_range1P (by rfl) T.n_range (pa_cons (pe_callB (call_max2P rfl) (by rfl) T.n_max (by decide +kernel) (pa_cons pe_int (pa_cons (pe_callB (call_min2P rfl) (by rfl) T.n_min (by decide +kernel) (pa_cons (pe_callB (call_lenP (K := K) rfl) (by rfl) T.n_len (by decide +kernel) (pa_cons (pv 0) pa_nil)) (pa_cons pe_int pa_nil))) pa_nil))) pa_nil)) (pg_name (i := 1) sc_law.nd rfl (.inl rfl))
      (pss_cons (ps_set (i := 2) sc_law.nd rfl (.inl rfl) (pe_call (ok_law_pot T) (hr.mono (by decide)) (by rfl) T.m_law_pot T.F_law_pot.kp (b_law_pot T) .nil pass0 (pa_cons (pv 0) (pa_cons (pv 1) pa_nil))))
      (pss_cons (ps_set (i := 3) sc_law.nd rfl (.inl rfl) (pe_call (ok_law_names T) (hr.mono (by decide)) (by rfl) T.m_law_names T.F_law_names.kp (b_law_names T) .nil pass0 (pa_cons (pv 2) (pa_cons pe_int pa_nil))))
      (pss_cons (ps_for PassesOwn.never rfl (pi_range1P (by rfl) T.n_range (pa_cons pe_int pa_nil)) (pg_name (i := 4) sc_law.nd rfl (.inl rfl))
      (pss_one (ps_if (pt_not (pt_val (pe_call (ok_law_right T) (hr.mono (by decide)) (by rfl) T.m_law_right T.F_law_right.kp (b_law_right T) .nil pass0 (pa_cons (pv 3) (pa_cons (pe_call (ok_law_beginning T) (hr.mono (by decide)) (by rfl) T.m_law_beginning T.F_law_beginning.kp (b_law_beginning T) .nil pass0 (pa_cons (pv 2) (pa_cons (pv 3) pa_nil))) pa_nil))))) (pss_one (ps_ret pe_bl)) pss_nil)))
      (pss_one (ps_if (pt_not (pt_val (pe_call (ok_law_right T) (hr.mono (by decide)) (by rfl) T.m_law_right T.F_law_right.kp (b_law_right T) .nil pass0 (pa_cons (pv 3) (pa_cons pe_str pa_nil))))) (pss_one (ps_ret pe_bl)) pss_nil))))))
      (pss_one (ps_ret pe_bl))), ?_⟩
    walk_at "go"
    refine dp_lenL (B := []) (by rw [hid_nil]; exact hS) ?_
    walk_at "go"
    refine for_range (lo := 0) (n := (max (1:Int) (min (List.map PyData.int ns).length 12)).toNat) (fun i σ' H' => ∃ y1 y2 y3 y4, σ' = [some (.ref a), y1, y2, y3, y4] ∧ Ex H H') ⟨none, none, none, none, rfl, Ex.refl _⟩ (fun i σ' H' hi hP => ?_) (fun σ' H' hP => ?_)
    · obtain ⟨y1, y2, y3, y4, rfl, E1⟩ := hP
      walk_at "go"
      refine ⟨[], a, ns, 0 + i, rfl, by rw [hid_nil]; exact dp_ex E1 hS, by omega, by omega, fun p H2 np E2 hp => ?_⟩
      walk_at "go"
      refine ⟨p, 24, rfl, hp, by decide, by decide, fun l H3 xs S3 nl el hxl hnd hxs => ?_⟩
      have E3 := Stp.over np E2 S3
      have nlp : l ≠ p := hp.ne nl
      walk_at "go"
      refine for_range (lo := 0) (n := 6) (fun j σ' H'' => ∃ y4, σ' = [some (.ref a), some (.int (0 + i)), some (.ref p), some (.ref l), y4] ∧ Stp p H3 H'') ⟨y4, rfl, .refl S3.pot⟩ (fun j σ' H'' hj hP => ?_) (fun σ' H'' hP => ?_)
      · obtain ⟨y4, rfl, S4⟩ := hP
        walk_at "go"
        refine ⟨p, l, xs, rfl, S4.pot, nlp, .of (S4.at el nlp), by omega, hxs, fun H5 t S5 gt ht => ?_⟩
        walk_at "go"
        refine ⟨l, xs, t, rfl, .of (S5.at (S4.at el nlp) nlp), by omega, hxs, gt, ht, fun H6 E6 => ?_⟩
        walk_at "go"
        exact ⟨_, rfl, (S4.trans S5).to E6⟩
      · obtain ⟨y4, rfl, S4⟩ := hP
        walk_at "go"
        refine ⟨l, xs, Str.ofString "", rfl, .of (S4.at el nlp), by omega, hxs, gd_ok (by decide +kernel), by decide +kernel, fun H6 E6 => ?_⟩
        walk_at "go"
        exact ⟨_, _, _, _, rfl, E1.trans ((Stp.over np E2 (S3.trans S4)).trans E6)⟩
    · walk_at "go"
      exact q _
end
theorem all_mk {l : PySem.W.OpenLaw} {w : World} {K : PySem.W.Frag} {h : Heap} {mg : Str → Option Value} {fa : Addr} (X : K.In h) (G : h.Ns mainGlobals mg) (hfa : mg "law" = some (.ref fa))
    {f_meant : Addr} {od_meant an_meant : Option Addr} {sl_meant : Array (Option Value)} {oc_meant kV_meant dc_meant pm_meant cd_meant ct_meant : Value}
    {f_law_cell : Addr} {od_law_cell an_law_cell : Option Addr} {sl_law_cell : Array (Option Value)} {oc_law_cell kV_law_cell dc_law_cell pm_law_cell cd_law_cell ct_law_cell : Value}
    {f_law_pot : Addr} {od_law_pot an_law_pot : Option Addr} {sl_law_pot : Array (Option Value)} {oc_law_pot kV_law_pot dc_law_pot pm_law_pot cd_law_pot ct_law_pot : Value}
    {f_law_draw : Addr} {od_law_draw an_law_draw : Option Addr} {sl_law_draw : Array (Option Value)} {oc_law_draw kV_law_draw dc_law_draw pm_law_draw cd_law_draw ct_law_draw : Value}
    {f_law_signs : Addr} {od_law_signs an_law_signs : Option Addr} {sl_law_signs : Array (Option Value)} {oc_law_signs kV_law_signs dc_law_signs pm_law_signs cd_law_signs ct_law_signs : Value}
    {f_law_text : Addr} {od_law_text an_law_text : Option Addr} {sl_law_text : Array (Option Value)} {oc_law_text kV_law_text dc_law_text pm_law_text cd_law_text ct_law_text : Value}
    {f_law_names : Addr} {od_law_names an_law_names : Option Addr} {sl_law_names : Array (Option Value)} {oc_law_names kV_law_names dc_law_names pm_law_names cd_law_names ct_law_names : Value}
    {f_law_beginning : Addr} {od_law_beginning an_law_beginning : Option Addr} {sl_law_beginning : Array (Option Value)} {oc_law_beginning kV_law_beginning dc_law_beginning pm_law_beginning cd_law_beginning ct_law_beginning : Value}
    {f_law_meant : Addr} {od_law_meant an_law_meant : Option Addr} {sl_law_meant : Array (Option Value)} {oc_law_meant kV_law_meant dc_law_meant pm_law_meant cd_law_meant ct_law_meant : Value}
    {f_law_right : Addr} {od_law_right an_law_right : Option Addr} {sl_law_right : Array (Option Value)} {oc_law_right kV_law_right dc_law_right pm_law_right cd_law_right ct_law_right : Value}
    {f_law : Addr} {od_law an_law : Option Addr} {sl_law : Array (Option Value)} {oc_law kV_law dc_law pm_law cd_law ct_law : Value}
    (a_meant : PySem.W.nsIn K mainGlobals "meant" = some (some (.ref f_meant)))
    (l_meant : K.lookup f_meant = some ⟨oc_meant, od_meant, .func (PySem.W.fnOf "meant" "meant" (defArgs s_meant) (defBody s_meant) (defScope s_meant) .none kV_meant dc_meant pm_meant an_meant cd_meant ct_meant), sl_meant⟩)
    (c_meant : PySem.W.codeIn K cd_meant "meant" = true)
    (k_meant : PySem.W.keepIn K (.ref f_meant) = true)
    (a_law_cell : PySem.W.nsIn K mainGlobals "_law_cell" = some (some (.ref f_law_cell)))
    (l_law_cell : K.lookup f_law_cell = some ⟨oc_law_cell, od_law_cell, .func (PySem.W.fnOf "_law_cell" "_law_cell" (defArgs s_law_cell) (defBody s_law_cell) (defScope s_law_cell) .none kV_law_cell dc_law_cell pm_law_cell an_law_cell cd_law_cell ct_law_cell), sl_law_cell⟩)
    (c_law_cell : PySem.W.codeIn K cd_law_cell "_law_cell" = true)
    (k_law_cell : PySem.W.keepIn K (.ref f_law_cell) = true)
    (a_law_pot : PySem.W.nsIn K mainGlobals "_law_pot" = some (some (.ref f_law_pot)))
    (l_law_pot : K.lookup f_law_pot = some ⟨oc_law_pot, od_law_pot, .func (PySem.W.fnOf "_law_pot" "_law_pot" (defArgs s_law_pot) (defBody s_law_pot) (defScope s_law_pot) .none kV_law_pot dc_law_pot pm_law_pot an_law_pot cd_law_pot ct_law_pot), sl_law_pot⟩)
    (c_law_pot : PySem.W.codeIn K cd_law_pot "_law_pot" = true)
    (k_law_pot : PySem.W.keepIn K (.ref f_law_pot) = true)
    (a_law_draw : PySem.W.nsIn K mainGlobals "_law_draw" = some (some (.ref f_law_draw)))
    (l_law_draw : K.lookup f_law_draw = some ⟨oc_law_draw, od_law_draw, .func (PySem.W.fnOf "_law_draw" "_law_draw" (defArgs s_law_draw) (defBody s_law_draw) (defScope s_law_draw) .none kV_law_draw dc_law_draw pm_law_draw an_law_draw cd_law_draw ct_law_draw), sl_law_draw⟩)
    (c_law_draw : PySem.W.codeIn K cd_law_draw "_law_draw" = true)
    (k_law_draw : PySem.W.keepIn K (.ref f_law_draw) = true)
    (a_law_signs : PySem.W.nsIn K mainGlobals "_law_signs" = some (some (.ref f_law_signs)))
    (l_law_signs : K.lookup f_law_signs = some ⟨oc_law_signs, od_law_signs, .func (PySem.W.fnOf "_law_signs" "_law_signs" (defArgs s_law_signs) (defBody s_law_signs) (defScope s_law_signs) .none kV_law_signs dc_law_signs pm_law_signs an_law_signs cd_law_signs ct_law_signs), sl_law_signs⟩)
    (c_law_signs : PySem.W.codeIn K cd_law_signs "_law_signs" = true)
    (k_law_signs : PySem.W.keepIn K (.ref f_law_signs) = true)
    (a_law_text : PySem.W.nsIn K mainGlobals "_law_text" = some (some (.ref f_law_text)))
    (l_law_text : K.lookup f_law_text = some ⟨oc_law_text, od_law_text, .func (PySem.W.fnOf "_law_text" "_law_text" (defArgs s_law_text) (defBody s_law_text) (defScope s_law_text) .none kV_law_text dc_law_text pm_law_text an_law_text cd_law_text ct_law_text), sl_law_text⟩)
    (c_law_text : PySem.W.codeIn K cd_law_text "_law_text" = true)
    (k_law_text : PySem.W.keepIn K (.ref f_law_text) = true)
    (a_law_names : PySem.W.nsIn K mainGlobals "_law_names" = some (some (.ref f_law_names)))
    (l_law_names : K.lookup f_law_names = some ⟨oc_law_names, od_law_names, .func (PySem.W.fnOf "_law_names" "_law_names" (defArgs s_law_names) (defBody s_law_names) (defScope s_law_names) .none kV_law_names dc_law_names pm_law_names an_law_names cd_law_names ct_law_names), sl_law_names⟩)
    (c_law_names : PySem.W.codeIn K cd_law_names "_law_names" = true)
    (k_law_names : PySem.W.keepIn K (.ref f_law_names) = true)
    (a_law_beginning : PySem.W.nsIn K mainGlobals "_law_beginning" = some (some (.ref f_law_beginning)))
    (l_law_beginning : K.lookup f_law_beginning = some ⟨oc_law_beginning, od_law_beginning, .func (PySem.W.fnOf "_law_beginning" "_law_beginning" (defArgs s_law_beginning) (defBody s_law_beginning) (defScope s_law_beginning) .none kV_law_beginning dc_law_beginning pm_law_beginning an_law_beginning cd_law_beginning ct_law_beginning), sl_law_beginning⟩)
    (c_law_beginning : PySem.W.codeIn K cd_law_beginning "_law_beginning" = true)
    (k_law_beginning : PySem.W.keepIn K (.ref f_law_beginning) = true)
    (a_law_meant : PySem.W.nsIn K mainGlobals "_law_meant" = some (some (.ref f_law_meant)))
    (l_law_meant : K.lookup f_law_meant = some ⟨oc_law_meant, od_law_meant, .func (PySem.W.fnOf "_law_meant" "_law_meant" (defArgs s_law_meant) (defBody s_law_meant) (defScope s_law_meant) .none kV_law_meant dc_law_meant pm_law_meant an_law_meant cd_law_meant ct_law_meant), sl_law_meant⟩)
    (c_law_meant : PySem.W.codeIn K cd_law_meant "_law_meant" = true)
    (k_law_meant : PySem.W.keepIn K (.ref f_law_meant) = true)
    (a_law_right : PySem.W.nsIn K mainGlobals "_law_right" = some (some (.ref f_law_right)))
    (l_law_right : K.lookup f_law_right = some ⟨oc_law_right, od_law_right, .func (PySem.W.fnOf "_law_right" "_law_right" (defArgs s_law_right) (defBody s_law_right) (defScope s_law_right) .none kV_law_right dc_law_right pm_law_right an_law_right cd_law_right ct_law_right), sl_law_right⟩)
    (c_law_right : PySem.W.codeIn K cd_law_right "_law_right" = true)
    (k_law_right : PySem.W.keepIn K (.ref f_law_right) = true)
    (a_law : PySem.W.nsIn K mainGlobals "law" = some (some (.ref f_law)))
    (l_law : K.lookup f_law = some ⟨oc_law, od_law, .func (PySem.W.fnOf "law" "law" (defArgs s_law) (defBody s_law) (defScope s_law) .none kV_law dc_law pm_law an_law cd_law ct_law), sl_law⟩)
    (c_law : PySem.W.codeIn K cd_law "law" = true)
    (k_law : PySem.W.keepIn K (.ref f_law) = true)
    (z_divmod : PySem.W.nsIn K mainGlobals "divmod" = some none)
    (z_isinstance : PySem.W.nsIn K mainGlobals "isinstance" = some none)
    (z_len : PySem.W.nsIn K mainGlobals "len" = some none)
    (z_list : PySem.W.nsIn K mainGlobals "list" = some none)
    (z_max : PySem.W.nsIn K mainGlobals "max" = some none)
    (z_min : PySem.W.nsIn K mainGlobals "min" = some none)
    (z_range : PySem.W.nsIn K mainGlobals "range" = some none)
    (z_sorted : PySem.W.nsIn K mainGlobals "sorted" = some none)
    : ∃ fd : FuncData, (∀ (s : Shared) (v : Value), BindsTo s fd ⟨[v], []⟩ [("_law_script", v)]) ∧ ∀ base : Heap, K.In base → base.Ns mainGlobals mg → FnOk l.prog w K mg base CX0 4 fa fd ["_law_script"] (sp_law K) := by
  have e := hfa.symm.trans (PySem.W.mg_of X G a_law)
  cases e
  let T : Tx K mg := {
    a_meant := f_meant,
    fd_meant := _,
    F_meant := fun_mk (st := s_meant) l_meant c_meant k_meant,
    m_meant := PySem.W.mg_of X G a_meant,
    a_law_cell := f_law_cell,
    fd_law_cell := _,
    F_law_cell := fun_mk (st := s_law_cell) l_law_cell c_law_cell k_law_cell,
    m_law_cell := PySem.W.mg_of X G a_law_cell,
    a_law_pot := f_law_pot,
    fd_law_pot := _,
    F_law_pot := fun_mk (st := s_law_pot) l_law_pot c_law_pot k_law_pot,
    m_law_pot := PySem.W.mg_of X G a_law_pot,
    a_law_draw := f_law_draw,
    fd_law_draw := _,
    F_law_draw := fun_mk (st := s_law_draw) l_law_draw c_law_draw k_law_draw,
    m_law_draw := PySem.W.mg_of X G a_law_draw,
    a_law_signs := f_law_signs,
    fd_law_signs := _,
    F_law_signs := fun_mk (st := s_law_signs) l_law_signs c_law_signs k_law_signs,
    m_law_signs := PySem.W.mg_of X G a_law_signs,
    a_law_text := f_law_text,
    fd_law_text := _,
    F_law_text := fun_mk (st := s_law_text) l_law_text c_law_text k_law_text,
    m_law_text := PySem.W.mg_of X G a_law_text,
    a_law_names := f_law_names,
    fd_law_names := _,
    F_law_names := fun_mk (st := s_law_names) l_law_names c_law_names k_law_names,
    m_law_names := PySem.W.mg_of X G a_law_names,
    a_law_beginning := f_law_beginning,
    fd_law_beginning := _,
    F_law_beginning := fun_mk (st := s_law_beginning) l_law_beginning c_law_beginning k_law_beginning,
    m_law_beginning := PySem.W.mg_of X G a_law_beginning,
    a_law_meant := f_law_meant,
    fd_law_meant := _,
    F_law_meant := fun_mk (st := s_law_meant) l_law_meant c_law_meant k_law_meant,
    m_law_meant := PySem.W.mg_of X G a_law_meant,
    a_law_right := f_law_right,
    fd_law_right := _,
    F_law_right := fun_mk (st := s_law_right) l_law_right c_law_right k_law_right,
    m_law_right := PySem.W.mg_of X G a_law_right,
    a_law := fa,
    fd_law := _,
    F_law := fun_mk (st := s_law) l_law c_law k_law,
    m_law := PySem.W.mg_of X G a_law,
    n_divmod := PySem.W.mg_none_of X G z_divmod,
    n_isinstance := PySem.W.mg_none_of X G z_isinstance,
    n_len := PySem.W.mg_none_of X G z_len,
    n_list := PySem.W.mg_none_of X G z_list,
    n_max := PySem.W.mg_none_of X G z_max,
    n_min := PySem.W.mg_none_of X G z_min,
    n_range := PySem.W.mg_none_of X G z_range,
    n_sorted := PySem.W.mg_none_of X G z_sorted }
  exact ⟨PySem.W.fnOf "law" "law" (defArgs s_law) (defBody s_law) (defScope s_law) .none kV_law dc_law pm_law an_law cd_law ct_law, fun s v => .of_eq rfl, fun base _ _ => ok_law (P := l.prog) (w := w) (base := base) T⟩
end Wb
open PySem PySem.W PyProof.Rows
set_option maxHeartbeats 0 in
theorem PySem.Challenge.cw_wordbench_k23_what_is_meant_holds : PySem.Challenge.rw_wordbench_k23_what_is_meant.Holds := by
  w_on; o_law; k_head; (case hw => w_witness2)
  k_fill
  refine L2.walk_of (l := PySem.Challenge.rw_wordbench_k23_what_is_meant) (n := 63) (k := 4) (x := "_law_script") (CX := fun _ => L2.CX0) (sp := fun w => Wb.sp_law _) rfl (by decide) rfl ⟨rfl, by decide, by decide⟩ (fun w h Y => PySem.W.kIn_of Y) ?F (fun _ H a ns hl _ hS => Wb.law_start hl hS) (fun _ _ _ _ _ h => h)
  case F =>
    intro w mg fa h KX G hmg
    refine' Wb.all_mk KX G hmg ?a_meant ?l_meant ?c_meant ?k_meant ?a_law_cell ?l_law_cell ?c_law_cell ?k_law_cell ?a_law_pot ?l_law_pot ?c_law_pot ?k_law_pot ?a_law_draw ?l_law_draw ?c_law_draw ?k_law_draw ?a_law_signs ?l_law_signs ?c_law_signs ?k_law_signs ?a_law_text ?l_law_text ?c_law_text ?k_law_text ?a_law_names ?l_law_names ?c_law_names ?k_law_names ?a_law_beginning ?l_law_beginning ?c_law_beginning ?k_law_beginning ?a_law_meant ?l_law_meant ?c_law_meant ?k_law_meant ?a_law_right ?l_law_right ?c_law_right ?k_law_right ?a_law ?l_law ?c_law ?k_law ?z_divmod ?z_isinstance ?z_len ?z_list ?z_max ?z_min ?z_range ?z_sorted
    (case a_meant => k_is); (case l_meant => k_is); (case c_meant => k_is); (case k_meant => k_is); (case a_law_cell => k_is); (case l_law_cell => k_is); (case c_law_cell => k_is); (case k_law_cell => k_is); (case a_law_pot => k_is); (case l_law_pot => k_is); (case c_law_pot => k_is); (case k_law_pot => k_is); (case a_law_draw => k_is); (case l_law_draw => k_is); (case c_law_draw => k_is); (case k_law_draw => k_is); (case a_law_signs => k_is); (case l_law_signs => k_is); (case c_law_signs => k_is); (case k_law_signs => k_is); (case a_law_text => k_is); (case l_law_text => k_is); (case c_law_text => k_is); (case k_law_text => k_is); (case a_law_names => k_is); (case l_law_names => k_is); (case c_law_names => k_is); (case k_law_names => k_is); (case a_law_beginning => k_is); (case l_law_beginning => k_is); (case c_law_beginning => k_is); (case k_law_beginning => k_is); (case a_law_meant => k_is); (case l_law_meant => k_is); (case c_law_meant => k_is); (case k_law_meant => k_is); (case a_law_right => k_is); (case l_law_right => k_is); (case c_law_right => k_is); (case k_law_right => k_is); (case a_law => k_is); (case l_law => k_is); (case c_law => k_is); (case k_law => k_is); (case z_divmod => k_is); (case z_isinstance => k_is); (case z_len => k_is); (case z_list => k_is); (case z_max => k_is); (case z_min => k_is); (case z_range => k_is); (case z_sorted => k_is)

