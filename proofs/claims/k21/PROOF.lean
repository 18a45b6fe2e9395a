import PyProof.Rows.All
import Wide.All
import OpenK.AllK
import Wide.FinOn
import HandS.ForMost
import HandS.IsInst
import PySem.Challenge.RW_wordbench_k21_kinds_of_words
set_option Elab.async false
set_option linter.all false
set_option maxRecDepth 100000
/-! the generic layer -/
namespace Wb
open PySem PySem.Spec PyProof.Rows L2

/-- the frozen part of a heap: all but the addresses of B -/
def hid (B : List Addr) (H : Hp) : Hp := fun a => if a ∈ B then none else H a
/-- all that stood stands -/
def Ex (H H' : Hp) : Prop := ∀ a o, H a = some o → H' a = some o
theorem Ex.refl (H : Hp) : Ex H H := fun _ _ h => h
theorem Ex.trans {H H1 H2 : Hp} (a : Ex H H1) (b : Ex H1 H2) : Ex H H2 := fun x o h => b x o (a x o h)
theorem Ex.new {H : Hp} {p : Addr} {o : HO} (h : H p = none) : Ex H (upd H p o) := fun a u e => by
  rw [upd_ne (ne_of_none e h)]
  exact e
theorem ex_rd {H H' : Hp} {a : Addr} {u : HO} (e : Ex H H') (h : Rd H a u) : Rd H' a u := by
  rcases h with h | ⟨o, h⟩
  · exact Or.inl (e a _ h)
  · exact Or.inr ⟨o, e a _ h⟩
theorem ex_l {K : PySem.W.Frag} {H H' : Hp} {a : Addr} {xs : List V} (e : Ex H H') (h : SqL K H a xs) : SqL K H' a xs := by
  rcases h with h | h
  · exact Or.inl (ex_rd e h)
  · exact Or.inr h
theorem ex_t {K : PySem.W.Frag} {H H' : Hp} {a : Addr} {xs : List V} (e : Ex H H') (h : SqT K H a xs) : SqT K H' a xs := by
  rcases h with h | h
  · exact Or.inl (ex_rd e h)
  · exact Or.inr h
theorem hid_le (B : List Addr) (H : Hp) : Ex (hid B H) H := fun a o h => by
  unfold hid at h
  by_cases e : a ∈ B
  · rw [if_pos e] at h; cases h
  · rw [if_neg e] at h; exact h
theorem hid_out {B : List Addr} {H : Hp} {a : Addr} (e : a ∉ B) : hid B H a = H a := by
  unfold hid; rw [if_neg e]
theorem hid_in {B : List Addr} {H : Hp} {a : Addr} (e : a ∈ B) : hid B H a = none := by
  unfold hid; rw [if_pos e]
theorem hid_nil (H : Hp) : hid [] H = H := by
  funext a; exact hid_out (by simp)
/-- more hidden is less -/
theorem hid_sub {B B' : List Addr} {H : Hp} (h : ∀ a ∈ B, a ∈ B') : Ex (hid B' H) (hid B H) := fun a o e => by
  by_cases q : a ∈ B'
  · rw [hid_in q] at e; cases e
  · rw [hid_out q] at e
    rw [hid_out fun z => q (h a z)]
    exact e
/-- what changes at most the addresses of B' ⊆ B -/
theorem ex_hid {B B' : List Addr} {H H' : Hp} (h : ∀ a ∈ B', a ∈ B) (e : Ex (hid B' H) (hid B' H')) : Ex (hid B H) (hid B H') := fun a o q => by
  by_cases z : a ∈ B
  · rw [hid_in z] at q; cases q
  · rw [hid_out z] at q
    have z' : a ∉ B' := fun y => z (h a y)
    have := e a o (by rw [hid_out z']; exact q)
    rw [hid_out z'] at this
    rw [hid_out z]; exact this
theorem ex_hid0 {B : List Addr} {H H' : Hp} (e : Ex H H') : Ex (hid B H) (hid B H') :=
  ex_hid (B' := []) (by simp) (by rw [hid_nil, hid_nil]; exact e)

mutual
theorem dp_ex {K : PySem.W.Frag} {H H' : Hp} (e : Ex H H') : ∀ {d : PyData} {v : V}, Dp K H v d → Dp K H' v d
  | .none, _, h => by cases h; exact .non
  | .bool b, _, h => by cases h; exact .bl b
  | .int i, _, h => by cases h; exact .int i
  | .str x, _, h => by cases h; exact .str x
  | .list ds, _, h => by cases h with | lst hs ha => exact .lst (ex_l e hs) (dp_exA e ha)
  | .tuple ds, _, h => by cases h with | tup hs ha => exact .tup (ex_t e hs) (dp_exA e ha)
  | .dict _, _, h => by cases h
theorem dp_exA {K : PySem.W.Frag} {H H' : Hp} (e : Ex H H') : ∀ {ds : List PyData} {vs : List V}, DpAll K H vs ds → DpAll K H' vs ds
  | [], _, h => by cases h; exact .nil
  | d :: ds, _, h => by cases h with | cons h1 h2 => exact .cons (dp_ex e h1) (dp_exA e h2)
end
theorem DpAll.length {K : PySem.W.Frag} {H : Hp} : ∀ {ds : List PyData} {vs : List V}, DpAll K H vs ds → vs.length = ds.length
  | [], _, h => by cases h; rfl
  | d :: ds, _, h => by cases h with | cons h1 h2 => simp [DpAll.length h2]
theorem DpAll.get {K : PySem.W.Frag} {H : Hp} : ∀ {ds : List PyData} {vs : List V} {i : Nat} {d : PyData}, DpAll K H vs ds → ds[i]? = some d → ∃ v, vs[i]? = some v ∧ Dp K H v d
  | [], _, i, d, h, e => by simp at e
  | d :: ds, _, 0, d', h, e => by cases h with | cons h1 h2 => simp at e; subst e; exact ⟨_, rfl, h1⟩
  | d :: ds, _, i + 1, d', h, e => by
    cases h with
    | cons h1 h2 =>
      obtain ⟨v, a, b⟩ := DpAll.get h2 (by simpa using e)
      exact ⟨v, by simpa using a, b⟩
theorem DpAll.app {K : PySem.W.Frag} {H : Hp} {d : PyData} {v : V} (q : Dp K H v d) : ∀ {ds : List PyData} {vs : List V}, DpAll K H vs ds → DpAll K H (vs ++ [v]) (ds ++ [d])
  | [], _, h => by cases h; exact .cons q .nil
  | d :: ds, _, h => by cases h with | cons h1 h2 => exact .cons h1 (DpAll.app q h2)
theorem DpAll.append {K : PySem.W.Frag} {H : Hp} : ∀ {ds es : List PyData} {vs us : List V}, DpAll K H vs ds → DpAll K H us es → DpAll K H (vs ++ us) (ds ++ es)
  | [], _, _, _, h, q => by cases h; exact q
  | d :: ds, _, _, _, h, q => by cases h with | cons h1 h2 => exact .cons h1 (DpAll.append h2 q)
theorem dpall_strs {K : PySem.W.Frag} {H : Hp} : ∀ xs : List Str, DpAll K H (xs.map V.str) (xs.map PyData.str)
  | [] => .nil
  | x :: xs => .cons (.str x) (dpall_strs xs)
theorem dpall_strs_inv {K : PySem.W.Frag} {H : Hp} : ∀ {xs : List Str} {vs : List V}, DpAll K H vs (xs.map PyData.str) → vs = xs.map V.str
  | [], _, h => by cases h; rfl
  | x :: xs, _, h => by
    cases h with
    | cons h1 h2 =>
      cases h1
      rw [dpall_strs_inv h2]; rfl
theorem dpall_ints {K : PySem.W.Frag} {H : Hp} : ∀ xs : List Int, DpAll K H (xs.map V.int) (xs.map PyData.int)
  | [] => .nil
  | x :: xs => .cons (.int x) (dpall_ints xs)
theorem dpall_ints_inv {K : PySem.W.Frag} {H : Hp} : ∀ {xs : List Int} {vs : List V}, DpAll K H vs (xs.map PyData.int) → vs = xs.map V.int
  | [], _, h => by cases h; rfl
  | x :: xs, _, h => by
    cases h with
    | cons h1 h2 =>
      cases h1
      rw [dpall_ints_inv h2]; rfl

/-- what is known at a heap: the values of L bear their data, off the addresses of B (which are tracked) -/
structure Ctx (K : PySem.W.Frag) (B : List Addr) (H : Hp) (L : List (PyData × V)) : Prop where
  dat : ∀ q ∈ L, Dp K (hid B H) q.2 q.1
  trk : ∀ b ∈ B, H b ≠ none
section
variable {K : PySem.W.Frag} {B B' : List Addr} {H H' : Hp} {L L' : List (PyData × V)} {d : PyData} {v : V} {p : Addr} {o : HO}
theorem Ctx.get (C : Ctx K B H L) (h : (d, v) ∈ L) : Dp K (hid B H) v d := C.dat _ h
theorem Ctx.nil : Ctx K [] H [] := ⟨fun _ h => (nomatch h), fun _ h => (nomatch h)⟩
theorem Ctx.add (C : Ctx K B H L) (h : Dp K (hid B H) v d) : Ctx K B H ((d, v) :: L) := ⟨fun q z => by
  rcases List.mem_cons.mp z with rfl | z
  · exact h
  · exact C.dat q z, C.trk⟩
theorem Ctx.sub (C : Ctx K B H L) (h : ∀ q ∈ L', q ∈ L) : Ctx K B H L' := ⟨fun q z => C.dat q (h q z), C.trk⟩
/-- a heap in which at most B' ⊆ B changed -/
theorem Ctx.to (C : Ctx K B H L) (h : ∀ a ∈ B', a ∈ B) (e : Ex (hid B' H) (hid B' H')) (t : ∀ b ∈ B, H' b ≠ none) : Ctx K B H' L :=
  ⟨fun q z => dp_ex (ex_hid h e) (C.dat q z), t⟩
theorem Ctx.up (C : Ctx K B H L) (e : Ex H H') : Ctx K B H' L :=
  ⟨fun q z => dp_ex (ex_hid0 e) (C.dat q z), fun b hb z => by
    cases q : H b with
    | none => exact C.trk b hb q
    | some o => rw [e b o q] at z; cases z⟩
theorem Ctx.new (C : Ctx K B H L) (h : H p = none) : Ctx K B (upd H p o) L := C.up (Ex.new h)
theorem Ctx.notin (C : Ctx K B H L) (h : H p = none) : p ∉ B := fun z => C.trk p z h
/-- a new object, hidden from now on -/
theorem Ctx.own (C : Ctx K B H L) (h : H p = none) : Ctx K (p :: B) (upd H p o) L := ⟨fun q z => by
    refine dp_ex ?_ (C.dat q z)
    intro a u e
    have h1 := hid_le B H a u e
    have h2 : a ≠ p := ne_of_none h1 h
    have h3 : a ∉ B := fun y => by rw [hid_in y] at e; cases e
    rw [hid_out (by simp [h2, h3]), upd_ne h2]
    exact h1, fun b hb => by
    by_cases e : b = p
    · subst e; rw [upd_same]; simp
    · rw [upd_ne e]
      rcases List.mem_cons.mp hb with z | z
      · exact absurd z e
      · exact C.trk b z⟩
/-- the same over any heap in which p is new -/
theorem Ctx.own' (C : Ctx K B H L) (h : H p = none) (e : Ex H H') (h' : H' p ≠ none) : Ctx K (p :: B) H' L := ⟨fun q z => by
    refine dp_ex ?_ (C.dat q z)
    intro a u e1
    have h1 := hid_le B H a u e1
    have h2 : a ≠ p := ne_of_none h1 h
    have h3 : a ∉ B := fun y => by rw [hid_in y] at e1; cases e1
    rw [hid_out (by simp [h2, h3])]
    exact e a u h1, fun b hb => by
    rcases List.mem_cons.mp hb with rfl | z
    · exact h'
    · exact (C.up e).trk b z⟩
/-- a hidden one is written -/
theorem Ctx.mut (C : Ctx K B H L) (h : p ∈ B) : Ctx K B (upd H p o) L := ⟨fun q z => by
    refine dp_ex ?_ (C.dat q z)
    intro a u e
    have h3 : a ∉ B := fun y => by rw [hid_in y] at e; cases e
    have h2 : a ≠ p := fun y => h3 (y ▸ h)
    rw [hid_out h3, upd_ne h2]
    rw [hid_out h3] at e
    exact e, fun b hb => by
    by_cases e : b = p
    · subst e; rw [upd_same]; simp
    · rw [upd_ne e]; exact C.trk b hb⟩
/-- a hidden list is frozen -/
theorem Ctx.freeze {xs : List V} {ds : List PyData} (C : Ctx K (p :: B) H L) (n : p ∉ B) (h : H p = some (.lst xs)) (a : DpAll K (hid (p :: B) H) xs ds) : Ctx K B H ((.list ds, .ref p) :: L) := ⟨fun q z => by
    have s : Ex (hid (p :: B) H) (hid B H) := hid_sub fun a h => List.mem_cons_of_mem _ h
    rcases List.mem_cons.mp z with rfl | z
    · exact .lst (.inl (.inl (by rw [hid_out n]; exact h))) (dp_exA s a)
    · exact dp_ex s (C.dat q z), fun b hb => C.trk b (List.mem_cons_of_mem _ hb)⟩
theorem Ctx.drop (C : Ctx K (p :: B) H L) : Ctx K B H L := ⟨fun q z => by
    have s : Ex (hid (p :: B) H) (hid B H) := hid_sub fun a h => List.mem_cons_of_mem _ h
    exact dp_ex s (C.dat q z), fun b hb => C.trk b (List.mem_cons_of_mem _ hb)⟩
/-- a new list of known things -/
theorem Ctx.lst {xs : List V} {ds : List PyData} (C : Ctx K B H L) (h : H p = none) (a : DpAll K (hid B H) xs ds) : Ctx K B (upd H p (.lst xs)) ((.list ds, .ref p) :: L) :=
  (C.new h).add (.lst (.inl (.inl (by rw [hid_out (C.notin h)]; exact upd_same))) (dp_exA (ex_hid0 (Ex.new h)) a))
theorem Ctx.tup {xs : List V} {ds : List PyData} (C : Ctx K B H L) (h : H p = none) (a : DpAll K (hid B H) xs ds) : Ctx K B (upd H p (.tup xs)) ((.tuple ds, .ref p) :: L) :=
  (C.new h).add (.tup (.inl (.inl (by rw [hid_out (C.notin h)]; exact upd_same))) (dp_exA (ex_hid0 (Ex.new h)) a))
end
end Wb

set_option Elab.async false
set_option linter.all false
set_option maxRecDepth 100000
namespace Wb
open PySem PySem.Spec PyProof.Rows L2

/-! ### operators by the values' kinds -/
def rAddP : R2 := fun x y H Q => match x, y with
  | .int i, .int j => Q (.int (i + j)) H
  | .str a, .str b => a.length + b.length ≤ sizeLine ∧ Q (.str (a ++ b)) H
  | .ref l, .ref b => rCat (.ref l) (.ref b) H Q
  | _, _ => False
def rI2 (g : Int → Int → V) : R2 := fun x y H Q => match x, y with
  | .int i, .int j => Q (g i j) H
  | _, _ => False
def rIC (C : Int → Int → Prop) (g : Int → Int → V) : R2 := fun x y H Q => match x, y with
  | .int i, .int j => C i j ∧ Q (g i j) H
  | _, _ => False
def rEqP (K : PySem.W.Frag) : R2 := fun x y H Q => match x, y with
  | .int i, .int j => Q (.bl (decide (i = j))) H
  | .str i, .str j => Q (.bl (decide (i = j))) H
  | .bl i, .bl j => Q (.bl (decide (i = j))) H
  | .non, .non => Q (.bl true) H
  | .non, .str _ => Q (.bl false) H
  | .str _, .non => Q (.bl false) H
  | .non, .int _ => Q (.bl false) H
  | .int _, .non => Q (.bl false) H
  | .int _, .str _ => Q (.bl false) H
  | .str _, .int _ => Q (.bl false) H
  | x, y => rEqD K x y H Q
def rNeP (K : PySem.W.Frag) : R2 := fun x y H Q => match x, y with
  | .int i, .int j => Q (.bl (!decide (i = j))) H
  | .str i, .str j => Q (.bl (!decide (i = j))) H
  | .bl i, .bl j => Q (.bl (!decide (i = j))) H
  | .non, .non => Q (.bl false) H
  | .non, .str _ => Q (.bl true) H
  | .str _, .non => Q (.bl true) H
  | .non, .int _ => Q (.bl true) H
  | .int _, .non => Q (.bl true) H
  | .int _, .str _ => Q (.bl true) H
  | .str _, .int _ => Q (.bl true) H
  | x, y => rNeD K x y H Q
/-- in, not in: a text in a text, a thing in a list or tuple of flat things -/
def rInP (K : PySem.W.Frag) (neg : Bool) : R2 := fun x y H Q => match x, y with
  | .str i, .str j => Q (.bl (if neg then !(!(Builtin.Str.occurrences j i 0 j.length 1).isEmpty) else !(Builtin.Str.occurrences j i 0 j.length 1).isEmpty)) H
  | x, y => rIn K neg x y H Q
section
variable {X : Cx}
theorem op_addP : OpR X (binaryOp .Add) rAddP := by
  intro pins s σ H x y v u Q I rx ry h
  cases x <;> cases y <;> first
    | exact op_add pins s σ H _ _ v u Q I rx ry ⟨_, _, rfl, rfl, h⟩
    | exact op_add_str pins s σ H _ _ v u Q I rx ry ⟨_, _, rfl, rfl, h⟩
    | exact op_cat pins s σ H _ _ v u Q I rx ry h
    | exact False.elim h
theorem op_i2 {op : Operator} {g : Int → Int → V} (r : OpR X (binaryOp op) (rI0 g)) : OpR X (binaryOp op) (rI2 g) := by
  intro pins s σ H x y v u Q I rx ry h
  cases x <;> cases y <;> first
    | exact r pins s σ H _ _ v u Q I rx ry ⟨_, _, rfl, rfl, h⟩
    | exact False.elim h
theorem op_ic {op : Operator} {C : Int → Int → Prop} {g : Int → Int → V} (r : OpR X (binaryOp op) (rI C g)) : OpR X (binaryOp op) (rIC C g) := by
  intro pins s σ H x y v u Q I rx ry h
  cases x <;> cases y <;> first
    | exact r pins s σ H _ _ v u Q I rx ry ⟨_, _, rfl, rfl, h⟩
    | exact False.elim h
theorem cp_i2 {op : CmpOp} {g : Int → Int → V} (r : OpR X (compareOp op) (rI0 g)) : OpR X (compareOp op) (rI2 g) := by
  intro pins s σ H x y v u Q I rx ry h
  cases x <;> cases y <;> first
    | exact r pins s σ H _ _ v u Q I rx ry ⟨_, _, rfl, rfl, h⟩
    | exact False.elim h
theorem op_eqP {K : PySem.W.Frag} (hK : X.K = K) (hu : X.A.units + 64 < cLine) : OpR X (compareOp .Eq) (rEqP K) := by
  subst hK
  intro pins s σ H x y v u Q I rx ry h
  have sc : ∀ b, scal x y = true → decide (x = y) = b → Q (.bl b) H → wpAny (model X.prog X.w) X.A (compareOp .Eq v u) (EP X pins σ Q) X.xe s :=
    fun b s1 e q => op_eq pins s σ H _ _ v u Q I rx ry ⟨s1, by rw [e]; exact q⟩
  have eD : rEqD X.K x y H Q → wpAny (model X.prog X.w) X.A (compareOp .Eq v u) (EP X pins σ Q) X.xe s := op_eqD hu pins s σ H x y v u Q I rx ry
  cases x <;> cases y <;> first
    | exact eD h
    | exact sc _ rfl (by simp) h
theorem op_neP {K : PySem.W.Frag} (hK : X.K = K) (hu : X.A.units + 64 < cLine) : OpR X (compareOp .NotEq) (rNeP K) := by
  subst hK
  intro pins s σ H x y v u Q I rx ry h
  have sc : ∀ b, scal x y = true → (!decide (x = y)) = b → Q (.bl b) H → wpAny (model X.prog X.w) X.A (compareOp .NotEq v u) (EP X pins σ Q) X.xe s :=
    fun b s1 e q => op_ne pins s σ H _ _ v u Q I rx ry ⟨s1, by rw [e]; exact q⟩
  have eD : rNeD X.K x y H Q → wpAny (model X.prog X.w) X.A (compareOp .NotEq v u) (EP X pins σ Q) X.xe s := op_neD hu pins s σ H x y v u Q I rx ry
  cases x <;> cases y <;> first
    | exact eD h
    | exact sc _ rfl (by simp) h
theorem op_inP {K : PySem.W.Frag} (hK : X.K = K) : OpR X (compareOp .In) (rInP K false) := by
  subst hK
  intro pins s σ H x y v u Q I rx ry h
  have eD : rIn X.K false x y H Q → wpAny (model X.prog X.w) X.A (compareOp .In v u) (EP X pins σ Q) X.xe s := op_in_seq pins s σ H x y v u Q I rx ry
  cases x <;> cases y <;> first
    | exact eD h
    | exact op_in_str pins s σ H _ _ v u Q I rx ry ⟨_, _, rfl, rfl, h⟩
theorem op_notinP {K : PySem.W.Frag} (hK : X.K = K) : OpR X (compareOp .NotIn) (rInP K true) := by
  subst hK
  intro pins s σ H x y v u Q I rx ry h
  have eD : rIn X.K true x y H Q → wpAny (model X.prog X.w) X.A (compareOp .NotIn v u) (EP X pins σ Q) X.xe s := op_notIn_seq pins s σ H x y v u Q I rx ry
  cases x <;> cases y <;> first
    | exact eD h
    | exact op_notin_str pins s σ H _ _ v u Q I rx ry ⟨_, _, rfl, rfl, h⟩
end
/-- a[i] by kinds -/
def rIxP (K : PySem.W.Frag) : R2 := fun x y H Q => match x, y with
  | .str z, .int i => z.length ≤ sizeLine ∧ ∃ c, atI z.cps.toList i = some c ∧ Q (.str ⟨#[c]⟩) H
  | .ref p, .int i => ∃ xs v, (SqL K H p xs ∨ SqT K H p xs) ∧ atI xs i = some v ∧ Q v H
  | _, _ => False
def rSlP (K : PySem.W.Frag) : V → Option Int → Option Int → Hp → VK → Prop := fun x lo hi H Q => match x with
  | .str z => z.length ≤ sizeLine ∧ Q (.str (cutS z lo hi)) H
  | .ref a => rSlL K (.ref a) lo hi H Q ∨ rSlT K (.ref a) lo hi H Q
  | _ => False
section
variable {X : Cx}
theorem ix_P {K : PySem.W.Frag} (hK : X.K = K) : IxR X (rIxP K) := by
  subst hK
  intro va sl pins s σ H x y v u Q I rx ry h hs
  cases x <;> cases y <;> first
    | exact False.elim h
    | (obtain ⟨a, c, b, q⟩ := h; exact ix_str va sl pins s σ H _ _ v u Q I rx ry ⟨_, _, _, rfl, rfl, a, b, q⟩ hs)
    | (obtain ⟨xs, w, a | a, b, q⟩ := h
       · exact ix_list va sl pins s σ H _ _ v u Q I rx ry ⟨_, _, _, _, rfl, rfl, a, b, q⟩ hs
       · exact ix_tup va sl pins s σ H _ _ v u Q I rx ry ⟨_, _, _, _, rfl, rfl, a, b, q⟩ hs)
theorem sl_P {K : PySem.W.Frag} (hK : X.K = K) : SlR X (rSlP K) := by
  subst hK
  intro pins s σ H x v vl vu lo hi sl Q I rx h1 h2 h3 h
  cases x with
  | str z => exact sl_str pins s σ H _ v vl vu lo hi sl Q I rx h1 h2 h3 ⟨z, rfl, h⟩
  | ref a =>
    rcases h with h | h
    · exact sl_list pins s σ H _ v vl vu lo hi sl Q I rx h1 h2 h3 h
    · exact sl_tup pins s σ H _ v vl vu lo hi sl Q I rx h1 h2 h3 h
  | _ => exact False.elim h
/-- the calls of built-in functions, by kinds of their arguments -/
def rLenP (K : PySem.W.Frag) : List V → Hp → VK → Prop := fun xs H Q => match xs with
  | [x] => ∃ n, LenV K x H n ∧ Q (.int n) H
  | _ => False
theorem call_lenP {K : PySem.W.Frag} (hK : X.K = K) : CallR X (.builtin "len") (rLenP K) := by
  subst hK
  intro pins s σ H xs us Q I r h
  match xs, h with
  | [x], ⟨n, a, q⟩ => exact call_len pins s σ H _ us Q I r ⟨x, n, rfl, a, q⟩
def rMax2P : List V → Hp → VK → Prop := fun xs H Q => match xs with
  | [.int i, .int j] => Q (.int (max i j)) H
  | _ => False
theorem call_max2P (hc : X.calm = true) : CallR X (.builtin "max") rMax2P := by
  intro pins s σ H xs us Q I r h
  unfold rMax2P at h
  split at h
  · rename_i i j
    refine call_max2 hc pins s σ H _ us Q I r ⟨i, j, rfl, ?_⟩
    have e : (if j > i then j else i) = max i j := by
      by_cases z : j > i
      · rw [if_pos z]; omega
      · rw [if_neg z]; omega
    rw [e]; exact h
  · exact h.elim
def rMin2P : List V → Hp → VK → Prop := fun xs H Q => match xs with
  | [.int i, .int j] => Q (.int (min i j)) H
  | _ => False
theorem call_min2P (hc : X.calm = true) : CallR X (.builtin "min") rMin2P := by
  intro pins s σ H xs us Q I r h
  unfold rMin2P at h
  split at h
  · rename_i i j
    refine call_min2 hc pins s σ H _ us Q I r ⟨i, j, rfl, ?_⟩
    have e : (if j < i then j else i) = min i j := by
      by_cases z : j < i
      · rw [if_pos z]; omega
      · rw [if_neg z]; omega
    rw [e]; exact h
  · exact h.elim
def rInt1P : List V → Hp → VK → Prop := fun xs H Q => match xs with
  | [.int i] => Q (.int i) H
  | [.bl k] => Q (.int (if k then 1 else 0)) H
  | [.str a] => ∃ n, PySem.intText? a = some n ∧ a.length ≤ 640 ∧ Q (.int n) H
  | _ => False
theorem call_intP : CallR X (.type "int") rInt1P := by
  intro pins s σ H xs us Q I r h
  unfold rInt1P at h
  split at h
  · exact call_int1 pins s σ H _ us Q I r (.inl ⟨_, rfl, h⟩)
  · exact call_int1 pins s σ H _ us Q I r (.inr ⟨_, rfl, h⟩)
  · obtain ⟨n, a, b, q⟩ := h
    exact call_int_str pins s σ H _ us Q I r ⟨_, n, rfl, a, b, q⟩
  · exact h.elim
end

/-! ### steps of a reading -/
section
variable {X : Cx} {K : PySem.W.Frag} {σ : L2.St} {H : Hp} {Q : VK} {QT : Bool → Hp → Prop} {QA : List V → Hp → Prop} {ta tb te : TE} {t u : TT} {tA : TA} {r : R2} {v x y : V} {D : Ends} {ts us : TS}
theorem w_var {i : Nat} (h : σ[i]? = some (some v)) (q : Q v H) : tVar i σ H Q := ⟨v, h, q⟩
theorem w_c (q : Q v H) : tC v σ H Q := q
theorem w_op (q : ta σ H fun x H1 => tb σ H1 fun y H2 => r x y H2 Q) : tOp r ta tb σ H Q := q
theorem w_un {ru : V → Hp → VK → Prop} (q : ta σ H fun x H1 => ru x H1 Q) : tUn ru ta σ H Q := q
theorem w_neg {i : Int} (q : Q (.int (-i)) H) : (rU fun i => .int (-i)) (.int i) H Q := ⟨i, rfl, q⟩
theorem w_test (q : ta σ H fun x H' => ∃ k, x = .bl k ∧ QT k H') : tTest ta σ H QT := q
theorem w_tB (q : ta σ H fun x H' => ∃ k, x = .bl k ∧ QT k H') : tB ta σ H QT := q
theorem w_bl {k : Bool} {P : Bool → Prop} (q : P k) : ∃ k', V.bl k = .bl k' ∧ P k' := ⟨k, rfl, q⟩
theorem w_and (q : t σ H fun c H1 => if c = true then u σ H1 QT else QT false H1) : tAnd t u σ H QT := q
theorem w_or (q : t σ H fun c H1 => if c = true then QT true H1 else u σ H1 QT) : tOr t u σ H QT := q
theorem w_not (q : t σ H fun c H1 => QT (!c) H1) : tNot t σ H QT := q
theorem w_andV (q : ta σ H fun x H1 => ∃ c, x = .bl c ∧ if c = true then tb σ H1 Q else Q (.bl false) H1) : tAndV ta tb σ H Q := q
theorem w_orV (q : ta σ H fun x H1 => ∃ c, x = .bl c ∧ if c = true then Q (.bl true) H1 else tb σ H1 Q) : tOrV ta tb σ H Q := q
theorem w_notV (q : ta σ H fun x H1 => ∃ c, x = .bl c ∧ Q (.bl (!c)) H1) : tNotV ta σ H Q := q
theorem w_if (q : t σ H fun c H1 => if c = true then ta σ H1 Q else tb σ H1 Q) : tIf t ta tb σ H Q := q
theorem w_chain {r r' : R2} {tc : TE} (q : ta σ H fun x H1 => tb σ H1 fun y H2 => r x y H2 fun z H3 => ∃ k, z = .bl k ∧ (if k = true then tc σ H3 fun w' H4 => r' y w' H4 Q else Q (.bl false) H3)) : tChain r r' ta tb tc σ H Q := q
theorem w_nil (q : QA [] H) : tNil σ H QA := q
theorem w_cons (q : ta σ H fun x H1 => tA σ H1 fun xs H2 => QA (x :: xs) H2) : tCons ta tA σ H QA := q
theorem w_tup (q : tA σ H fun xs H1 => xs.length ≤ sizeLine ∧ ∀ p, H1 p = none → Q (.ref p) (upd H1 p (.tup xs))) : tTup tA σ H Q := q
theorem w_lst (q : tA σ H fun xs H1 => xs.length ≤ sizeLine ∧ ∀ p, H1 p = none → Q (.ref p) (upd H1 p (.lst xs))) : tLst tA σ H Q := q
theorem w_cb {rc : List V → Hp → VK → Prop} (q : tA σ H fun vs H1 => rc vs H1 Q) : tCB rc tA σ H Q := q
theorem w_call {sp : Sp} {dvs : List V} {E : XK} (q : tA σ H fun vs H1 => sp (vs ++ dvs) H1 Q E) : tCall sp dvs E tA σ H Q := q
theorem w_bm {T : String} {rm : V → List V → Hp → VK → Prop} (q : ta σ H fun x H1 => tyV K T x H1 ∧ tA σ H1 fun xs H2 => rm x xs H2 Q) : tBM K T rm ta tA σ H Q := q
theorem w_bm0 {T : String} {rm : V → List V → Hp → VK → Prop} (q : ta σ H fun x H1 => tyV K T x H1 ∧ rm x [] H1 Q) : tBM0 K T rm ta σ H Q := q
theorem w_m0 {rm : V → List V → Hp → VK → Prop} (q : ta σ H fun x H1 => (∃ a, x = .str a) ∧ rm x [] H1 Q) : tM0 rm ta σ H Q := q
theorem w_m1 {rm : V → List V → Hp → VK → Prop} (q : ta σ H fun x H1 => (∃ a, x = .str a) ∧ te σ H1 fun y H2 => rm x [y] H2 Q) : tM1 rm ta te σ H Q := q
theorem w_tyS {a : Str} {P : Prop} (q : P) : (∃ b, V.str a = .str b) ∧ P := ⟨⟨a, rfl⟩, q⟩
theorem w_sl {rs : V → Option Int → Option Int → Hp → VK → Prop} {tl th : TO} (q : ta σ H fun x H1 => tl σ H1 fun l H2 => th σ H2 fun u H3 => rs x l u H3 Q) : tSl rs ta tl th σ H Q := q
theorem w_nopart {QO : Option Int → Hp → Prop} (q : QO none H) : tNoPart σ H QO := q
theorem w_part {QO : Option Int → Hp → Prop} (q : ta σ H fun x H1 => ∃ i, x = .int i ∧ QO (some i) H1) : tPart ta σ H QO := q
theorem w_partI {i : Int} {P : Int → Prop} (q : P i) : ∃ j, V.int i = .int j ∧ P j := ⟨i, rfl, q⟩
theorem w_seq (q : ts { D with nx := us D } σ H) : tSeq ts us D σ H := q
theorem w_next (q : D.nx σ H) : tNext D σ H := q
theorem w_brk (q : D.bk σ H) : tBreak D σ H := q
theorem w_cont (q : D.ct σ H) : tCont D σ H := q
theorem w_drop (q : te σ H fun _ H1 => D.nx σ H1) : tDrop te D σ H := q
theorem w_ret (q : te σ H D.rt) : tRet te D σ H := q
theorem w_retN (q : D.rt .non H) : tRetN D σ H := q
theorem w_ifS (q : t σ H fun b H1 => if b = true then ts D σ H1 else us D σ H1) : tIfS t ts us D σ H := q
theorem w_asg {g : TG} (q : te σ H fun x H1 => g x σ H1 D.nx) : tAsg te g D σ H := q
theorem w_name {i : Nat} {k : L2.St → Hp → Prop} (q : k (σ.set i (some v)) H) : gName i v σ H k := q
theorem w_sub {to ti : TE} {ts : TSet} {k : L2.St → Hp → Prop} (q : to σ H fun o H1 => ti σ H1 fun i H2 => ts o i v H2 fun H3 => k σ H3) : gSub to ti ts v σ H k := q
theorem w_aug {i : Nat} {ti : TIp} (h : σ[i]? = some (some x)) (q : te σ H fun y H1 => ti x y H1 fun z H2 => D.nx (σ.set i (some z)) H2) : tAug i te ti D σ H := ⟨x, h, q⟩
theorem w_gtup {n : Nat} {tg : TGs} {a : Addr} {xs : List V} {k : L2.St → Hp → Prop} (h : SqT K H a xs) (hl : xs.length = n) (q : tg xs σ H k) : gTup K n tg (.ref a) σ H k := ⟨a, xs, rfl, h, hl, q⟩
/-- values -/
theorem w_addI {i j : Int} (q : Q (.int (i + j)) H) : rAddP (.int i) (.int j) H Q := q
theorem w_addS {a b : Str} (h : a.length + b.length ≤ sizeLine) (q : Q (.str (a ++ b)) H) : rAddP (.str a) (.str b) H Q := ⟨h, q⟩
theorem w_i2 {g : Int → Int → V} {i j : Int} (q : Q (g i j) H) : rI2 g (.int i) (.int j) H Q := q
theorem w_ic {C : Int → Int → Prop} {g : Int → Int → V} {i j : Int} (h : C i j) (q : Q (g i j) H) : rIC C g (.int i) (.int j) H Q := ⟨h, q⟩
theorem w_eqI {i j : Int} (q : Q (.bl (decide (i = j))) H) : rEqP K (.int i) (.int j) H Q := q
theorem w_eqS {i j : Str} (q : Q (.bl (decide (i = j))) H) : rEqP K (.str i) (.str j) H Q := q
theorem w_eqB {i j : Bool} (q : Q (.bl (decide (i = j))) H) : rEqP K (.bl i) (.bl j) H Q := q
theorem w_eqNN (q : Q (.bl true) H) : rEqP K .non .non H Q := q
theorem w_eqNS {i : Str} (q : Q (.bl false) H) : rEqP K .non (.str i) H Q := q
theorem w_eqSN {i : Str} (q : Q (.bl false) H) : rEqP K (.str i) .non H Q := q
theorem w_neI {i j : Int} (q : Q (.bl (!decide (i = j))) H) : rNeP K (.int i) (.int j) H Q := q
theorem w_neS {i j : Str} (q : Q (.bl (!decide (i = j))) H) : rNeP K (.str i) (.str j) H Q := q
theorem w_neB {i j : Bool} (q : Q (.bl (!decide (i = j))) H) : rNeP K (.bl i) (.bl j) H Q := q
theorem w_inS {i j : Str} (q : Q (.bl (!(Builtin.Str.occurrences j i 0 j.length 1).isEmpty)) H) : rInP K false (.str i) (.str j) H Q := q
theorem w_ninS {i j : Str} (q : Q (.bl (!(!(Builtin.Str.occurrences j i 0 j.length 1).isEmpty))) H) : rInP K true (.str i) (.str j) H Q := q
theorem w_lenS {a : Str} (h : a.length ≤ sizeLine) (q : Q (.int (a.length : Nat)) H) : rLenP K [.str a] H Q := ⟨_, ⟨h, rfl⟩, q⟩
theorem w_max2 {i j : Int} (q : Q (.int (max i j)) H) : rMax2P [.int i, .int j] H Q := q
theorem w_min2 {i j : Int} (q : Q (.int (min i j)) H) : rMin2P [.int i, .int j] H Q := q
theorem w_intI {i : Int} (q : Q (.int i) H) : rInt1P [.int i] H Q := q
theorem w_intB {k : Bool} (q : Q (.int (if k then 1 else 0)) H) : rInt1P [.bl k] H Q := q
theorem w_slS {z : Str} {lo hi : Option Int} (h : z.length ≤ sizeLine) (q : Q (.str (cutS z lo hi)) H) : rSlP K (.str z) lo hi H Q := ⟨h, q⟩
theorem w_ixS {z : Str} {i : Int} {c : Nat} (h : z.length ≤ sizeLine) (e : atI z.cps.toList i = some c) (q : Q (.str ⟨#[c]⟩) H) : rIxP K (.str z) (.int i) H Q := ⟨h, c, e, q⟩
theorem w_ixD {B : List Addr} {p : Addr} {ds : List PyData} {i : Int} {d : PyData} (h : Dp K (hid B H) (.ref p) (.list ds)) (e : atI ds i = some d) (q : ∀ v, Dp K (hid B H) v d → Q v H) : rIxP K (.ref p) (.int i) H Q := by
  cases h with
  | lst hs ha =>
    obtain ⟨j, e1, e2, e3, e4, e5⟩ := atI_get e
    obtain ⟨v, e6, e7⟩ := DpAll.get ha e2
    refine ⟨_, v, .inl (ex_l (hid_le B H) hs), ?_, q v e7⟩
    have l := DpAll.length ha
    unfold atI ixN at e ⊢
    rw [l]
    by_cases z : 0 ≤ i
    · simp only [z, if_true] at e ⊢
      by_cases z2 : i < ds.length
      · simp only [z2, if_true, Option.bind_some] at e ⊢
        obtain ⟨v', q1, q2⟩ := DpAll.get ha e
        have : j = i.toNat := by
          have := e1; unfold seqIndex? at this; simp [z] at this; omega
        subst this; exact e6
      · simp only [z2, if_false, Option.bind_none] at e; cases e
    · simp only [z, if_false] at e ⊢
      by_cases z2 : -(ds.length : Int) ≤ i
      · simp only [z2, if_true, Option.bind_some] at e ⊢
        have : j = (i + ds.length).toNat := by
          have := e1; unfold seqIndex? at this; simp [z] at this; omega
        subst this; exact e6
      · simp only [z2, if_false, Option.bind_none] at e; cases e
end
end Wb

set_option Elab.async false
set_option linter.all false
set_option maxRecDepth 100000
namespace Wb
open PySem PySem.Spec PyProof.Rows L2
def rMulP : R2 := fun x y H Q => match x, y with
  | .int i, .int j => CMul i j ∧ Q (.int (i * j)) H
  | .str a, .int n => (a.length ≤ 2000 ∧ n ≤ 2000 ∧ -(2 ^ 63) ≤ n) ∧ Q (.str (Txt.mul a n)) H
  | .ref l, .int k => rRep (.ref l) (.int k) H Q
  | _, _ => False
def rIAddP : TIp := fun x y H Q => match x, y with
  | .int i, .int j => Q (.int (i + j)) H
  | .str a, .str b => a.length + b.length ≤ sizeLine ∧ Q (.str (a ++ b)) H
  | _, _ => False
section
variable {X : Cx}
theorem op_mul_str : OpR X (binaryOp .Mult) (fun x y H Q => ∃ a n, x = .str a ∧ y = .int n ∧ (a.length ≤ 2000 ∧ n ≤ 2000 ∧ -(2 ^ 63) ≤ n) ∧ Q (.str (Txt.mul a n)) H) := by
  intro pins s σ H x y v u Q I rx ry h
  obtain ⟨a, n, rfl, rfl, ⟨h1, h2, h3⟩, q⟩ := h
  obtain ⟨t, rfl⟩ := rx
  obtain ⟨t', rfl⟩ := ry
  exact SB.mul (mulOk_of 2000 2000 h1 (by omega) h3 (by decide) (by decide)) fun t2 k => ⟨.str _, H, I.tok k, ⟨_, rfl⟩, q⟩
theorem op_mulP : OpR X (binaryOp .Mult) rMulP := by
  intro pins s σ H x y v u Q I rx ry h
  cases x <;> cases y <;> first
    | exact op_mul pins s σ H _ _ v u Q I rx ry ⟨_, _, rfl, rfl, h⟩
    | exact op_mul_str pins s σ H _ _ v u Q I rx ry ⟨_, _, rfl, rfl, h⟩
    | exact op_rep pins s σ H _ _ v u Q I rx ry h
    | exact False.elim h
theorem ip_addP : PIp X .Add rIAddP := by
  intro pins s σ H x y v u Q I rx ry h
  cases x <;> cases y <;> first
    | exact iop_add pins s σ H _ _ v u Q I rx ry ⟨_, _, rfl, rfl, h⟩
    | exact iop_add_str pins s σ H _ _ v u Q I rx ry ⟨_, _, rfl, rfl, h⟩
    | exact False.elim h
/-! methods of texts -/
def mS1 (g : Str → Str → V) : V → List V → Hp → VK → Prop := fun x xs H Q => match x, xs with
  | .str a, [.str b] => Q (g a b) H
  | _, _ => False
def mS0 (C : Str → Prop) (g : Str → V) : V → List V → Hp → VK → Prop := fun x xs H Q => match x, xs with
  | .str a, [] => C a ∧ Q (g a) H
  | _, _ => False
theorem mt_s1 {id : String} {g : Str → Str → V} (r : MtR X id (fun x xs H Q => ∃ a b, x = .str a ∧ xs = [.str b] ∧ Q (g a b) H)) : MtR X id (mS1 g) := by
  intro pins s σ H x xs v us Q I rx ry h
  unfold mS1 at h
  split at h
  · exact r pins s σ H _ _ v us Q I rx ry ⟨_, _, rfl, rfl, h⟩
  · exact h.elim
theorem mt_s0 {id : String} {C : Str → Prop} {g : Str → V} (r : MtR X id (fun x xs H Q => ∃ a, x = .str a ∧ xs = [] ∧ C a ∧ Q (g a) H)) : MtR X id (mS0 C g) := by
  intro pins s σ H x xs v us Q I rx ry h
  unfold mS0 at h
  split at h
  · exact r pins s σ H _ _ v us Q I rx ry ⟨_, rfl, rfl, h⟩
  · exact h.elim
theorem mt_startswithP : MtR X "str.startswith" (mS1 fun a b => .bl (Txt.startswith a b)) := mt_s1 mt_startswith
theorem mt_endswithP : MtR X "str.endswith" (mS1 fun a b => .bl (Txt.endswith a b)) := mt_s1 mt_endswith
theorem mt_upperP : MtR X "str.upper" (mS0 (fun a => a.length ≤ 5592405) fun a => .str (Txt.upper a)) := mt_s0 mt_upper
theorem mt_lowerP : MtR X "str.lower" (mS0 (fun a => a.length ≤ 5592405) fun a => .str (Txt.lower a)) := mt_s0 mt_lower
def rJoinP (K : PySem.W.Frag) : V → List V → Hp → VK → Prop := fun x xs H Q => match x, xs with
  | .str a, [.ref p] => ∃ ys : List Str, (SqL K H p (ys.map V.str) ∨ SqT K H p (ys.map V.str)) ∧ (ys.map (·.length)).sum + ys.length * a.length ≤ 16777216 ∧ Q (.str (Txt.join a ys)) H
  | _, _ => False
theorem mt_joinP {K : PySem.W.Frag} (hK : X.K = K) : MtR X "str.join" (rJoinP K) := by
  subst hK
  intro pins s σ H x xs v us Q I rx ry h
  unfold rJoinP at h
  split at h
  · obtain ⟨ys, h1, h2, q⟩ := h
    exact mt_join pins s σ H _ _ v us Q I rx ry ⟨_, _, ys, rfl, rfl, h1, h2, q⟩
  · exact h.elim
def rPartP : V → List V → Hp → VK → Prop := fun x xs H Q => match x, xs with
  | .str a, [.str b] => (b.length == 0) = false ∧ a.length ≤ sizeLine ∧ ∀ p, H p = none → Q (.ref p) (upd H p (.tup [.str (Txt.partition a b).1, .str (Txt.partition a b).2.1, .str (Txt.partition a b).2.2]))
  | _, _ => False
theorem mt_partitionP : MtR X "str.partition" rPartP := by
  intro pins s σ H x xs v us Q I rx ry h
  unfold rPartP at h
  split at h
  · exact mt_partition pins s σ H _ _ v us Q I rx ry ⟨_, _, rfl, rfl, h⟩
  · exact h.elim
def rSplitP : V → List V → Hp → VK → Prop := fun x xs H Q => match x, xs with
  | .str a, [.str b] => (b.length == 0) = false ∧ a.length + 2 ≤ sizeLine ∧ rNewStrs (Txt.split a b) H Q
  | _, _ => False
theorem mt_splitP : MtR X "str.split" rSplitP := by
  intro pins s σ H x xs v us Q I rx ry h
  unfold rSplitP at h
  split at h
  · exact mt_split pins s σ H _ _ v us Q I rx ry ⟨_, _, rfl, rfl, h⟩
  · exact h.elim
/-! isinstance -/
def rIsiP (K : PySem.W.Frag) : List V → Hp → VK → Prop := fun xs H Q => match xs with
  | [.str _, .ty n] => ∃ b, kitB "str" n = some b ∧ Q (.bl b) H
  | [.int _, .ty n] => ∃ b, kitB "int" n = some b ∧ Q (.bl b) H
  | [.bl _, .ty n] => ∃ b, kitB "bool" n = some b ∧ Q (.bl b) H
  | [.non, .ty n] => ∃ b, kitB "NoneType" n = some b ∧ Q (.bl b) H
  | [.ref a, .ty n] => ∃ T b, TyX K H (.ref a) (.type T) ∧ kitB T n = some b ∧ Q (.bl b) H
  | xs => rIsi K xs H Q
theorem call_isiP {K : PySem.W.Frag} (hK : X.K = K) : CallR X (.builtin "isinstance") (rIsiP K) := by
  subst hK
  intro pins s σ H xs us Q I r h
  unfold rIsiP at h
  split at h
  · obtain ⟨b, e, q⟩ := h
    exact call_isi pins s σ H _ us Q I r ⟨_, _, _, _, b, rfl, .ty _, .base (.str _), kit_ty e, q⟩
  · obtain ⟨b, e, q⟩ := h
    exact call_isi pins s σ H _ us Q I r ⟨_, _, _, _, b, rfl, .ty _, .base (.int _), kit_ty e, q⟩
  · obtain ⟨b, e, q⟩ := h
    exact call_isi pins s σ H _ us Q I r ⟨_, _, _, _, b, rfl, .ty _, .base (.bl _), kit_ty e, q⟩
  · obtain ⟨b, e, q⟩ := h
    exact call_isi pins s σ H _ us Q I r ⟨_, _, _, _, b, rfl, .ty _, .base .non, kit_ty e, q⟩
  · obtain ⟨T, b, t, e, q⟩ := h
    exact call_isi pins s σ H _ us Q I r ⟨_, _, _, _, b, rfl, .ty _, t, kit_ty e, q⟩
  · exact call_isi pins s σ H _ us Q I r h
/-- divmod by kinds -/
def rDivmodP : List V → Hp → VK → Prop := fun xs H Q => match xs with
  | [.int i, .int j] => CDiv i j ∧ ∀ p, H p = none → Q (.ref p) (upd H p (.tup [.int (i / j), .int (i % j)]))
  | _ => False
theorem call_divmodP : CallR X (.builtin "divmod") rDivmodP := by
  intro pins s σ H xs us Q I r h
  unfold rDivmodP at h
  split at h
  · exact call_divmod pins s σ H _ us Q I r ⟨_, _, rfl, h⟩
  · exact h.elim
def rListP (K : PySem.W.Frag) : List V → Hp → VK → Prop := fun xs H Q => match xs with
  | [.ref p] => ∃ ys, (SqL K H p ys ∨ SqT K H p ys) ∧ ∀ l, H l = none → Q (.ref l) (upd H l (.lst ys))
  | _ => False
theorem call_listP {K : PySem.W.Frag} (hK : X.K = K) : CallR X (.type "list") (rListP K) := by
  subst hK
  intro pins s σ H xs us Q I r h
  unfold rListP at h
  split at h
  · obtain ⟨ys, a, q⟩ := h
    exact call_list_of pins s σ H _ us Q I r ⟨_, ys, rfl, a, q⟩
  · exact h.elim
def rAnyP (K : PySem.W.Frag) : List V → Hp → VK → Prop := fun xs H Q => match xs with
  | [.ref a] => ∃ bs : List Bool, SqL K H a (bs.map V.bl) ∧ Q (.bl (bs.any id)) H
  | _ => False
def rAllP (K : PySem.W.Frag) : List V → Hp → VK → Prop := fun xs H Q => match xs with
  | [.ref a] => ∃ bs : List Bool, SqL K H a (bs.map V.bl) ∧ Q (.bl (bs.all id)) H
  | _ => False
theorem cr_anyP {K : PySem.W.Frag} (hK : X.K = K) (hc : X.calm = true) : CallR X (.builtin "any") (rAnyP K) := by
  subst hK
  intro pins s σ H xs us Q I r h
  unfold rAnyP at h
  split at h
  · obtain ⟨bs, a, q⟩ := h
    exact cr_any hc pins s σ H _ us Q I r ⟨_, bs, rfl, a, q⟩
  · exact h.elim
theorem cr_allP {K : PySem.W.Frag} (hK : X.K = K) (hc : X.calm = true) : CallR X (.builtin "all") (rAllP K) := by
  subst hK
  intro pins s σ H xs us Q I r h
  unfold rAllP at h
  split at h
  · obtain ⟨bs, a, q⟩ := h
    exact cr_all hc pins s σ H _ us Q I r ⟨_, bs, rfl, a, q⟩
  · exact h.elim
def rSortedP (K : PySem.W.Frag) : List V → Hp → VK → Prop := fun xs H Q => match xs with
  | [.ref a] => ∃ zs : List Str, SqL K H a (zs.map V.str) ∧ zs.length < 64 ∧ ∀ (ys : List Str) (p : Addr), ys.Perm zs → sortedS ys = true → H p = none → Q (.ref p) (upd H p (.lst (ys.map V.str)))
  | _ => False
theorem cr_sortedP {K : PySem.W.Frag} (hK : X.K = K) : CallR X (.builtin "sorted") (rSortedP K) := by
  subst hK
  intro pins s σ H xs us Q I r h
  unfold rSortedP at h
  split at h
  · obtain ⟨zs, a, b, q⟩ := h
    exact cr_sortedS pins s σ H _ us Q I r ⟨_, zs, rfl, a, b, q⟩
  · exact h.elim
/-! a module's constants -/
theorem pe_globS {x a : Str} {pos : Pos} (hg : Gl X x) (hm : ∃ t, X.mg x = some (.str a t)) (hd : (x == ("__debug__" : Str)) = false := by decide) : PE X (.Name x pos) (tC (.str a)) := by
  obtain ⟨t, h⟩ := hm
  exact pe_glob hg h ⟨t, rfl⟩ hd
theorem pe_globI {x : Str} {i : Int} {pos : Pos} (hg : Gl X x) (hm : ∃ t, X.mg x = some (.int i t)) (hd : (x == ("__debug__" : Str)) = false := by decide) : PE X (.Name x pos) (tC (.int i)) := by
  obtain ⟨t, h⟩ := hm
  exact pe_glob hg h ⟨t, rfl⟩ hd
end
/-! the library's own, the written part by its letter -/
section
variable {X : Cx} {K : PySem.W.Frag} {pos : Pos}
theorem pg_tupK (hK : X.K = K) {es : List Expr} {k : Nat} {t : TGs} {n : Nat} (hc : X.calm = true) (h : PGs X es t) (hn : (assignEach es X.env).length = n := by rfl) (hst : (assignEach es X.env).findIdx? (·.1) = none := by rfl) : PG X (.Tuple es k pos) (gTup K n t) := by
  subst hK; exact pg_tup hc h hn hst
theorem pi_listK (hK : X.K = K) {tg l : Expr} {tl : TE} (hl : PE X l tl) : PI X tg l (iList K tl) := by
  subst hK; exact pi_list hl
theorem pi_tupK (hK : X.K = K) {tg l : Expr} {tl : TE} (hl : PE X l tl) : PI X tg l (iTup K tl) := by
  subst hK; exact pi_tup hl
theorem pe_bmK (hK : X.K = K) {o e : Expr} {es : List Expr} {to : TE} {t : TA} {name : Str} {apos cpos : Pos} {T id : String} {r : V → List V → Hp → VK → Prop} (pa : PlainAttrs T) (slot : Slot T name id) (hty : typeOf (.builtin id) = pure (.type "method_descriptor")) (hm : MtR X id r) (ho : PE X o to) (ha : PA X (e :: es) t)
    (hbase : attributeBase o name X.env (eval o X.env) = eval o X.env := by rfl)
    (hfew : ((backTo cpos (starEach (e :: es) X.env)).all (fun x => !x.1) && (backToKw cpos (keywordEach [] X.env)).all (fun x => x.1.isSome)
      && decide ((e :: es).length + ([] : List Keyword).length + (if ([] : List Keyword).isEmpty then 0 else 1) < 30)) = true := by rfl)
    (hline : (apos.endLine == cpos.line) = true := by rfl) (hs : starEach (e :: es) X.env = (false, eval e X.env) :: starEach es X.env := by rfl) (hplain : (backTo cpos (starEach es X.env)).any (·.1) = false := by rfl) :
    PE X (.Call (.Attribute o name apos) (e :: es) [] cpos) (tBM K T r to t) := by
  subst hK; exact pe_bm pa slot hty hm ho ha hbase hfew hline hs hplain
theorem pe_bm0K (hK : X.K = K) {o : Expr} {to : TE} {name : Str} {apos cpos : Pos} {T id : String} {r : V → List V → Hp → VK → Prop} (pa : PlainAttrs T) (slot : Slot T name id) (hty : typeOf (.builtin id) = pure (.type "method_descriptor")) (hm : MtR X id r) (ho : PE X o to)
    (hbase : attributeBase o name X.env (eval o X.env) = eval o X.env := by rfl) (hline : (apos.endLine == cpos.line) = true := by rfl) : PE X (.Call (.Attribute o name apos) [] [] cpos) (tBM0 K T r to) := by
  subst hK; exact pe_bm0 pa slot hty hm ho hbase hline
end
/-! steps -/
section
variable {K : PySem.W.Frag} {H : Hp} {Q : VK} {QT : Bool → Hp → Prop} {B : List Addr}
theorem w_mulI {i j : Int} (h : CMul i j) (q : Q (.int (i * j)) H) : rMulP (.int i) (.int j) H Q := ⟨h, q⟩
theorem w_mulS {a : Str} {n : Int} (h : a.length ≤ 2000 ∧ n ≤ 2000 ∧ -(2 ^ 63) ≤ n) (q : Q (.str (Txt.mul a n)) H) : rMulP (.str a) (.int n) H Q := ⟨h, q⟩
theorem w_iaddI {i j : Int} (q : Q (.int (i + j)) H) : rIAddP (.int i) (.int j) H Q := q
theorem w_iaddS {a b : Str} (h : a.length + b.length ≤ sizeLine) (q : Q (.str (a ++ b)) H) : rIAddP (.str a) (.str b) H Q := ⟨h, q⟩
theorem w_s1 {g : Str → Str → V} {a b : Str} (q : Q (g a b) H) : mS1 g (.str a) [.str b] H Q := q
theorem w_s0 {C : Str → Prop} {g : Str → V} {a : Str} (h : C a) (q : Q (g a) H) : mS0 C g (.str a) [] H Q := ⟨h, q⟩
theorem w_isiS {n : String} {a : Str} {b : Bool} (h : kitB "str" n = some b) (q : Q (.bl b) H) : rIsiP K [.str a, .ty n] H Q := ⟨b, h, q⟩
theorem w_isiI {n : String} {a : Int} {b : Bool} (h : kitB "int" n = some b) (q : Q (.bl b) H) : rIsiP K [.int a, .ty n] H Q := ⟨b, h, q⟩
theorem w_isiB {n : String} {a : Bool} {b : Bool} (h : kitB "bool" n = some b) (q : Q (.bl b) H) : rIsiP K [.bl a, .ty n] H Q := ⟨b, h, q⟩
theorem w_isiN {n : String} {b : Bool} (h : kitB "NoneType" n = some b) (q : Q (.bl b) H) : rIsiP K [.non, .ty n] H Q := ⟨b, h, q⟩
theorem dp_lenL {p : Addr} {ds : List PyData} (h : Dp K (hid B H) (.ref p) (.list ds)) (q : Q (.int (ds.length : Nat)) H) : rLenP K [.ref p] H Q := by
  cases h with
  | lst hs ha =>
    refine ⟨_, .inl ⟨_, ex_l (hid_le B H) hs, rfl⟩, ?_⟩
    rw [DpAll.length ha]; exact q
theorem dp_lenT {p : Addr} {ds : List PyData} (h : Dp K (hid B H) (.ref p) (.tuple ds)) (q : Q (.int (ds.length : Nat)) H) : rLenP K [.ref p] H Q := by
  cases h with
  | tup hs ha =>
    refine ⟨_, .inr ⟨_, ex_t (hid_le B H) hs, rfl⟩, ?_⟩
    rw [DpAll.length ha]; exact q
end
theorem iteD {p : Prop} [Decidable p] {A B : Prop} (h1 : p → A) (h2 : ¬ p → B) : if decide p = true then A else B := by
  by_cases h : p
  · rw [decide_eq_true h]; exact iteT (h1 h)
  · rw [decide_eq_false h]; exact iteF (h2 h)
theorem iteN {p : Prop} [Decidable p] {A B : Prop} (h1 : ¬ p → A) (h2 : p → B) : if (!decide p) = true then A else B := by
  by_cases h : p
  · rw [decide_eq_true h]; exact iteF (h2 h)
  · rw [decide_eq_false h]; exact iteT (h1 h)
theorem iteB {b : Bool} {A B : Prop} (h1 : b = true → A) (h2 : b = false → B) : if b = true then A else B := by
  cases b with
  | true => exact iteT (h1 rfl)
  | false => exact iteF (h2 rfl)
theorem iteNB {b : Bool} {A B : Prop} (h1 : b = false → A) (h2 : b = true → B) : if (!b) = true then A else B := by
  cases b with
  | true => exact iteF (h2 rfl)
  | false => exact iteT (h1 rfl)
theorem szl {n : Nat} (h : n ≤ 16000000) : n ≤ sizeLine := Nat.le_trans h (by decide)
end Wb
namespace Wb
open PySem PySem.Spec PyProof.Rows L2
theorem len_app (a b : Str) : (a ++ b).length = a.length + b.length := by
  show (a.cps ++ b.cps).size = _
  rw [Array.size_append]; rfl
theorem len_nil : Str.length (Str.ofString "") = 0 := by decide +kernel
theorem atI_nat' {α : Type} {xs : List α} {i : Int} {v : α} (h0 : 0 ≤ i) (h : xs[i.toNat]? = some v) : atI xs i = some v := by
  have := atI_nat h
  rwa [show ((i.toNat : Nat) : Int) = i by omega] at this
section
variable {K : PySem.W.Frag} {H H' H0 : Hp} {Q : VK} {p q : Addr} {o : HO}
theorem w_ixH {xs : List V} {i : Int} {v : V} (h : H p = some (.lst xs)) (e : atI xs i = some v) (q : Q v H) : rIxP K (.ref p) (.int i) H Q := ⟨xs, v, .inl (.of h), e, q⟩
/-- all things of a list are texts that .. -/
def AllS (P : Str → Prop) : List V → Prop
  | [] => True
  | .str s :: r => P s ∧ AllS P r
  | _ => False
theorem AllS.get {P : Str → Prop} : ∀ {xs : List V} {i : Nat}, AllS P xs → i < xs.length → ∃ s, xs[i]? = some (.str s) ∧ P s
  | [], i, _, h => by simp at h
  | .str s :: r, 0, ⟨h, _⟩, _ => ⟨s, rfl, h⟩
  | .str s :: r, i + 1, ⟨_, h⟩, hl => by
    obtain ⟨t, a, b⟩ := AllS.get h (by simpa using hl)
    exact ⟨t, by simpa using a, b⟩
theorem w_pickS {xs : List V} {i : Int} (P : Str → Prop) (h : H p = some (.lst xs)) (h0 : 0 ≤ i) (h1 : i < xs.length) (hP : AllS P xs) (q : ∀ s, P s → Q (.str s) H) : rIxP K (.ref p) (.int i) H Q := by
  obtain ⟨s, a, b⟩ := AllS.get (i := i.toNat) hP (by omega)
  exact w_ixH h (atI_nat' h0 a) (q s b)
def AllI (P : Int → Prop) : List V → Prop
  | [] => True
  | .int s :: r => P s ∧ AllI P r
  | _ => False
theorem AllI.get {P : Int → Prop} : ∀ {xs : List V} {i : Nat}, AllI P xs → i < xs.length → ∃ s, xs[i]? = some (.int s) ∧ P s
  | [], i, _, h => by simp at h
  | .int s :: r, 0, ⟨h, _⟩, _ => ⟨s, rfl, h⟩
  | .int s :: r, i + 1, ⟨_, h⟩, hl => by
    obtain ⟨t, a, b⟩ := AllI.get h (by simpa using hl)
    exact ⟨t, by simpa using a, b⟩
theorem w_pickI {xs : List V} {i : Int} (P : Int → Prop) (h : H p = some (.lst xs)) (h0 : 0 ≤ i) (h1 : i < xs.length) (hP : AllI P xs) (q : ∀ s, P s → Q (.int s) H) : rIxP K (.ref p) (.int i) H Q := by
  obtain ⟨s, a, b⟩ := AllI.get (i := i.toNat) hP (by omega)
  exact w_ixH h (atI_nat' h0 a) (q s b)
/-- a pot: two numbers, none below 0 -/
def Pot (H : Hp) (p : Addr) : Prop := ∃ u w : Int, H p = some (.lst [.int u, .int w]) ∧ 0 ≤ u ∧ 0 ≤ w ∧ w < 2147483629
theorem Pot.ne (h : Pot H p) (n : H q = none) : q ≠ p := fun e => by
  obtain ⟨u, w, h, _⟩ := h
  rw [e, h] at n; cases n
theorem Pot.ex (h : Pot H p) (e : Ex H H') : Pot H' p := by
  obtain ⟨u, w, h, r⟩ := h
  exact ⟨u, w, e _ _ h, r⟩
/-- a way on which at most the pot changed -/
structure Stp (p : Addr) (H H' : Hp) : Prop where
  ex : Ex (hid [p] H) (hid [p] H')
  pot : Pot H' p
theorem Stp.refl (h : Pot H p) : Stp p H H := ⟨Ex.refl _, h⟩
theorem Stp.trans (a : Stp p H0 H) (b : Stp p H H') : Stp p H0 H' := ⟨a.ex.trans b.ex, b.pot⟩
theorem Stp.to (a : Stp p H0 H) (e : Ex H H') : Stp p H0 H' := ⟨a.ex.trans (ex_hid0 e), a.pot.ex e⟩
theorem Stp.new (a : Stp p H0 H) (h : H q = none) : Stp p H0 (upd H q o) := a.to (Ex.new h)
theorem Stp.at (a : Stp p H H') (h : H q = some o) (n : q ≠ p) : H' q = some o := by
  have := a.ex q o (by rw [hid_out (by simp [n])]; exact h)
  rwa [hid_out (by simp [n])] at this
/-- .. the pot written -/
theorem Stp.set {u w : Int} (a : Stp p H0 H) (hu : 0 ≤ u) (hw : 0 ≤ w) (hw2 : w < 2147483629) : Stp p H0 (upd H p (.lst [.int u, .int w])) :=
  ⟨a.ex.trans fun b x e => by
    by_cases z : b = p
    · subst z; rw [hid_in (by simp)] at e; cases e
    · rw [hid_out (by simp [z])] at e ⊢
      rw [upd_ne z]; exact e, ⟨u, w, upd_same, hu, hw, hw2⟩⟩
/-- a new pot, used up -/
theorem Stp.over (h : H p = none) (e : Ex H H0) (s : Stp p H0 H') : Ex H H' := fun a o ha => s.at (e a o ha) (ne_of_none ha h)
end
end Wb
namespace Wb
open PySem PySem.Spec PyProof.Rows L2
theorem ll {n : Nat} (h : Nat.ble n 1000 = true) : n ≤ sizeLine := Nat.le_trans (Nat.le_of_ble_eq_true h) (by decide)
theorem ll' {n : Nat} (h : n ≤ 1000000) : n ≤ sizeLine := Nat.le_trans h (by decide)
theorem ltl {n : Nat} (h : n ≤ 1000000) : n < sizeLine := Nat.lt_of_le_of_lt h (by decide)
section
variable {K : PySem.W.Frag} {σ : L2.St} {H : Hp} {Q : VK} {te tl : TE} {tt : TT} {g : TG} {wi : TI} {vs : List Nat} {ta : TA} {R : It → Hp → Prop} {D : Ends} {tb : TS}
theorem w_lc (q : wi σ H fun J H1 => ∀ D, H1 D = none → ∃ W : Nat → Nat → Hp → Prop, (∃ m, W 0 m (upd H1 D (.lst []))) ∧ ∀ i m H, W i m H →
  (J.stop i H ∧ Q (.ref D) H) ∨ (J.go i H ∧ ∃ Nx : Hp → Prop, (∀ H', Nx H' → ∃ m', m' < m ∧ W (i + 1) m' H') ∧ ∀ x H', J.yld i H x H' → g x (wipe σ vs) H' fun σ2 H2 => wipe σ2 vs = wipe σ vs ∧ tt σ2 H2 fun b H3 =>
    if b = true then te σ2 H3 fun y H4 => ∃ acc, H4 D = some (.lst acc) ∧ acc.length < sizeLine ∧ Nx (upd H4 D (.lst (acc ++ [y]))) else Nx H3)) : tLc wi g tt te vs σ H Q := q
theorem w_rng1 (q : ta σ H fun vs H1 => ∃ j : Int, vs = [.int j] ∧ -(2 ^ 62) ≤ j ∧ j < 2 ^ 62 ∧ R (Itr 0 j.toNat) H1) : iRng1 ta σ H R := q
theorem w_rngI {d : Int} (h1 : -(2 ^ 62) ≤ d) (h2 : d < 2 ^ 62) (q : R (Itr 0 d.toNat) H) : ∃ j : Int, [V.int d] = [.int j] ∧ -(2 ^ 62) ≤ j ∧ j < 2 ^ 62 ∧ R (Itr 0 j.toNat) H := ⟨d, rfl, h1, h2, q⟩
theorem w_rng2 (q : ta σ H fun vs H1 => ∃ i j : Int, vs = [.int i, .int j] ∧ (-(2 ^ 62) ≤ i ∧ i < 2 ^ 62 ∧ -(2 ^ 62) ≤ j ∧ j < 2 ^ 62) ∧ R (Itr i (j - i).toNat) H1) : iRng2 ta σ H R := q
theorem w_rngII {a d : Int} (h1 : -(2 ^ 62) ≤ a ∧ a < 2 ^ 62 ∧ -(2 ^ 62) ≤ d ∧ d < 2 ^ 62) (q : R (Itr a (d - a).toNat) H) : ∃ i j : Int, [V.int a, V.int d] = [.int i, .int j] ∧ (-(2 ^ 62) ≤ i ∧ i < 2 ^ 62 ∧ -(2 ^ 62) ≤ j ∧ j < 2 ^ 62) ∧ R (Itr i (j - i).toNat) H := ⟨a, d, rfl, h1, q⟩
theorem w_ilist (q : tl σ H fun x H1 => ∃ a, x = .ref a ∧ (∃ xs, SqL K H1 a xs) ∧ R (Itl K a) H1) : iList K tl σ H R := q
theorem w_ilistR {a : Addr} {xs : List V} (h : SqL K H a xs) (q : R (Itl K a) H) : ∃ a', V.ref a = .ref a' ∧ (∃ xs, SqL K H a' xs) ∧ R (Itl K a') H := ⟨a, rfl, ⟨xs, h⟩, q⟩
theorem w_for (q : wi σ H fun J H1 => ∃ W : Nat → Nat → L2.St → Hp → Prop, (∃ m, W 0 m σ H1) ∧ ∀ i m σ H, W i m σ H →
  (J.stop i H ∧ D.nx σ H) ∨ (J.go i H ∧ ∃ N : L2.St → Hp → Prop, (∀ σ' H', N σ' H' → ∃ m', m' < m ∧ W (i + 1) m' σ' H') ∧ ∀ x H', J.yld i H x H' → g x σ H' fun σ2 H2 => tb { D with nx := N, ct := N, bk := D.nx } σ2 H2)) : tFor wi g tb D σ H := q
theorem w_yes {QT : Bool → Hp → Prop} (q : QT true H) : tYes σ H QT := q
/-- append -/
theorem w_append {l : Addr} {xs : List V} {y : V} (h : H l = some (.lst xs)) (hz : xs.length < sizeLine) (q : Q .non (upd H l (.lst (xs ++ [y])))) : tyV K "list" (.ref l) H ∧ (rAppend (.ref l) [y] H Q) := ⟨.inl ⟨rfl, _, .inl (.inl h)⟩, l, xs, y, rfl, rfl, h, hz, q⟩
end
/-- the list under way: new since H0, so off what stood -/
theorem Stp.push {p D : Addr} {H0 H : Hp} {xs : List V} (s : Stp p H0 H) (h : H0 D = none) (n : D ≠ p) : Stp p H0 (upd H D (.lst xs)) :=
  ⟨fun a o e => by
    have h1 := s.ex a o e
    have h2 := hid_le _ _ _ _ e
    have h3 : a ≠ D := ne_of_none h2 h
    by_cases z : a ∈ [p]
    · rw [hid_in z] at e; cases e
    · rw [hid_out z] at h1 ⊢
      rw [upd_ne h3]; exact h1, by
    obtain ⟨u, w, e, r⟩ := s.pot
    exact ⟨u, w, by rw [upd_ne n.symm]; exact e, r⟩⟩
end Wb
namespace Wb
open PySem PySem.Spec PyProof.Rows L2
/-- what is free behind was free ahead -/
theorem Stp.free {p q : Addr} {H H' : Hp} (s : Stp p H H') (hp : Pot H p) (h : H' q = none) : H q = none := by
  cases e : H q with
  | none => rfl
  | some o =>
    have n : q ≠ p := s.pot.ne h
    rw [s.at e n] at h; cases h
end Wb
namespace Wb
open PySem PySem.Spec PyProof.Rows L2
def rR1 : List V → Hp → (It → Hp → Prop) → Prop := fun vs H R => match vs with
  | [.int j] => (-(2 ^ 62) ≤ j ∧ j < 2 ^ 62) ∧ R (Itr 0 j.toNat) H
  | _ => False
def rR2 : List V → Hp → (It → Hp → Prop) → Prop := fun vs H R => match vs with
  | [.int i, .int j] => (-(2 ^ 62) ≤ i ∧ i < 2 ^ 62 ∧ -(2 ^ 62) ≤ j ∧ j < 2 ^ 62) ∧ R (Itr i (j - i).toNat) H
  | _ => False
def iR1 (ta : TA) : TI := fun σ H R => ta σ H fun vs H1 => rR1 vs H1 R
def iR2 (ta : TA) : TI := fun σ H R => ta σ H fun vs H1 => rR2 vs H1 R
theorem pi_range1P {X : Cx} {tg : Expr} {a : Expr} {ta : TA} {p pos : Pos} (hg : Gl X "range") (hm : X.mg "range" = none) (ha : PA X [a] ta) (hs : starEach [a] X.env = [(false, eval a X.env)] := by rfl) : PI X tg (.Call (.Name "range" p) [a] [] pos) (iR1 ta) := by
  refine ⟨fun pins s σ H R I h => ?_⟩
  refine Call_ (ld_blt I hg hm boot_range (PyProof.Rows.callWith_type1 (thn (ha.run pos pins s σ H _ I h) fun us s1 ⟨vs, H1, I1, r1, q1⟩ => ?_) hs rfl))
  have q1 : rR1 vs H1 R := q1
  unfold rR1 at q1
  split at q1
  · obtain ⟨⟨q1, q2⟩, q⟩ := q1
    cases r1 with
    | cons r rr =>
      cases rr
      obtain ⟨t, rfl⟩ := r
      exact call_range_1 (range_it I1 (by omega) (by omega) q1 q2 (by simpa using q))
  · exact q1.elim
theorem pi_range2P {X : Cx} {tg : Expr} {a b : Expr} {ta : TA} {p pos : Pos} (hg : Gl X "range") (hm : X.mg "range" = none) (ha : PA X [a, b] ta) (hs : starEach [a, b] X.env = [(false, eval a X.env), (false, eval b X.env)] := by rfl) (hs2 : starEach [b] X.env = [(false, eval b X.env)] := by rfl) :
    PI X tg (.Call (.Name "range" p) [a, b] [] pos) (iR2 ta) := by
  refine ⟨fun pins s σ H R I h => ?_⟩
  refine Call_ (ld_blt I hg hm boot_range (PyProof.Rows.callWith_type1 (thn (ha.run pos pins s σ H _ I h) fun us s1 ⟨vs, H1, I1, r1, q1⟩ => ?_) (by rw [hs, hs2]) (by rw [hs2]; rfl)))
  have q1 : rR2 vs H1 R := q1
  unfold rR2 at q1
  split at q1
  · obtain ⟨⟨a1, a2, a3, a4⟩, q⟩ := q1
    cases r1 with
    | cons r rr =>
      cases rr with
      | cons r' rr' =>
        cases rr'
        obtain ⟨t, rfl⟩ := r
        obtain ⟨t', rfl⟩ := r'
        exact call_range_2 (range_it I1 a1 a2 a3 a4 q)
  · exact q1.elim
section
variable {σ : L2.St} {H : Hp} {ta : TA} {R : It → Hp → Prop}
theorem w_r1 (q : ta σ H fun vs H1 => rR1 vs H1 R) : iR1 ta σ H R := q
theorem w_r2 (q : ta σ H fun vs H1 => rR2 vs H1 R) : iR2 ta σ H R := q
theorem w_r1I {d : Int} (h : -(2 ^ 62) ≤ d ∧ d < 2 ^ 62) (q : R (Itr 0 d.toNat) H) : rR1 [.int d] H R := ⟨h, q⟩
theorem w_r2I {a d : Int} (h : -(2 ^ 62) ≤ a ∧ a < 2 ^ 62 ∧ -(2 ^ 62) ≤ d ∧ d < 2 ^ 62) (q : R (Itr a (d - a).toNat) H) : rR2 [.int a, .int d] H R := ⟨h, q⟩
end
end Wb

set_option Elab.async false
set_option linter.all false
set_option maxRecDepth 100000
/-! texts as lists of signs -/
namespace Wb
open PySem PySem.Spec PyProof.Rows L2
open TL (tl)
theorem tl_len (a : Str) : a.length = (tl a).length := TL.len_tl a
theorem str_eq {a b : Str} : a = b ↔ tl a = tl b := ⟨fun h => by rw [h], TL.ext_tl⟩
theorem tl_app (a b : Str) : tl (a ++ b) = tl a ++ tl b := TL.tl_append a b
theorem starts_tl (a b : Str) : Txt.startswith a b = (tl b).isPrefixOf (tl a) := by
  unfold Txt.startswith
  rw [StrLaws.subAt_eq, Nat.zero_add, List.drop_zero, tl_len, tl_len]
  show (decide ((tl b).length ≤ (tl a).length) && (List.take (tl b).length (tl a) == tl b)) = _
  generalize tl a = x
  generalize tl b = y
  by_cases h : y <+: x
  · rw [List.isPrefixOf_iff_prefix.mpr h, ← List.prefix_iff_eq_take.mp h, decide_eq_true h.length_le]
    simp
  · have e : y.isPrefixOf x = false := by
      cases q : y.isPrefixOf x
      · rfl
      · exact absurd (List.isPrefixOf_iff_prefix.mp q) h
    rw [e]
    cases q : (List.take y.length x == y)
    · simp
    · exact absurd (List.prefix_iff_eq_take.mpr (beq_iff_eq.mp q).symm) h
theorem starts_iff {a b : Str} : Txt.startswith a b = true ↔ tl b <+: tl a := by
  rw [starts_tl]; exact List.isPrefixOf_iff_prefix
theorem tl_cut (z : Str) (lo hi : Option Int) : tl (cutS z lo hi) = ((tl z).drop (HT.sIx (tl z).length 0 lo)).take (HT.sIx (tl z).length (tl z).length hi - HT.sIx (tl z).length 0 lo) := by
  show tl ⟨_⟩ = _
  rw [TL.tl_mk, tl_len]
theorem tl_one (c : Nat) : tl ⟨#[c]⟩ = [c] := rfl
end Wb
namespace Wb
open PySem PySem.Spec PyProof.Rows L2
section
variable {σ : L2.St} {H : Hp} {c : TT} {tb t u : TS} {D : Ends} {wi : TI} {g : TG}
/-- what follows a loop, an if: proved once -/
theorem w_whileZ (Z : L2.St → Hp → Prop) (hz : ∀ σ H, Z σ H → D.nx σ H) (h : (∀ σ H, Z σ H → D.nx σ H) → ∃ W : Nat → L2.St → Hp → Prop, (∃ m, W m σ H) ∧ ∀ m σ H, W m σ H →
  c σ H fun b H1 => if b = true then ∃ N : L2.St → Hp → Prop, (∀ σ' H', N σ' H' → ∃ m', m' < m ∧ W m' σ' H') ∧ tb { D with nx := N, ct := N, bk := D.nx } σ H1 else D.nx σ H1) : tWhile c tb D σ H := h hz
theorem w_ifZ (Z : L2.St → Hp → Prop) (hz : ∀ σ H, Z σ H → D.nx σ H) (h : (∀ σ H, Z σ H → D.nx σ H) → c σ H fun b H1 => if b = true then t D σ H1 else u D σ H1) : tIfS c t u D σ H := h hz
end
end Wb
namespace Wb
open PySem PySem.Spec PyProof.Rows L2
section
variable {K : PySem.W.Frag} {H : Hp} {Q : VK}
theorem w_isiS_str {a : Str} (q : Q (.bl true) H) : rIsiP K [.str a, .ty "str"] H Q := ⟨true, by decide +kernel, q⟩
theorem w_isiS_int {a : Str} (q : Q (.bl false) H) : rIsiP K [.str a, .ty "int"] H Q := ⟨false, by decide +kernel, q⟩
theorem w_isiS_bool {a : Str} (q : Q (.bl false) H) : rIsiP K [.str a, .ty "bool"] H Q := ⟨false, by decide +kernel, q⟩
theorem w_isiS_list {a : Str} (q : Q (.bl false) H) : rIsiP K [.str a, .ty "list"] H Q := ⟨false, by decide +kernel, q⟩
theorem w_isiS_tuple {a : Str} (q : Q (.bl false) H) : rIsiP K [.str a, .ty "tuple"] H Q := ⟨false, by decide +kernel, q⟩
theorem w_isiS_dict {a : Str} (q : Q (.bl false) H) : rIsiP K [.str a, .ty "dict"] H Q := ⟨false, by decide +kernel, q⟩
theorem w_isiI_str {a : Int} (q : Q (.bl false) H) : rIsiP K [.int a, .ty "str"] H Q := ⟨false, by decide +kernel, q⟩
theorem w_isiI_int {a : Int} (q : Q (.bl true) H) : rIsiP K [.int a, .ty "int"] H Q := ⟨true, by decide +kernel, q⟩
theorem w_isiI_bool {a : Int} (q : Q (.bl false) H) : rIsiP K [.int a, .ty "bool"] H Q := ⟨false, by decide +kernel, q⟩
theorem w_isiI_list {a : Int} (q : Q (.bl false) H) : rIsiP K [.int a, .ty "list"] H Q := ⟨false, by decide +kernel, q⟩
theorem w_isiI_tuple {a : Int} (q : Q (.bl false) H) : rIsiP K [.int a, .ty "tuple"] H Q := ⟨false, by decide +kernel, q⟩
theorem w_isiI_dict {a : Int} (q : Q (.bl false) H) : rIsiP K [.int a, .ty "dict"] H Q := ⟨false, by decide +kernel, q⟩
theorem w_isiB_str {a : Bool} (q : Q (.bl false) H) : rIsiP K [.bl a, .ty "str"] H Q := ⟨false, by decide +kernel, q⟩
theorem w_isiB_int {a : Bool} (q : Q (.bl true) H) : rIsiP K [.bl a, .ty "int"] H Q := ⟨true, by decide +kernel, q⟩
theorem w_isiB_bool {a : Bool} (q : Q (.bl true) H) : rIsiP K [.bl a, .ty "bool"] H Q := ⟨true, by decide +kernel, q⟩
theorem w_isiB_list {a : Bool} (q : Q (.bl false) H) : rIsiP K [.bl a, .ty "list"] H Q := ⟨false, by decide +kernel, q⟩
theorem w_isiB_tuple {a : Bool} (q : Q (.bl false) H) : rIsiP K [.bl a, .ty "tuple"] H Q := ⟨false, by decide +kernel, q⟩
theorem w_isiB_dict {a : Bool} (q : Q (.bl false) H) : rIsiP K [.bl a, .ty "dict"] H Q := ⟨false, by decide +kernel, q⟩
theorem w_isiN_str  (q : Q (.bl false) H) : rIsiP K [.non, .ty "str"] H Q := ⟨false, by decide +kernel, q⟩
theorem w_isiN_int  (q : Q (.bl false) H) : rIsiP K [.non, .ty "int"] H Q := ⟨false, by decide +kernel, q⟩
theorem w_isiN_bool  (q : Q (.bl false) H) : rIsiP K [.non, .ty "bool"] H Q := ⟨false, by decide +kernel, q⟩
theorem w_isiN_list  (q : Q (.bl false) H) : rIsiP K [.non, .ty "list"] H Q := ⟨false, by decide +kernel, q⟩
theorem w_isiN_tuple  (q : Q (.bl false) H) : rIsiP K [.non, .ty "tuple"] H Q := ⟨false, by decide +kernel, q⟩
theorem w_isiN_dict  (q : Q (.bl false) H) : rIsiP K [.non, .ty "dict"] H Q := ⟨false, by decide +kernel, q⟩
theorem w_isi_list_str {p : Addr} {xs : List V} (h : H p = some (.lst xs)) (q : Q (.bl false) H) : rIsiP K [.ref p, .ty "str"] H Q := ⟨"list", false, .base (.lst h), by decide +kernel, q⟩
theorem w_isi_list_int {p : Addr} {xs : List V} (h : H p = some (.lst xs)) (q : Q (.bl false) H) : rIsiP K [.ref p, .ty "int"] H Q := ⟨"list", false, .base (.lst h), by decide +kernel, q⟩
theorem w_isi_list_bool {p : Addr} {xs : List V} (h : H p = some (.lst xs)) (q : Q (.bl false) H) : rIsiP K [.ref p, .ty "bool"] H Q := ⟨"list", false, .base (.lst h), by decide +kernel, q⟩
theorem w_isi_list_list {p : Addr} {xs : List V} (h : H p = some (.lst xs)) (q : Q (.bl true) H) : rIsiP K [.ref p, .ty "list"] H Q := ⟨"list", true, .base (.lst h), by decide +kernel, q⟩
theorem w_isi_list_tuple {p : Addr} {xs : List V} (h : H p = some (.lst xs)) (q : Q (.bl false) H) : rIsiP K [.ref p, .ty "tuple"] H Q := ⟨"list", false, .base (.lst h), by decide +kernel, q⟩
theorem w_isi_list_dict {p : Addr} {xs : List V} (h : H p = some (.lst xs)) (q : Q (.bl false) H) : rIsiP K [.ref p, .ty "dict"] H Q := ⟨"list", false, .base (.lst h), by decide +kernel, q⟩
theorem w_isi_tuple_str {p : Addr} {xs : List V} (h : H p = some (.tup xs)) (q : Q (.bl false) H) : rIsiP K [.ref p, .ty "str"] H Q := ⟨"tuple", false, .base (.tup h), by decide +kernel, q⟩
theorem w_isi_tuple_int {p : Addr} {xs : List V} (h : H p = some (.tup xs)) (q : Q (.bl false) H) : rIsiP K [.ref p, .ty "int"] H Q := ⟨"tuple", false, .base (.tup h), by decide +kernel, q⟩
theorem w_isi_tuple_bool {p : Addr} {xs : List V} (h : H p = some (.tup xs)) (q : Q (.bl false) H) : rIsiP K [.ref p, .ty "bool"] H Q := ⟨"tuple", false, .base (.tup h), by decide +kernel, q⟩
theorem w_isi_tuple_list {p : Addr} {xs : List V} (h : H p = some (.tup xs)) (q : Q (.bl false) H) : rIsiP K [.ref p, .ty "list"] H Q := ⟨"tuple", false, .base (.tup h), by decide +kernel, q⟩
theorem w_isi_tuple_tuple {p : Addr} {xs : List V} (h : H p = some (.tup xs)) (q : Q (.bl true) H) : rIsiP K [.ref p, .ty "tuple"] H Q := ⟨"tuple", true, .base (.tup h), by decide +kernel, q⟩
theorem w_isi_tuple_dict {p : Addr} {xs : List V} (h : H p = some (.tup xs)) (q : Q (.bl false) H) : rIsiP K [.ref p, .ty "dict"] H Q := ⟨"tuple", false, .base (.tup h), by decide +kernel, q⟩
end
end Wb
namespace Wb
theorem iteNT {A B : Prop} (h : B) : if (!true) = true then A else B := L2.iteF h
theorem iteNF {A B : Prop} (h : A) : if (!false) = true then A else B := L2.iteT h
end Wb

set_option Elab.async false
set_option linter.all false
set_option maxRecDepth 100000
set_option maxHeartbeats 4000000
namespace Wb
open PySem PySem.Spec PyProof.Rows L2
def topS (i : Nat) : Stmt := PySem.Challenge.pw_wordbench_k21_kinds_of_words.main.body.getD i (.Pass ⟨0, 0, 0, 0⟩)
abbrev s_kind_of : Stmt := topS 3
abbrev s_law_cell : Stmt := topS 5
abbrev s_law_pot : Stmt := topS 6
abbrev s_law_draw : Stmt := topS 7
abbrev s_law_signs : Stmt := topS 8
abbrev s_law_text : Stmt := topS 9
abbrev s_law_word : Stmt := topS 10
abbrev s_law_kind : Stmt := topS 11
abbrev s_law : Stmt := topS 12
theorem sc_kind_of : FnScope ["word"] ["word"] (defScope s_kind_of) := ⟨rfl, rfl, rfl, by decide +kernel, rfl, by decide +kernel, by decide +kernel⟩
theorem sc_law_cell : FnScope ["_law_script", "_law_k"] ["_law_script", "_law_k"] (defScope s_law_cell) := ⟨rfl, rfl, rfl, by decide +kernel, rfl, by decide +kernel, by decide +kernel⟩
theorem sc_law_pot : FnScope ["_law_script", "_law_k", "_law_cell_here"] ["_law_script", "_law_k"] (defScope s_law_pot) := ⟨rfl, rfl, rfl, by decide +kernel, rfl, by decide +kernel, by decide +kernel⟩
theorem sc_law_draw : FnScope ["_law_pot_here", "_law_many", "_law_digit"] ["_law_pot_here", "_law_many"] (defScope s_law_draw) := ⟨rfl, rfl, rfl, by decide +kernel, rfl, by decide +kernel, by decide +kernel⟩
theorem sc_law_signs : FnScope ["_law_letters"] [] (defScope s_law_signs) := ⟨rfl, rfl, rfl, by decide +kernel, rfl, by decide +kernel, by decide +kernel⟩
theorem sc_law_text : FnScope ["_law_pot_here", "_law_most", "_law_signs_here", "_law_k"] ["_law_pot_here", "_law_most", "_law_signs_here"] (defScope s_law_text) := ⟨rfl, rfl, rfl, by decide +kernel, rfl, by decide +kernel, by decide +kernel⟩
theorem sc_law_word : FnScope ["_law_pot_here", "_law_head", "_law_signs_here"] ["_law_pot_here"] (defScope s_law_word) := ⟨rfl, rfl, rfl, by decide +kernel, rfl, by decide +kernel, by decide +kernel⟩
theorem sc_law_kind : FnScope ["_law_word_here", "_law_many"] ["_law_word_here"] (defScope s_law_kind) := ⟨rfl, rfl, rfl, by decide +kernel, rfl, by decide +kernel, by decide +kernel⟩
theorem sc_law : FnScope ["_law_script", "_law_words", "_law_word_here", "_law_found", "_law_k"] ["_law_script"] (defScope s_law) := ⟨rfl, rfl, rfl, by decide +kernel, rfl, by decide +kernel, by decide +kernel⟩
/-- what the top has left -/
structure Tx (K : PySem.W.Frag) (mg : Str → Option Value) where
  a_kind_of : Addr
  fd_kind_of : FuncData
  F_kind_of : Fun K "kind_of" "kind_of" s_kind_of a_kind_of fd_kind_of
  m_kind_of : mg "kind_of" = some (.ref a_kind_of)
  a_law_cell : Addr
  fd_law_cell : FuncData
  F_law_cell : Fun K "_law_cell" "_law_cell" s_law_cell a_law_cell fd_law_cell
  m_law_cell : mg "_law_cell" = some (.ref a_law_cell)
  a_law_pot : Addr
  fd_law_pot : FuncData
  F_law_pot : Fun K "_law_pot" "_law_pot" s_law_pot a_law_pot fd_law_pot
  m_law_pot : mg "_law_pot" = some (.ref a_law_pot)
  a_law_draw : Addr
  fd_law_draw : FuncData
  F_law_draw : Fun K "_law_draw" "_law_draw" s_law_draw a_law_draw fd_law_draw
  m_law_draw : mg "_law_draw" = some (.ref a_law_draw)
  a_law_signs : Addr
  fd_law_signs : FuncData
  F_law_signs : Fun K "_law_signs" "_law_signs" s_law_signs a_law_signs fd_law_signs
  m_law_signs : mg "_law_signs" = some (.ref a_law_signs)
  a_law_text : Addr
  fd_law_text : FuncData
  F_law_text : Fun K "_law_text" "_law_text" s_law_text a_law_text fd_law_text
  m_law_text : mg "_law_text" = some (.ref a_law_text)
  a_law_word : Addr
  fd_law_word : FuncData
  F_law_word : Fun K "_law_word" "_law_word" s_law_word a_law_word fd_law_word
  m_law_word : mg "_law_word" = some (.ref a_law_word)
  a_law_kind : Addr
  fd_law_kind : FuncData
  F_law_kind : Fun K "_law_kind" "_law_kind" s_law_kind a_law_kind fd_law_kind
  m_law_kind : mg "_law_kind" = some (.ref a_law_kind)
  a_law : Addr
  fd_law : FuncData
  F_law : Fun K "law" "law" s_law a_law fd_law
  m_law : mg "law" = some (.ref a_law)
  n_divmod : mg "divmod" = none
  n_int : mg "int" = none
  n_isinstance : mg "isinstance" = none
  n_len : mg "len" = none
  n_max : mg "max" = none
  n_min : mg "min" = none
  n_range : mg "range" = none
  n_str : mg "str" = none
  c_DIVIDER : ∃ t, mg "DIVIDER" = some (.str (Str.ofString "--") t)
  c_SWITCH : ∃ t, mg "SWITCH" = some (.str (Str.ofString "-") t)
section
variable {P : Program} {w : World} {K : PySem.W.Frag} {mg : Str → Option Value} {base : Heap}
theorem b_kind_of (T : Tx K mg) : Binds K T.fd_kind_of ["word"] [] := T.F_kind_of.binds (ps := ["word"]) fun _ _ _ _ _ _ us hl => match us, hl with | [_], _ => rfl
theorem b_law_cell (T : Tx K mg) : Binds K T.fd_law_cell ["_law_script", "_law_k"] [] := T.F_law_cell.binds (ps := ["_law_script", "_law_k"]) fun _ _ _ _ _ _ us hl => match us, hl with | [_, _], _ => rfl
theorem b_law_pot (T : Tx K mg) : Binds K T.fd_law_pot ["_law_script", "_law_k"] [] := T.F_law_pot.binds (ps := ["_law_script", "_law_k"]) fun _ _ _ _ _ _ us hl => match us, hl with | [_, _], _ => rfl
theorem b_law_draw (T : Tx K mg) : Binds K T.fd_law_draw ["_law_pot_here", "_law_many"] [] := T.F_law_draw.binds (ps := ["_law_pot_here", "_law_many"]) fun _ _ _ _ _ _ us hl => match us, hl with | [_, _], _ => rfl
theorem b_law_signs (T : Tx K mg) : Binds K T.fd_law_signs [] [] := T.F_law_signs.binds (ps := []) fun _ _ _ _ _ _ us hl => match us, hl with | [], _ => rfl
theorem b_law_text (T : Tx K mg) : Binds K T.fd_law_text ["_law_pot_here", "_law_most", "_law_signs_here"] [] := T.F_law_text.binds (ps := ["_law_pot_here", "_law_most", "_law_signs_here"]) fun _ _ _ _ _ _ us hl => match us, hl with | [_, _, _], _ => rfl
theorem b_law_word (T : Tx K mg) : Binds K T.fd_law_word ["_law_pot_here"] [] := T.F_law_word.binds (ps := ["_law_pot_here"]) fun _ _ _ _ _ _ us hl => match us, hl with | [_], _ => rfl
theorem b_law_kind (T : Tx K mg) : Binds K T.fd_law_kind ["_law_word_here"] [] := T.F_law_kind.binds (ps := ["_law_word_here"]) fun _ _ _ _ _ _ us hl => match us, hl with | [_], _ => rfl
theorem b_law (T : Tx K mg) : Binds K T.fd_law ["_law_script"] [] := T.F_law.binds (ps := ["_law_script"]) fun _ _ _ _ _ _ us hl => match us, hl with | [_], _ => rfl

local macro_rules | `(tactic| walk_at "side") => `(tactic| first
  | omega
  | exact ⟨by omega, by omega⟩
  | exact .inr ⟨by omega, by omega⟩
  | exact .inl ⟨by omega, by omega⟩
  | exact ⟨by omega, by omega, by omega⟩
  | (show (0 : Int) < _; omega)
  | (refine szl ?_; omega)
  | (refine szl ?_; simp only [len_app, len_nil]; omega)
  | (refine szl ?_; decide +kernel))
local macro_rules | `(tactic| walk_at "go1") => `(tactic| first
  | (with_reducible refine w_seq ?_)
  | (with_reducible refine w_asg ?_)
  | ((with_reducible refine' w_var ?h1 ?_); (case h1 => exact rfl))
  | (with_reducible refine w_c ?_)
  | (with_reducible refine w_name ?_)
  | (with_reducible refine w_ret ?_)
  | (with_reducible refine w_ifS ?_)
  | (with_reducible refine w_cons ?_)
  | (with_reducible refine w_nil ?_)
  | (with_reducible refine w_call ?_)
  | (with_reducible refine w_op ?_)
  | (with_reducible refine w_test ?_)
  | (with_reducible refine w_tB ?_)
  | (with_reducible refine w_bl ?_)
  | (with_reducible refine w_cb ?_)
  | (with_reducible refine w_and ?_)
  | (with_reducible refine w_or ?_)
  | (with_reducible refine w_not ?_)
  | (with_reducible refine iteT ?_)
  | (with_reducible refine iteF ?_)
  | (with_reducible refine iteNT ?_)
  | (with_reducible refine iteNF ?_)
  | (with_reducible refine w_drop ?_)
  | (with_reducible refine w_m1 ?_)
  | (with_reducible refine w_m0 ?_)
  | (with_reducible refine w_tyS ?_)
  | (with_reducible refine w_s1 ?_)
  | (with_reducible refine w_addI ?_)
  | (with_reducible refine w_i2 ?_)
  | (with_reducible refine w_eqS ?_)
  | (with_reducible refine w_neS ?_)
  | (with_reducible refine w_eqI ?_)
  | (with_reducible refine w_neI ?_)
  | (with_reducible refine w_eqB ?_)
  | (with_reducible refine w_neB ?_)
  | (with_reducible refine w_next ?_)
  | (with_reducible refine w_brk ?_)
  | (with_reducible refine w_cont ?_)
  | (with_reducible refine w_retN ?_)
  | (with_reducible refine w_if ?_)
  | (with_reducible refine w_chain ?_)
  | (with_reducible refine w_andV ?_)
  | (with_reducible refine w_orV ?_)
  | (with_reducible refine w_notV ?_)
  | (with_reducible refine w_un ?_)
  | (with_reducible refine w_neg ?_)
  | (with_reducible refine w_tup ?_)
  | (with_reducible refine w_lst ?_)
  | (with_reducible refine w_sl ?_)
  | (with_reducible refine w_nopart ?_)
  | (with_reducible refine w_part ?_)
  | (with_reducible refine w_partI ?_)
  | ((with_reducible refine' w_aug ?h1 ?_); (case h1 => exact rfl))
  | (with_reducible refine w_sub ?_)
  | (with_reducible refine w_iaddI ?_)
  | (with_reducible refine w_max2 ?_)
  | (with_reducible refine w_min2 ?_)
  | (with_reducible refine w_intI ?_)
  | (with_reducible refine w_intB ?_)
  | (with_reducible refine w_inS ?_)
  | (with_reducible refine w_ninS ?_)
  | (with_reducible refine w_eqNN ?_)
  | (with_reducible refine w_eqNS ?_)
  | (with_reducible refine w_eqSN ?_)
  | (with_reducible refine w_lc ?_)
  | (with_reducible refine w_for ?_)
  | (with_reducible refine w_r1 ?_)
  | (with_reducible refine w_r2 ?_)
  | (with_reducible refine w_ilist ?_)
  | (with_reducible refine w_yes ?_)
  | ((with_reducible refine' w_r1I ?h1 ?_); (case h1 => exact ⟨by omega, by omega⟩))
  | ((with_reducible refine' w_r2I ?h1 ?_); (case h1 => exact ⟨by omega, by omega, by omega, by omega⟩))
  | (with_reducible refine w_bm ?_)
  | (with_reducible refine w_bm0 ?_)
  | ((with_reducible refine' w_ic ?h1 ?_); (case h1 => walk_at "side"))
  | ((with_reducible refine' w_mulI ?h1 ?_); (case h1 => walk_at "side"))
  | ((with_reducible refine' w_addS ?h1 ?_); (case h1 => walk_at "side"))
  | ((with_reducible refine' w_iaddS ?h1 ?_); (case h1 => walk_at "side"))
  | ((with_reducible refine' w_lenS ?h1 ?_); (case h1 => walk_at "side"))
  | ((with_reducible refine' w_slS ?h1 ?_); (case h1 => walk_at "side"))
  | ((with_reducible refine' w_s0 ?h1 ?_); (case h1 => walk_at "side"))
  | (with_reducible refine w_isiS_str ?_)
  | (with_reducible refine w_isiS_int ?_)
  | (with_reducible refine w_isiS_bool ?_)
  | (with_reducible refine w_isiS_list ?_)
  | (with_reducible refine w_isiS_tuple ?_)
  | (with_reducible refine w_isiS_dict ?_)
  | (with_reducible refine w_isiI_str ?_)
  | (with_reducible refine w_isiI_int ?_)
  | (with_reducible refine w_isiI_bool ?_)
  | (with_reducible refine w_isiI_list ?_)
  | (with_reducible refine w_isiI_tuple ?_)
  | (with_reducible refine w_isiI_dict ?_)
  | (with_reducible refine w_isiB_str ?_)
  | (with_reducible refine w_isiB_int ?_)
  | (with_reducible refine w_isiB_bool ?_)
  | (with_reducible refine w_isiB_list ?_)
  | (with_reducible refine w_isiB_tuple ?_)
  | (with_reducible refine w_isiB_dict ?_)
  | (with_reducible refine w_isiN_str ?_)
  | (with_reducible refine w_isiN_int ?_)
  | (with_reducible refine w_isiN_bool ?_)
  | (with_reducible refine w_isiN_list ?_)
  | (with_reducible refine w_isiN_tuple ?_)
  | (with_reducible refine w_isiN_dict ?_))
local macro_rules | `(tactic| walk_at "go") => `(tactic| repeat (walk_at "go1"))

def mKind (w : Str) : Str :=
  if w = "--" then "divider" else if Txt.startswith w "--" = true then "long" else if Txt.startswith w "-" = true ∧ w ≠ "-" then "shorts" else "plain"

/-! ### kind_of -/
def sp_kind_of (K : PySem.W.Frag) : Sp := fun vs H Q E => ∃ a : Str, vs = [.str a] ∧ Q (.str (mKind a)) H
set_option maxHeartbeats 4000000 in
theorem ok_kind_of (T : Tx K mg) : FnOk P w K mg base CX0 1 T.a_kind_of T.fd_kind_of ["word"] (sp_kind_of K) := by
  refine T.F_kind_of.ok sc_kind_of (fun vs H Q E h => ?_) (fun cdv A outer s H vs Q E hr h => ?_)
  · obtain ⟨a, rfl, q⟩ := h; rfl
  · obtain ⟨a, rfl, q⟩ := h
    refine ⟨_, (pss_cons (ps_if (pt_cmpR (op_eqP (K := K) rfl hr.units) (pv 0) (pe_globS (by rfl) T.c_DIVIDER) (nomark _)) (pss_one (ps_ret pe_str)) pss_nil)
      (pss_cons (ps_if (pt_val (pe_m1 PySem.F.slot_str_startswith PySem.F.type_str_startswith mt_startswithP (pv 0) (pe_globS (by rfl) T.c_DIVIDER))) (pss_one (ps_ret pe_str)) pss_nil)
      (pss_cons (ps_if (PW.pt (pw_and (pt_val (pe_m1 PySem.F.slot_str_startswith PySem.F.type_str_startswith mt_startswithP (pv 0) (pe_globS (by rfl) T.c_SWITCH))) (pw_and1 (pt_cmpR (op_neP (K := K) rfl hr.units) (pv 0) (pe_globS (by rfl) T.c_SWITCH) (nomark _))))) (pss_one (ps_ret pe_str)) pss_nil)
      (pss_one (ps_ret pe_str))))), ?_⟩
    walk_at "go"
    refine iteD (fun h1 => ?_) fun h1 => ?_
    · walk_at "go"
      rw [show mKind a = "divider" from if_pos h1] at q
      exact q
    walk_at "go"
    refine iteB (fun h2 => ?_) fun h2 => ?_
    · walk_at "go"
      rw [show mKind a = "long" by simp only [mKind, if_neg h1, if_pos h2]] at q
      exact q
    walk_at "go"
    refine iteB (fun h3 => ?_) fun h3 => ?_
    · walk_at "go"
      refine iteN (fun h4 => ?_) fun h4 => ?_
      · walk_at "go"
        rw [show mKind a = "shorts" by simp only [mKind, if_neg h1, if_neg (show ¬ Txt.startswith a "--" = true by rw [h2]; simp), if_pos (And.intro h3 h4)]] at q
        exact q
      · walk_at "go"
        rw [show mKind a = "plain" by simp only [mKind, if_neg h1, if_neg (show ¬ Txt.startswith a "--" = true by rw [h2]; simp), if_neg (show ¬ (Txt.startswith a "-" = true ∧ a ≠ "-") from fun z => z.2 h4)]] at q
        exact q
    · walk_at "go"
      walk_at "go"
      rw [show mKind a = "plain" by simp only [mKind, if_neg h1, if_neg (show ¬ Txt.startswith a "--" = true by rw [h2]; simp), if_neg (show ¬ (Txt.startswith a "-" = true ∧ a ≠ "-") from fun z => by rw [h3] at z; exact absurd z.1 (by simp))]] at q
      exact q
/-! ### _law_cell -/
def sp_law_cell (K : PySem.W.Frag) : Sp := fun vs H Q E => ∃ (B : List Addr) (a : Addr) (ns : List Int) (k : Int), vs = [.ref a, .int k] ∧ Dp K (hid B H) (.ref a) (.list (ns.map PyData.int)) ∧ 0 ≤ k ∧ ∀ z : Int, Q (.int z) H
set_option maxHeartbeats 4000000 in
theorem ok_law_cell (T : Tx K mg) : FnOk P w K mg base CX0 1 T.a_law_cell T.fd_law_cell ["_law_script", "_law_k"] (sp_law_cell K) := by
  refine T.F_law_cell.ok sc_law_cell (fun vs H Q E h => ?_) (fun cdv A outer s H vs Q E hr h => ?_)
  · obtain ⟨B, a, ns, k, rfl, hS, hk, q⟩ := h; rfl
  · obtain ⟨B, a, ns, k, rfl, hS, hk, q⟩ := h
    refine ⟨_, (pss_one (ps_ret (pe_ifExp (pt_cmpR (cp_i2 op_lt) (pv 1) (pe_callB (call_lenP (K := K) rfl) (by rfl) T.n_len (by decide +kernel) (pa_cons (pv 0) pa_nil)) (nomark _)) (pe_ix (ix_P (K := K) rfl) (pv 0) (pv 1) (fun _ _ => rfl)) pe_int))), ?_⟩
    walk_at "go"
    refine dp_lenL hS ?_
    walk_at "go"
    refine iteD (fun h1 => ?_) fun h1 => ?_
    · walk_at "go"
      rw [List.length_map] at h1
      refine w_ixD hS (atI_nat' hk (by rw [List.getElem?_map, List.getElem?_eq_getElem (show k.toNat < ns.length by omega)]; rfl)) fun v hv => ?_
      cases hv
      exact q _
    · walk_at "go"
      exact q _
/-! ### _law_pot -/
def sp_law_pot (K : PySem.W.Frag) : Sp := fun vs H Q E => ∃ (B : List Addr) (a : Addr) (ns : List Int) (k : Int), vs = [.ref a, .int k] ∧ Dp K (hid B H) (.ref a) (.list (ns.map PyData.int)) ∧ 0 ≤ k ∧ k ≤ 64 ∧
  ∀ p H', H p = none → Ex H H' → Pot H' p → Q (.ref p) H' 
set_option maxHeartbeats 4000000 in
theorem ok_law_pot (T : Tx K mg) : FnOk P w K mg base CX0 2 T.a_law_pot T.fd_law_pot ["_law_script", "_law_k"] (sp_law_pot K) := by
  refine T.F_law_pot.ok sc_law_pot (fun vs H Q E h => ?_) (fun cdv A outer s H vs Q E hr h => ?_)
  · obtain ⟨B, a, ns, k, rfl, hS, hk, hk2, q⟩ := h; rfl
  · obtain ⟨B, a, ns, k, rfl, hS, hk, hk2, q⟩ := h
    refine ⟨_, (pss_cons (ps_set (i := 2) sc_law_pot.nd rfl (.inl rfl) (pe_call (ok_law_cell T) (hr.mono (by decide)) (by rfl) T.m_law_cell T.F_law_cell.kp (b_law_cell T) .nil pass0 (pa_cons (pv 0) (pa_cons (pv 1) pa_nil))))
      (pss_one (ps_ret (pe_lst (pa_cons (pe_callB (call_max2P rfl) (by rfl) T.n_max (by decide +kernel) (pa_cons pe_int (pa_cons (pe_op (op_i2 op_sub) (pv 2) (pe_op (op_ic op_pow) pe_int pe_int)) pa_nil))) (pa_cons (pe_op (op_ic op_mod) (pe_op op_addP (pe_op op_addP (pe_op op_mulP (pe_op (op_ic op_mod) (pv 2) pe_int) pe_int) (pe_op op_mulP pe_int (pv 1))) pe_int) pe_int) pa_nil)))))), ?_⟩
    walk_at "go"
    refine ⟨B, a, ns, k, rfl, hS, hk, fun z => ?_⟩
    walk_at "go"
    refine ⟨ll rfl, fun p hp => ?_⟩
    exact q p _ hp (Ex.new hp) ⟨_, _, upd_same, by omega, Int.emod_nonneg _ (by decide), Int.emod_lt_of_pos _ (by decide)⟩
/-! ### _law_draw -/
def sp_law_draw (K : PySem.W.Frag) : Sp := fun vs H Q E => ∃ (p : Addr) (n : Int), vs = [.ref p, .int n] ∧ Pot H p ∧ 0 < n ∧ n < 1073741824 ∧
  ∀ d H', Ex (hid [p] H) (hid [p] H') → Pot H' p → 0 ≤ d → d < n → Q (.int d) H' 
set_option maxHeartbeats 4000000 in
theorem ok_law_draw (T : Tx K mg) : FnOk P w K mg base CX0 1 T.a_law_draw T.fd_law_draw ["_law_pot_here", "_law_many"] (sp_law_draw K) := by
  refine T.F_law_draw.ok sc_law_draw (fun vs H Q E h => ?_) (fun cdv A outer s H vs Q E hr h => ?_)
  · obtain ⟨p, n, rfl, hP, hn, hn2, q⟩ := h; rfl
  · obtain ⟨p, n, rfl, hP, hn, hn2, q⟩ := h
    refine ⟨_, (pss_cons (ps_if (pt_cmpR (cp_i2 op_gt) (pe_ix (ix_P (K := K) rfl) (pv 0) pe_int (fun _ _ => rfl)) pe_int (nomark _)) (pss_cons (ps_asg (pe_callB call_divmodP (by rfl) T.n_divmod (by decide +kernel) (pa_cons (pe_ix (ix_P (K := K) rfl) (pv 0) pe_int (fun _ _ => rfl)) (pa_cons (pv 1) pa_nil))) (pg_tupK (K := K) (n := 2) rfl rfl (pgs_cons (pg_sub (pv 0) pe_int set_list) (pgs_cons (pg_name (i := 2) sc_law_draw.nd rfl (.inl rfl)) pgs_nil))))
      (pss_one (ps_ret (pv 2)))) pss_nil)
      (pss_cons (ps_asg (pe_op (op_ic op_mod) (pe_op op_addP (pe_op op_mulP (pe_ix (ix_P (K := K) rfl) (pv 0) pe_int (fun _ _ => rfl)) pe_int) pe_int) pe_int) (pg_sub (pv 0) pe_int set_list))
      (pss_one (ps_ret (pe_op (op_ic op_mod) (pe_op (op_ic op_fdiv) (pe_op (op_ic op_mod) (pe_op (op_ic op_pow) (pe_ix (ix_P (K := K) rfl) (pv 0) pe_int (fun _ _ => rfl)) pe_int) pe_int) pe_int) (pv 1)))))), ?_⟩
    obtain ⟨u, w, hH, hu, hw, hw2⟩ := hP
    have S : Stp p H H := .refl ⟨u, w, hH, hu, hw, hw2⟩
    walk_at "go"
    refine w_ixH hH rfl ?_
    walk_at "go"
    refine iteD (fun h1 => ?_) fun h1 => ?_
    · walk_at "go"
      refine w_ixH hH rfl ?_
      walk_at "go"
      refine ⟨⟨hn, hn2⟩, fun t ht => ?_⟩
      refine w_gtup (.of upd_same) rfl ?_
      have nt : p ≠ t := fun e => by rw [← e, hH] at ht; cases ht
      refine ⟨_, [.int (u % n)], rfl, ?_⟩
      walk_at "go"
      refine ⟨p, _, 0, 0, rfl, rfl, by rw [upd_ne nt]; exact hH, rfl, ?_⟩
      refine ⟨_, [], rfl, ?_⟩
      walk_at "go"
      refine ⟨rfl, ?_⟩
      walk_at "go"
      have S2 := (S.new (o := .tup [.int (u / n), .int (u % n)]) ht).set (u := u / n) (w := w) (Int.ediv_nonneg hu (by omega)) hw hw2
      exact q _ _ S2.ex S2.pot (Int.emod_nonneg _ (by omega)) (Int.emod_lt_of_pos _ hn)
    · walk_at "go"
      refine w_ixH hH rfl ?_
      walk_at "go"
      refine ⟨p, _, 1, 1, rfl, rfl, hH, rfl, ?_⟩
      walk_at "go"
      have hb : (0:Int) ≤ (w * 39373 + 8191) % 2147483587 := Int.emod_nonneg _ (by decide)
      have hc : (w * 39373 + 8191) % 2147483587 < 2147483587 := Int.emod_lt_of_pos _ (by decide)
      have S2 := S.set hu hb (show _ < (2147483629 : Int) by omega)
      refine w_ixH (xs := [.int u, .int ((w * 39373 + 8191) % 2147483587)]) upd_same rfl ?_
      generalize (w * 39373 + 8191) % 2147483587 = z at *
      walk_at "go"
      exact q _ _ S2.ex S2.pot (Int.emod_nonneg _ (by omega)) (Int.emod_lt_of_pos _ hn)
theorem use_draw {K : PySem.W.Frag} {H0 H : Hp} {p : Addr} {n : Int} {Q : VK} {E : XK} (S : Stp p H0 H) (h1 : 0 < n) (h2 : n < 1073741824)
    (q : ∀ d H', Stp p H0 H' → Stp p H H' → 0 ≤ d → d < n → Q (.int d) H') : sp_law_draw K [.ref p, .int n] H Q E :=
  ⟨p, n, rfl, S.pot, h1, h2, fun d H' e hp a b => q d H' (S.trans ⟨e, hp⟩) ⟨e, hp⟩ a b⟩

/-! ### _law_signs -/
def sp_law_signs (K : PySem.W.Frag) : Sp := fun vs H Q E => vs = [] ∧ ∀ s : Str, s.length = 94 → Q (.str s) H
set_option maxHeartbeats 4000000 in
theorem ok_law_signs (T : Tx K mg) : FnOk P w K mg base CX0 1 T.a_law_signs T.fd_law_signs [] (sp_law_signs K) := by
  refine T.F_law_signs.ok sc_law_signs (fun vs H Q E h => ?_) (fun cdv A outer s H vs Q E hr h => ?_)
  · obtain ⟨rfl, q⟩ := h; rfl
  · obtain ⟨rfl, q⟩ := h
    refine ⟨_, (pss_cons (ps_set (i := 0) sc_law_signs.nd rfl (.inl rfl) pe_str)
      (pss_one (ps_ret (pe_op op_addP (pe_op op_addP pe_str (pv 0)) (pe_m0 PySem.F.slot_str_upper PySem.F.type_str_upper mt_upperP (pv 0)))))), ?_⟩
    walk_at "go"
    refine w_s0 (by decide +kernel) ?_
    refine w_addS (by refine szl ?_; decide +kernel) ?_
    exact q _ (by decide +kernel)
theorem use_signs {K : PySem.W.Frag} {H : Hp} {Q : VK} {E : XK} (q : ∀ s : Str, s.length = 94 → Q (.str s) H) : sp_law_signs K [] H Q E := ⟨rfl, q⟩
/-! ### _law_text -/
def sp_law_text (K : PySem.W.Frag) : Sp := fun vs H Q E => ∃ (p : Addr) (m : Int) (s : Str), vs = [.ref p, .int m, .str s] ∧ Pot H p ∧ 0 ≤ m ∧ m ≤ 100 ∧ 0 < s.length ∧ s.length ≤ 200 ∧
  ∀ (t : Str) H', Ex (hid [p] H) (hid [p] H') → Pot H' p → t.length ≤ m → (∀ c ∈ t.cps.toList, c ∈ s.cps.toList) → Q (.str t) H' 
theorem join_signs {cs : List Nat} {ys : List Str} (h : ∀ y ∈ ys, ∃ c ∈ cs, y = ⟨#[c]⟩) : (ys.map (·.length)).sum = ys.length ∧ (Txt.join (Str.ofString "") ys).length = ys.length ∧ ∀ c ∈ (Txt.join (Str.ofString "") ys).cps.toList, c ∈ cs := by
  have e0 : TL.tl (Str.ofString "") = [] := by decide +kernel
  have e1 : TL.tl (Txt.join (Str.ofString "") ys) = (ys.map TL.tl).flatten := by
    rw [TL.join_eq, TL.tl_join, e0]
    generalize ys.map TL.tl = l
    clear h e0
    induction l with
    | nil => rfl
    | cons a r ih =>
      cases r with
      | nil => simp [TL.joinL]
      | cons b r => rw [TL.joinL, ih]; simp
  have e2 : (ys.map (·.length)).sum = ys.length ∧ ((ys.map TL.tl).flatten).length = ys.length ∧ ∀ c ∈ (ys.map TL.tl).flatten, c ∈ cs := by
    clear e1 e0
    induction ys with
    | nil => exact ⟨rfl, rfl, fun _ h => nomatch h⟩
    | cons y r ih =>
      obtain ⟨c, hc, rfl⟩ := h y (by simp)
      obtain ⟨a, b, d⟩ := ih fun z hz => h z (by simp [hz])
      refine ⟨?_, ?_, ?_⟩
      · rw [List.map_cons, List.sum_cons, a, List.length_cons]; show 1 + _ = _; omega
      · rw [List.map_cons, List.flatten_cons, List.length_append, b]; simp [TL.tl]; omega
      · intro x hx
        rw [List.map_cons, List.flatten_cons] at hx
        rcases List.mem_append.mp hx with z | z
        · have : x = c := by simpa [TL.tl] using z
          rw [this]; exact hc
        · exact d x z
  refine ⟨e2.1, ?_, ?_⟩
  · rw [TL.len_tl, e1]; exact e2.2.1
  · rw [show (Txt.join (Str.ofString "") ys).cps.toList = (ys.map TL.tl).flatten from e1]; exact e2.2.2
set_option maxHeartbeats 4000000 in
theorem ok_law_text (T : Tx K mg) : FnOk P w K mg base CX0 2 T.a_law_text T.fd_law_text ["_law_pot_here", "_law_most", "_law_signs_here"] (sp_law_text K) := by
  refine T.F_law_text.ok sc_law_text (fun vs H Q E h => ?_) (fun cdv A outer s H vs Q E hr h => ?_)
  · obtain ⟨p, m, s, rfl, hP, hm, hm2, hs, hs2, q⟩ := h; rfl
  · obtain ⟨p, m, s, rfl, hP, hm, hm2, hs, hs2, q⟩ := h
    refine ⟨_, (pss_one (ps_ret (pe_m1 PySem.F.slot_str_join PySem.F.type_str_join (mt_joinP (K := K) rfl) pe_str (pe_lc (own := [("_law_k", 3)]) (g := gName 3) (by rfl) sc_law_text.nd (pi_range1P (by rfl) T.n_range (pa_cons (pe_call (ok_law_draw T) (hr.mono (by decide)) (by rfl) T.m_law_draw T.F_law_draw.kp (b_law_draw T) .nil pass0 (pa_cons (pv 0) (pa_cons (pe_op op_addP (pv 1) pe_int) pa_nil))) pa_nil)) (blkOk_by (own := [("_law_k", 3)]) (N := ["_law_pot_here", "_law_most", "_law_signs_here", "_law_k"]) (sc := defScope s_law_text) (by decide +kernel)) (fun _ _ _ _ _ => pg_name (i := 3) sc_law_text.nd rfl (Or.inl rfl)) (fun _ _ _ _ _ => pts_nil) (fun _ _ _ _ _ => (pe_ix (ix_P (K := K) rfl) (pv 2) (pe_call (ok_law_draw T) (hr.mono (by decide)) (by rfl) T.m_law_draw T.F_law_draw.kp (b_law_draw T) .nil pass0 (pa_cons (pv 0) (pa_cons (pe_callB (call_lenP (K := K) rfl) (by rfl) T.n_len (by decide +kernel) (pa_cons (pv 2) pa_nil)) pa_nil))) (fun _ _ => rfl))))))), ?_⟩
    walk_at "go"
    refine use_draw (.refl hP) (by omega) (by omega) fun d H1 S _ hd0 hd1 => ?_
    walk_at "go"
    intro D nD
    have nDp := S.pot.ne nD
    have nD0 := S.free hP nD
    refine lc_range (lo := 0) (n := d.toNat) (fun i H2 => Stp p H H2 ∧ (∃ ys : List Str, H2 D = some (.lst (ys.map V.str)) ∧ ys.length = i ∧ ∀ y ∈ ys, ∃ c ∈ s.cps.toList, y = ⟨#[c]⟩)) ⟨S.new nD, [], upd_same, rfl, fun _ h => nomatch h⟩ (fun i H2 hi hP2 => ?_) (fun H2 hP2 => ?_)
    · obtain ⟨S2, ys, eD, hy, hc⟩ := hP2
      refine ⟨rfl, ?_⟩
      walk_at "go"
      refine use_draw S2 (by omega) (by omega) fun d3 H3 S3 T3 h30 h31 => ?_
      have hl3 : d3.toNat < s.cps.toList.length := by show d3.toNat < s.cps.size; have : s.length = s.cps.size := rfl; omega
      refine w_ixS (szl (by omega)) (atI_nat' h30 (List.getElem?_eq_getElem hl3)) ?_
      have e3 := T3.at eD nDp
      refine ⟨_, e3, ltl (by rw [List.length_map]; omega), S3.push nD0 nDp, ys ++ [⟨#[s.cps.toList[d3.toNat]]⟩], by rw [upd_same, List.map_append]; rfl, by rw [List.length_append, hy]; rfl, fun y hy2 => ?_⟩
      rcases List.mem_append.mp hy2 with z | z
      · exact hc y z
      · rw [List.mem_singleton.mp z]; exact ⟨_, List.getElem_mem _, rfl⟩
    · obtain ⟨S2, ys, eD, hy, hc⟩ := hP2
      obtain ⟨j1, j2, j3⟩ := join_signs hc
      refine ⟨ys, .inl (.of eD), ?_, ?_⟩
      · rw [j1]; show ys.length + ys.length * 0 ≤ _; omega
      · exact q _ _ S2.ex S2.pot (by rw [j2]; omega) j3
theorem use_text {K : PySem.W.Frag} {H0 H : Hp} {p : Addr} {m : Int} {s : Str} {Q : VK} {E : XK} (S : Stp p H0 H) (h1 : 0 ≤ m) (h2 : m ≤ 100) (h3 : 0 < s.length) (h4 : s.length ≤ 200)
    (q : ∀ (t : Str) H', Stp p H0 H' → Stp p H H' → t.length ≤ m → (∀ c ∈ t.cps.toList, c ∈ s.cps.toList) → Q (.str t) H') : sp_law_text K [.ref p, .int m, .str s] H Q E :=
  ⟨p, m, s, rfl, S.pot, h1, h2, h3, h4, fun d H' e hp a b => q d H' (S.trans ⟨e, hp⟩) ⟨e, hp⟩ a b⟩
/-! ### _law_word -/
def sp_law_word (K : PySem.W.Frag) : Sp := fun vs H Q E => ∃ (p : Addr), vs = [.ref p] ∧ Pot H p ∧
  ∀ (t : Str) H', Ex (hid [p] H) (hid [p] H') → Pot H' p → t.length ≤ 60 → Q (.str t) H' 
set_option maxHeartbeats 4000000 in
theorem ok_law_word (T : Tx K mg) : FnOk P w K mg base CX0 3 T.a_law_word T.fd_law_word ["_law_pot_here"] (sp_law_word K) := by
  refine T.F_law_word.ok sc_law_word (fun vs H Q E h => ?_) (fun cdv A outer s H vs Q E hr h => ?_)
  · obtain ⟨p, rfl, hP, q⟩ := h; rfl
  · obtain ⟨p, rfl, hP, q⟩ := h
    refine ⟨_, (pss_cons (ps_set (i := 1) sc_law_word.nd rfl (.inl rfl) (pe_ix (ix_P (K := K) rfl) (pe_lst (pa_cons pe_str (pa_cons pe_str (pa_cons pe_str (pa_cons pe_str (pa_cons pe_str (pa_cons pe_str (pa_cons pe_str (pa_cons pe_str pa_nil))))))))) (pe_call (ok_law_draw T) (hr.mono (by decide)) (by rfl) T.m_law_draw T.F_law_draw.kp (b_law_draw T) .nil pass0 (pa_cons (pv 0) (pa_cons pe_int pa_nil))) (fun _ _ => rfl)))
      (pss_cons (ps_set (i := 2) sc_law_word.nd rfl (.inl rfl) (pe_ix (ix_P (K := K) rfl) (pe_lst (pa_cons (pe_call0 (ok_law_signs T) (hr.mono (by decide)) (by rfl) T.m_law_signs T.F_law_signs.kp (b_law_signs T) .nil pass0) (pa_cons pe_str pa_nil))) (pe_call (ok_law_draw T) (hr.mono (by decide)) (by rfl) T.m_law_draw T.F_law_draw.kp (b_law_draw T) .nil pass0 (pa_cons (pv 0) (pa_cons pe_int pa_nil))) (fun _ _ => rfl)))
      (pss_one (ps_ret (pe_op op_addP (pv 1) (pe_call (ok_law_text T) (hr.mono (by decide)) (by rfl) T.m_law_text T.F_law_text.kp (b_law_text T) .nil pass0 (pa_cons (pv 0) (pa_cons (pe_ix (ix_P (K := K) rfl) (pe_lst (pa_cons pe_int (pa_cons pe_int (pa_cons pe_int pa_nil)))) (pe_call (ok_law_draw T) (hr.mono (by decide)) (by rfl) T.m_law_draw T.F_law_draw.kp (b_law_draw T) .nil pass0 (pa_cons (pv 0) (pa_cons pe_int pa_nil))) (fun _ _ => rfl)) (pa_cons (pv 2) pa_nil))))))))), ?_⟩
    walk_at "go"
    refine ⟨ll rfl, fun l1 n1 => ?_⟩
    have S0 := (Stp.refl hP).new (o := .lst [.str "", .str "", .str "-", .str "--", .str "---", .str "--=", .str "-=", .str "- "]) n1
    walk_at "go"
    refine use_draw S0 (by decide) (by decide) fun d1 H1 S1 T1 a1 b1 => ?_
    refine w_pickS (fun s => s.length ≤ 3) (T1.at upd_same (hP.ne n1)) a1 b1 (by repeat (first | exact trivial | refine ⟨by decide +kernel, ?_⟩)) fun hd hhd => ?_
    walk_at "go"
    refine use_signs fun sg hsg => ?_
    walk_at "go"
    refine ⟨ll rfl, fun l2 n2 => ?_⟩
    have S2 := S1.new (o := .lst [.str sg, .str "-=a' "]) n2
    walk_at "go"
    refine use_draw S2 (by decide) (by decide) fun d2 H2 S3 T2 a2 b2 => ?_
    refine w_pickS (fun s => 0 < s.length ∧ s.length ≤ 200) (T2.at upd_same (S1.pot.ne n2)) a2 b2 ⟨by omega, by decide +kernel, trivial⟩ fun ss hss => ?_
    walk_at "go"
    refine ⟨ll rfl, fun l3 n3 => ?_⟩
    have S4 := S3.new (o := .lst [.int 0, .int 3, .int 57]) n3
    walk_at "go"
    refine use_draw S4 (by decide) (by decide) fun d3 H3 S5 T3 a3 b3 => ?_
    refine w_pickI (fun s => 0 ≤ s ∧ s ≤ 57) (T3.at upd_same (S3.pot.ne n3)) a3 b3 ⟨by decide, by decide, by decide, trivial⟩ fun m hm => ?_
    walk_at "go"
    refine use_text S5 (by omega) (by omega) (by omega) (by omega) fun t H4 S6 T4 ht _ => ?_
    walk_at "go"
    exact q _ _ S6.ex S6.pot (by rw [len_app]; omega)
theorem use_word {K : PySem.W.Frag} {H0 H : Hp} {p : Addr} {Q : VK} {E : XK} (S : Stp p H0 H)
    (q : ∀ (t : Str) H', Stp p H0 H' → t.length ≤ 60 → Q (.str t) H') : sp_law_word K [.ref p] H Q E :=
  ⟨p, rfl, S.pot, fun d H' e hp a => q d H' (S.trans ⟨e, hp⟩) a⟩
/-! ### _law_kind -/
def sp_law_kind (K : PySem.W.Frag) : Sp := fun vs H Q E => ∃ a : Str, vs = [.str a] ∧ a.length ≤ 1000 ∧ ∀ H', Ex H H' → Q (.str (mKind a)) H'
/-- how many - it begins with -/
def lead : List Nat → Nat
  | 45 :: r => lead r + 1
  | _ => 0
theorem lead_le : ∀ l : List Nat, lead l ≤ l.length
  | [] => Nat.le_refl _
  | c :: r => by
    have := lead_le r
    unfold lead
    split
    · rename_i e; cases e; simp; omega
    · exact Nat.zero_le _
theorem lead_step : ∀ {l : List Nat} {i c : Nat}, l[i]? = some c → c = 45 → i ≤ lead l → i + 1 ≤ lead l
  | [], i, c, h, _, _ => by simp at h
  | d :: r, 0, c, h, e, _ => by
    simp at h; subst h; subst e; show 1 ≤ lead r + 1; omega
  | d :: r, i + 1, c, h, e, hi => by
    unfold lead at hi ⊢
    split at hi
    · rename_i q; cases q
      have := lead_step (l := r) (by simpa using h) e (by omega)
      show i + 1 + 1 ≤ lead r + 1; omega
    · omega
theorem lead_stop : ∀ {l : List Nat} {i c : Nat}, l[i]? = some c → c ≠ 45 → i ≤ lead l → i = lead l
  | [], i, c, h, _, _ => by simp at h
  | d :: r, 0, c, h, e, _ => by
    simp at h; subst h
    unfold lead
    split
    · rename_i q; cases q; exact absurd rfl e
    · rfl
  | d :: r, i + 1, c, h, e, hi => by
    unfold lead at hi ⊢
    split at hi
    · rename_i q; cases q
      have := lead_stop (l := r) (by simpa using h) e (by omega)
      show i + 1 = lead r + 1; omega
    · omega
theorem sign_eq {c : Nat} : (⟨#[c]⟩ : Str) = Str.ofString "-" ↔ c = 45 := by
  rw [str_eq, tl_one, show TL.tl (Str.ofString "-") = [45] by decide +kernel]; simp
theorem mKind_lead (a : Str) : mKind a = if lead (TL.tl a) = 0 ∨ a = "-" then ("plain" : Str) else if a = "--" then ("divider" : Str) else if 1 < lead (TL.tl a) then ("long" : Str) else ("shorts" : Str) := by
  have e1 : TL.tl (Str.ofString "-") = [45] := by decide +kernel
  have e2 : TL.tl (Str.ofString "--") = [45, 45] := by decide +kernel
  have p1 : Txt.startswith a "-" = true ↔ 0 < lead (TL.tl a) := by
    rw [starts_iff, e1]
    generalize TL.tl a = l
    constructor
    · rintro ⟨r, rfl⟩; show 0 < lead r + 1; omega
    · intro h; unfold lead at h; split at h
      · exact ⟨_, rfl⟩
      · omega
  have p2 : Txt.startswith a "--" = true ↔ 1 < lead (TL.tl a) := by
    rw [starts_iff, e2]
    generalize TL.tl a = l
    constructor
    · rintro ⟨r, rfl⟩; show 1 < lead r + 1 + 1; omega
    · intro h; unfold lead at h; split at h
      · rename_i r
        unfold lead at h; split at h
        · exact ⟨_, rfl⟩
        · omega
      · omega
  have q2 : a = Str.ofString "-" → lead (TL.tl a) = 1 := by rintro rfl; rw [e1]; rfl
  have q3 : a = Str.ofString "--" → lead (TL.tl a) = 2 ∧ a ≠ Str.ofString "-" := by rintro rfl; exact ⟨by rw [e2]; rfl, by decide +kernel⟩
  unfold mKind
  by_cases h1 : a = Str.ofString "--"
  · obtain ⟨a1, a2⟩ := q3 h1
    rw [if_pos h1, if_neg (fun z => z.elim (fun z => by omega) a2), if_pos h1]
  · rw [if_neg h1]
    by_cases h2 : 1 < lead (TL.tl a)
    · rw [if_pos (p2.mpr h2), if_neg (fun z => z.elim (fun z => by omega) fun z => absurd (q2 z) (by omega)), if_neg h1, if_pos h2]
    · rw [if_neg (fun z => h2 (p2.mp z))]
      by_cases h3 : a = Str.ofString "-"
      · rw [if_neg (fun z => z.2 h3), if_pos (.inr h3)]
      · by_cases h4 : lead (TL.tl a) = 0
        · rw [if_neg (fun z => absurd (p1.mp z.1) (by omega)), if_pos (.inl h4)]
        · rw [if_pos ⟨p1.mpr (by omega), h3⟩, if_neg (fun z => z.elim h4 h3), if_neg h1, if_neg h2]
set_option maxHeartbeats 4000000 in
theorem ok_law_kind (T : Tx K mg) : FnOk P w K mg base CX0 1 T.a_law_kind T.fd_law_kind ["_law_word_here"] (sp_law_kind K) := by
  refine T.F_law_kind.ok sc_law_kind (fun vs H Q E h => ?_) (fun cdv A outer s H vs Q E hr h => ?_)
  · obtain ⟨a, rfl, ha, q⟩ := h; rfl
  · obtain ⟨a, rfl, ha, q⟩ := h
    refine ⟨_, (pss_cons (ps_set (i := 1) sc_law_kind.nd rfl (.inl rfl) pe_int)
      (pss_cons (ps_while PassesOwn.never (PW.pt (pw_and (pt_cmpR (cp_i2 op_lt) (pv 1) (pe_callB (call_lenP (K := K) rfl) (by rfl) T.n_len (by decide +kernel) (pa_cons (pv 0) pa_nil)) (nomark _)) (pw_and1 (pt_cmpR (op_eqP (K := K) rfl hr.units) (pe_ix (ix_P (K := K) rfl) (pv 0) (pv 1) (fun _ _ => rfl)) pe_str (nomark _)))))
      (pss_one (ps_aug (i := 1) sc_law_kind.nd rfl (.inl rfl) pe_int ip_addP)))
      (pss_cons (ps_if (PW.pt (pw_or (pt_cmpR (op_eqP (K := K) rfl hr.units) (pv 1) pe_int (nomark _)) (pw_or1 (pt_cmpR (op_eqP (K := K) rfl hr.units) (pv 0) pe_str (nomark _))))) (pss_one (ps_ret pe_str)) pss_nil)
      (pss_cons (ps_if (pt_cmpR (op_eqP (K := K) rfl hr.units) (pv 0) pe_str (nomark _)) (pss_one (ps_ret pe_str)) pss_nil)
      (pss_one (ps_ret (pe_ix (ix_P (K := K) rfl) (pe_lst (pa_cons pe_str (pa_cons pe_str pa_nil))) (pe_callTy call_intP (by rfl) T.n_int (by decide +kernel) (pa_cons (pe_cmpR (cp_i2 op_gt) (pv 1) pe_int (nomark _)) pa_nil)) (fun _ _ => rfl)))))))), ?_⟩
    walk_at "go"
    refine w_whileZ (fun σ' H' => σ' = [some (.str a), some (.int (lead (TL.tl a) : Nat))] ∧ H' = H) (fun σ' H' hZ => ?_) fun hz => ⟨fun m σ' H' => ∃ i : Nat, σ' = [some (.str a), some (.int i)] ∧ H' = H ∧ m = a.length - i ∧ i ≤ lead (TL.tl a), ⟨_, 0, rfl, rfl, rfl, Nat.zero_le _⟩, fun m σ' H' hW => ?_⟩
    · obtain ⟨rfl, rfl⟩ := hZ
      walk_at "go"
      refine iteD (fun h3 => ?_) fun h3 => ?_
      · walk_at "go"
        rw [mKind_lead, if_pos (.inl (by omega))] at q; exact q _ (Ex.refl _)
      · walk_at "go"
        refine iteD (fun h4 => ?_) fun h4 => ?_
        · walk_at "go"
          rw [mKind_lead, if_pos (.inr h4)] at q; exact q _ (Ex.refl _)
        · walk_at "go"
          have h34 : ¬ (lead (TL.tl a) = 0 ∨ a = Str.ofString "-") := fun z => z.elim (fun z => h3 (by omega)) h4
          refine iteD (fun h5 => ?_) fun h5 => ?_
          · walk_at "go"
            rw [mKind_lead, if_neg h34, if_pos h5] at q; exact q _ (Ex.refl _)
          · walk_at "go"
            refine ⟨ll rfl, fun l1 n1 => ?_⟩
            walk_at "go"
            rw [mKind_lead, if_neg h34, if_neg h5] at q
            by_cases h6 : 1 < lead (TL.tl a)
            · rw [if_pos h6] at q
              rw [decide_eq_true (show (1:Int) < (lead (TL.tl a) : Nat) by omega)]
              exact w_ixH upd_same rfl (q _ (Ex.new n1))
            · rw [if_neg h6] at q
              rw [decide_eq_false (show ¬ (1:Int) < (lead (TL.tl a) : Nat) by omega)]
              exact w_ixH upd_same rfl (q _ (Ex.new n1))
    obtain ⟨i, rfl, rfl, rfl, hi⟩ := hW
    have hla := lead_le (TL.tl a)
    rw [← tl_len] at hla
    walk_at "go"
    refine iteD (fun h1 => ?_) fun h1 => ?_
    · walk_at "go"
      have hi2 : i < a.cps.toList.length := by have : a.length = a.cps.toList.length := tl_len a; omega
      refine w_ixS (szl (by omega)) (atI_nat (List.getElem?_eq_getElem hi2)) ?_
      walk_at "go"
      refine iteD (fun h2 => ?_) fun h2 => ?_
      · refine ⟨fun σ' H'' => σ' = [some (.str a), some (.int (i + 1 : Nat))] ∧ H'' = H', fun σ' H'' hN => ⟨a.length - (i + 1), by omega, i + 1, hN.1, hN.2, rfl, ?_⟩, ?_⟩
        · exact lead_step (List.getElem?_eq_getElem hi2) (sign_eq.mp h2) hi
        · walk_at "go"
          exact ⟨rfl, rfl⟩
      · have e : i = lead (TL.tl a) := lead_stop (List.getElem?_eq_getElem hi2) (fun z => h2 (sign_eq.mpr z)) hi
        exact hz _ _ ⟨by rw [e], rfl⟩
    · refine iteF ?_
      have e : i = lead (TL.tl a) := by omega
      exact hz _ _ ⟨by rw [e], rfl⟩
/-! ### law -/
def sp_law (K : PySem.W.Frag) : Sp := fun vs H Q E => ∃ (a : Addr) (ns : List Int), vs = [.ref a] ∧ Dp K H (.ref a) (.list (ns.map PyData.int)) ∧ ns.length ≤ 63 ∧ ∀ H', Q (.bl true) H'
theorem law_start {K : PySem.W.Frag} {H : Hp} {a : Addr} {ns : List Int} (hl : ns.length ≤ 63) (h : SqL K H a (ns.map V.int)) : sp_law K [.ref a] H (fun v _ => v = .bl true) (fun _ _ _ => False) :=
  ⟨a, ns, rfl, .lst h (dpall_ints ns), hl, fun _ => rfl⟩
set_option maxHeartbeats 4000000 in
theorem ok_law (T : Tx K mg) : FnOk P w K mg base CX0 4 T.a_law T.fd_law ["_law_script"] (sp_law K) := by
  refine T.F_law.ok sc_law (fun vs H Q E h => ?_) (fun cdv A outer s H vs Q E hr h => ?_)
  · obtain ⟨a, ns, rfl, hS, hl, q⟩ := h; rfl
  · obtain ⟨a, ns, rfl, hS, hl, q⟩ := h
    refine ⟨_, (pss_cons (ps_set (i := 1) sc_law.nd rfl (.inl rfl) (pe_lst (pa_cons pe_str (pa_cons pe_str (pa_cons pe_str (pa_cons pe_str (pa_cons pe_str (pa_cons pe_str (pa_cons pe_str (pa_cons pe_str (pa_cons pe_str (pa_cons pe_str (pa_cons pe_str (pa_cons pe_str (pa_cons pe_str (pa_cons pe_str pa_nil))))))))))))))))
      (pss_cons (ps_set (i := 1) sc_law.nd rfl (.inl rfl) (pe_op op_addP (pv 1) (pe_lc (own := [("_law_k", 4)]) (g := gName 4) (by rfl) sc_law.nd (pi_range1P (by rfl) T.n_range (pa_cons (pe_callB (call_min2P rfl) (by rfl) T.n_min (by decide +kernel) (pa_cons (pe_callB (call_lenP (K := K) rfl) (by rfl) T.n_len (by decide +kernel) (pa_cons (pv 0) pa_nil)) (pa_cons pe_int pa_nil))) pa_nil)) (blkOk_by (own := [("_law_k", 4)]) (N := ["_law_script", "_law_words", "_law_word_here", "_law_found", "_law_k"]) (sc := defScope s_law) (by decide +kernel)) (fun _ _ _ _ _ => pg_name (i := 4) sc_law.nd rfl (Or.inl rfl)) (fun _ _ _ _ _ => pts_nil) (fun _ _ _ _ _ => (pe_call (ok_law_word T) (hr.mono (by decide)) (by rfl) T.m_law_word T.F_law_word.kp (b_law_word T) .nil pass0 (pa_cons (pe_call (ok_law_pot T) (hr.mono (by decide)) (by rfl) T.m_law_pot T.F_law_pot.kp (b_law_pot T) .nil pass0 (pa_cons (pv 0) (pa_cons (pv 4) pa_nil))) pa_nil))))))
      (pss_cons (ps_for PassesOwn.never rfl (pi_listK (K := K) rfl (pv 1)) (pg_name (i := 2) sc_law.nd rfl (.inl rfl))
      (pss_cons (ps_set (i := 3) sc_law.nd rfl (.inl rfl) (pe_call (ok_kind_of T) (hr.mono (by decide)) (by rfl) T.m_kind_of T.F_kind_of.kp (b_kind_of T) .nil pass0 (pa_cons (pv 2) pa_nil)))
      (pss_one (ps_if (PW.pt (pw_or (pt_not (pt_val (pe_callB (call_isiP (K := K) rfl) (by rfl) T.n_isinstance (by decide +kernel) (pa_cons (pv 3) (pa_cons (pe_bltn (v := .ty "str") (by rfl) T.n_str (by decide +kernel) rfl) pa_nil))))) (pw_or1 (pt_cmpR (op_neP (K := K) rfl hr.units) (pv 3) (pe_call (ok_law_kind T) (hr.mono (by decide)) (by rfl) T.m_law_kind T.F_law_kind.kp (b_law_kind T) .nil pass0 (pa_cons (pv 2) pa_nil)) (nomark _))))) (pss_one (ps_ret pe_bl)) pss_nil))))
      (pss_one (ps_ret pe_bl))))), ?_⟩
    walk_at "go"
    refine ⟨ll rfl, fun l1 n1 => ?_⟩
    have e1 := Ex.new (o := .lst [.str "", .str "-", .str "--", .str "---", .str "-=", .str "--=", .str "- ", .str "-- ", .str " -", .str " --", .str "a-", .str "-a", .str "--a", .str "=--"]) n1
    walk_at "go"
    refine dp_lenL (B := []) (by rw [hid_nil]; exact dp_ex e1 hS) ?_
    walk_at "go"
    rw [List.length_map]
    intro D nD
    have nD1 : l1 ≠ D := fun z => by rw [← z, upd_same] at nD; cases nD
    refine lc_range (lo := 0) (n := (min (ns.length : Int) 60).toNat) (fun i H2 => Ex (upd H l1 (.lst [.str "", .str "-", .str "--", .str "---", .str "-=", .str "--=", .str "- ", .str "-- ", .str " -", .str " --", .str "a-", .str "-a", .str "--a", .str "=--"])) H2 ∧ (∃ ys : List Str, H2 D = some (.lst (ys.map V.str)) ∧ ys.length = i ∧ ∀ y ∈ ys, y.length ≤ 60)) ⟨Ex.new nD, [], upd_same, rfl, fun _ h => nomatch h⟩ (fun i H2 hi hP2 => ?_) (fun H2 hP2 => ?_)
    · obtain ⟨E2, ys, eD, hy, hc⟩ := hP2
      refine ⟨rfl, ?_⟩
      walk_at "go"
      refine ⟨[], a, ns, 0 + i, rfl, by rw [hid_nil]; exact dp_ex (e1.trans E2) hS, by omega, by omega, fun p H3 np E3 hp => ?_⟩
      walk_at "go"
      refine use_word (.refl hp) fun t H4 S4 ht => ?_
      have E4 := Stp.over np E3 S4
      refine ⟨_, E4 _ _ eD, ltl (by rw [List.length_map]; omega), ?_, ys ++ [t], by rw [upd_same, List.map_append]; rfl, by rw [List.length_append, hy]; rfl, fun y hy2 => ?_⟩
      · intro x o hx
        rw [upd_ne (ne_of_none hx nD)]
        exact E4 _ _ (E2 _ _ hx)
      · rcases List.mem_append.mp hy2 with z | z
        · exact hc y z
        · rw [List.mem_singleton.mp z]; exact ht
    · obtain ⟨E2, ys, eD, hy, hc⟩ := hP2
      refine ⟨l1, D, _, _, rfl, rfl, E2 _ _ upd_same, eD, ?_, fun p hp => ?_⟩
      · refine szl ?_
        simp only [List.length_cons, List.length_nil, List.length_map]; omega
      walk_at "go"
      have hw0 : ∀ y ∈ (["", "-", "--", "---", "-=", "--=", "- ", "-- ", " -", " --", "a-", "-a", "--a", "=--"] : List Str), y.length ≤ 60 := by decide +kernel
      have hw : ∀ y ∈ (["", "-", "--", "---", "-=", "--=", "- ", "-- ", " -", " --", "a-", "-a", "--a", "=--"] : List Str) ++ ys, y.length ≤ 60 := by
        intro y hy2
        rcases List.mem_append.mp hy2 with z | z
        · exact hw0 y z
        · exact hc y z
      have el : [V.str "", .str "-", .str "--", .str "---", .str "-=", .str "--=", .str "- ", .str "-- ", .str " -", .str " --", .str "a-", .str "-a", .str "--a", .str "=--"] ++ ys.map V.str = ((["", "-", "--", "---", "-=", "--=", "- ", "-- ", " -", " --", "a-", "-a", "--a", "=--"] : List Str) ++ ys).map V.str := by
        rw [List.map_append]; rfl
      rw [el]
      generalize (["", "-", "--", "---", "-=", "--=", "- ", "-- ", " -", " --", "a-", "-a", "--a", "=--"] : List Str) ++ ys = ws at hw ⊢
      refine ⟨p, rfl, ⟨_, .of upd_same⟩, ?_⟩
      refine for_list (xs := ws.map V.str) (fun i σ' H' => ∃ y2 y3, σ' = [some (.ref a), some (.ref p), y2, y3, none] ∧ H' p = some (.lst (ws.map V.str))) ⟨none, none, rfl, upd_same⟩ (fun i σ' H' hi hP => ?_) (fun i x σ' H' hx hP => ?_) (fun σ' H' hP => ?_)
      · obtain ⟨y2, y3, rfl, h⟩ := hP
        exact .of h
      · obtain ⟨y2, y3, rfl, h⟩ := hP
        rw [List.getElem?_map] at hx
        cases ew : ws[i]? with
        | none => rw [ew] at hx; cases hx
        | some wd =>
          rw [ew] at hx; cases hx
          have hwd := hw wd (List.mem_of_getElem? ew)
          walk_at "go"
          refine ⟨wd, rfl, ?_⟩
          walk_at "go"
          refine ⟨wd, rfl, by omega, fun H5 e5 => ?_⟩
          walk_at "go"
          refine iteN (fun z => absurd rfl z) fun _ => ?_
          walk_at "go"
          exact ⟨_, _, rfl, e5 _ _ h⟩
      · walk_at "go"
        exact q _
end
theorem all_mk {l : PySem.W.OpenLaw} {w : World} {K : PySem.W.Frag} {h : Heap} {mg : Str → Option Value} {fa : Addr} (X : K.In h) (G : h.Ns mainGlobals mg) (hfa : mg "law" = some (.ref fa))
    {f_kind_of : Addr} {od_kind_of an_kind_of : Option Addr} {sl_kind_of : Array (Option Value)} {oc_kind_of kV_kind_of dc_kind_of pm_kind_of cd_kind_of ct_kind_of : Value}
    {f_law_cell : Addr} {od_law_cell an_law_cell : Option Addr} {sl_law_cell : Array (Option Value)} {oc_law_cell kV_law_cell dc_law_cell pm_law_cell cd_law_cell ct_law_cell : Value}
    {f_law_pot : Addr} {od_law_pot an_law_pot : Option Addr} {sl_law_pot : Array (Option Value)} {oc_law_pot kV_law_pot dc_law_pot pm_law_pot cd_law_pot ct_law_pot : Value}
    {f_law_draw : Addr} {od_law_draw an_law_draw : Option Addr} {sl_law_draw : Array (Option Value)} {oc_law_draw kV_law_draw dc_law_draw pm_law_draw cd_law_draw ct_law_draw : Value}
    {f_law_signs : Addr} {od_law_signs an_law_signs : Option Addr} {sl_law_signs : Array (Option Value)} {oc_law_signs kV_law_signs dc_law_signs pm_law_signs cd_law_signs ct_law_signs : Value}
    {f_law_text : Addr} {od_law_text an_law_text : Option Addr} {sl_law_text : Array (Option Value)} {oc_law_text kV_law_text dc_law_text pm_law_text cd_law_text ct_law_text : Value}
    {f_law_word : Addr} {od_law_word an_law_word : Option Addr} {sl_law_word : Array (Option Value)} {oc_law_word kV_law_word dc_law_word pm_law_word cd_law_word ct_law_word : Value}
    {f_law_kind : Addr} {od_law_kind an_law_kind : Option Addr} {sl_law_kind : Array (Option Value)} {oc_law_kind kV_law_kind dc_law_kind pm_law_kind cd_law_kind ct_law_kind : Value}
    {f_law : Addr} {od_law an_law : Option Addr} {sl_law : Array (Option Value)} {oc_law kV_law dc_law pm_law cd_law ct_law : Value}
    {t_DIVIDER t_SWITCH : Tok}
    (a_kind_of : PySem.W.nsIn K mainGlobals "kind_of" = some (some (.ref f_kind_of)))
    (l_kind_of : K.lookup f_kind_of = some ⟨oc_kind_of, od_kind_of, .func (PySem.W.fnOf "kind_of" "kind_of" (defArgs s_kind_of) (defBody s_kind_of) (defScope s_kind_of) .none kV_kind_of dc_kind_of pm_kind_of an_kind_of cd_kind_of ct_kind_of), sl_kind_of⟩)
    (c_kind_of : PySem.W.codeIn K cd_kind_of "kind_of" = true)
    (k_kind_of : PySem.W.keepIn K (.ref f_kind_of) = true)
    (a_law_cell : PySem.W.nsIn K mainGlobals "_law_cell" = some (some (.ref f_law_cell)))
    (l_law_cell : K.lookup f_law_cell = some ⟨oc_law_cell, od_law_cell, .func (PySem.W.fnOf "_law_cell" "_law_cell" (defArgs s_law_cell) (defBody s_law_cell) (defScope s_law_cell) .none kV_law_cell dc_law_cell pm_law_cell an_law_cell cd_law_cell ct_law_cell), sl_law_cell⟩)
    (c_law_cell : PySem.W.codeIn K cd_law_cell "_law_cell" = true)
    (k_law_cell : PySem.W.keepIn K (.ref f_law_cell) = true)
    (a_law_pot : PySem.W.nsIn K mainGlobals "_law_pot" = some (some (.ref f_law_pot)))
    (l_law_pot : K.lookup f_law_pot = some ⟨oc_law_pot, od_law_pot, .func (PySem.W.fnOf "_law_pot" "_law_pot" (defArgs s_law_pot) (defBody s_law_pot) (defScope s_law_pot) .none kV_law_pot dc_law_pot pm_law_pot an_law_pot cd_law_pot ct_law_pot), sl_law_pot⟩)
    (c_law_pot : PySem.W.codeIn K cd_law_pot "_law_pot" = true)
    (k_law_pot : PySem.W.keepIn K (.ref f_law_pot) = true)
    (a_law_draw : PySem.W.nsIn K mainGlobals "_law_draw" = some (some (.ref f_law_draw)))
    (l_law_draw : K.lookup f_law_draw = some ⟨oc_law_draw, od_law_draw, .func (PySem.W.fnOf "_law_draw" "_law_draw" (defArgs s_law_draw) (defBody s_law_draw) (defScope s_law_draw) .none kV_law_draw dc_law_draw pm_law_draw an_law_draw cd_law_draw ct_law_draw), sl_law_draw⟩)
    (c_law_draw : PySem.W.codeIn K cd_law_draw "_law_draw" = true)
    (k_law_draw : PySem.W.keepIn K (.ref f_law_draw) = true)
    (a_law_signs : PySem.W.nsIn K mainGlobals "_law_signs" = some (some (.ref f_law_signs)))
    (l_law_signs : K.lookup f_law_signs = some ⟨oc_law_signs, od_law_signs, .func (PySem.W.fnOf "_law_signs" "_law_signs" (defArgs s_law_signs) (defBody s_law_signs) (defScope s_law_signs) .none kV_law_signs dc_law_signs pm_law_signs an_law_signs cd_law_signs ct_law_signs), sl_law_signs⟩)
    (c_law_signs : PySem.W.codeIn K cd_law_signs "_law_signs" = true)
    (k_law_signs : PySem.W.keepIn K (.ref f_law_signs) = true)
    (a_law_text : PySem.W.nsIn K mainGlobals "_law_text" = some (some (.ref f_law_text)))
    (l_law_text : K.lookup f_law_text = some ⟨oc_law_text, od_law_text, .func (PySem.W.fnOf "_law_text" "_law_text" (defArgs s_law_text) (defBody s_law_text) (defScope s_law_text) .none kV_law_text dc_law_text pm_law_text an_law_text cd_law_text ct_law_text), sl_law_text⟩)
    (c_law_text : PySem.W.codeIn K cd_law_text "_law_text" = true)
    (k_law_text : PySem.W.keepIn K (.ref f_law_text) = true)
    (a_law_word : PySem.W.nsIn K mainGlobals "_law_word" = some (some (.ref f_law_word)))
    (l_law_word : K.lookup f_law_word = some ⟨oc_law_word, od_law_word, .func (PySem.W.fnOf "_law_word" "_law_word" (defArgs s_law_word) (defBody s_law_word) (defScope s_law_word) .none kV_law_word dc_law_word pm_law_word an_law_word cd_law_word ct_law_word), sl_law_word⟩)
    (c_law_word : PySem.W.codeIn K cd_law_word "_law_word" = true)
    (k_law_word : PySem.W.keepIn K (.ref f_law_word) = true)
    (a_law_kind : PySem.W.nsIn K mainGlobals "_law_kind" = some (some (.ref f_law_kind)))
    (l_law_kind : K.lookup f_law_kind = some ⟨oc_law_kind, od_law_kind, .func (PySem.W.fnOf "_law_kind" "_law_kind" (defArgs s_law_kind) (defBody s_law_kind) (defScope s_law_kind) .none kV_law_kind dc_law_kind pm_law_kind an_law_kind cd_law_kind ct_law_kind), sl_law_kind⟩)
    (c_law_kind : PySem.W.codeIn K cd_law_kind "_law_kind" = true)
    (k_law_kind : PySem.W.keepIn K (.ref f_law_kind) = true)
    (a_law : PySem.W.nsIn K mainGlobals "law" = some (some (.ref f_law)))
    (l_law : K.lookup f_law = some ⟨oc_law, od_law, .func (PySem.W.fnOf "law" "law" (defArgs s_law) (defBody s_law) (defScope s_law) .none kV_law dc_law pm_law an_law cd_law ct_law), sl_law⟩)
    (c_law : PySem.W.codeIn K cd_law "law" = true)
    (k_law : PySem.W.keepIn K (.ref f_law) = true)
    (z_divmod : PySem.W.nsIn K mainGlobals "divmod" = some none)
    (z_int : PySem.W.nsIn K mainGlobals "int" = some none)
    (z_isinstance : PySem.W.nsIn K mainGlobals "isinstance" = some none)
    (z_len : PySem.W.nsIn K mainGlobals "len" = some none)
    (z_max : PySem.W.nsIn K mainGlobals "max" = some none)
    (z_min : PySem.W.nsIn K mainGlobals "min" = some none)
    (z_range : PySem.W.nsIn K mainGlobals "range" = some none)
    (z_str : PySem.W.nsIn K mainGlobals "str" = some none)
    (v_DIVIDER : PySem.W.nsIn K mainGlobals "DIVIDER" = some (some (.str (Str.ofString "--") t_DIVIDER)))
    (v_SWITCH : PySem.W.nsIn K mainGlobals "SWITCH" = some (some (.str (Str.ofString "-") t_SWITCH)))
    : ∃ fd : FuncData, (∀ (s : Shared) (v : Value), BindsTo s fd ⟨[v], []⟩ [("_law_script", v)]) ∧ ∀ base : Heap, K.In base → base.Ns mainGlobals mg → FnOk l.prog w K mg base CX0 4 fa fd ["_law_script"] (sp_law K) := by
  have e := hfa.symm.trans (PySem.W.mg_of X G a_law)
  cases e
  let T : Tx K mg := {
    a_kind_of := f_kind_of,
    fd_kind_of := _,
    F_kind_of := fun_mk (st := s_kind_of) l_kind_of c_kind_of k_kind_of,
    m_kind_of := PySem.W.mg_of X G a_kind_of,
    a_law_cell := f_law_cell,
    fd_law_cell := _,
    F_law_cell := fun_mk (st := s_law_cell) l_law_cell c_law_cell k_law_cell,
    m_law_cell := PySem.W.mg_of X G a_law_cell,
    a_law_pot := f_law_pot,
    fd_law_pot := _,
    F_law_pot := fun_mk (st := s_law_pot) l_law_pot c_law_pot k_law_pot,
    m_law_pot := PySem.W.mg_of X G a_law_pot,
    a_law_draw := f_law_draw,
    fd_law_draw := _,
    F_law_draw := fun_mk (st := s_law_draw) l_law_draw c_law_draw k_law_draw,
    m_law_draw := PySem.W.mg_of X G a_law_draw,
    a_law_signs := f_law_signs,
    fd_law_signs := _,
    F_law_signs := fun_mk (st := s_law_signs) l_law_signs c_law_signs k_law_signs,
    m_law_signs := PySem.W.mg_of X G a_law_signs,
    a_law_text := f_law_text,
    fd_law_text := _,
    F_law_text := fun_mk (st := s_law_text) l_law_text c_law_text k_law_text,
    m_law_text := PySem.W.mg_of X G a_law_text,
    a_law_word := f_law_word,
    fd_law_word := _,
    F_law_word := fun_mk (st := s_law_word) l_law_word c_law_word k_law_word,
    m_law_word := PySem.W.mg_of X G a_law_word,
    a_law_kind := f_law_kind,
    fd_law_kind := _,
    F_law_kind := fun_mk (st := s_law_kind) l_law_kind c_law_kind k_law_kind,
    m_law_kind := PySem.W.mg_of X G a_law_kind,
    a_law := fa,
    fd_law := _,
    F_law := fun_mk (st := s_law) l_law c_law k_law,
    m_law := PySem.W.mg_of X G a_law,
    n_divmod := PySem.W.mg_none_of X G z_divmod,
    n_int := PySem.W.mg_none_of X G z_int,
    n_isinstance := PySem.W.mg_none_of X G z_isinstance,
    n_len := PySem.W.mg_none_of X G z_len,
    n_max := PySem.W.mg_none_of X G z_max,
    n_min := PySem.W.mg_none_of X G z_min,
    n_range := PySem.W.mg_none_of X G z_range,
    n_str := PySem.W.mg_none_of X G z_str,
    c_DIVIDER := ⟨_, PySem.W.mg_of X G v_DIVIDER⟩,
    c_SWITCH := ⟨_, PySem.W.mg_of X G v_SWITCH⟩ }
  exact ⟨PySem.W.fnOf "law" "law" (defArgs s_law) (defBody s_law) (defScope s_law) .none kV_law dc_law pm_law an_law cd_law ct_law, fun s v => .of_eq rfl, fun base _ _ => ok_law (P := l.prog) (w := w) (base := base) T⟩
end Wb
open PySem PySem.W PyProof.Rows
set_option maxHeartbeats 0 in
theorem PySem.Challenge.cw_wordbench_k21_kinds_of_words_holds : PySem.Challenge.rw_wordbench_k21_kinds_of_words.Holds := by
  w_on; o_law; k_head; (case hw => w_witness2)
  k_fill
  refine L2.walk_of (l := PySem.Challenge.rw_wordbench_k21_kinds_of_words) (n := 63) (k := 4) (x := "_law_script") (CX := fun _ => L2.CX0) (sp := fun w => Wb.sp_law _) rfl (by decide) rfl ⟨rfl, by decide, by decide⟩ (fun w h Y => PySem.W.kIn_of Y) ?F (fun _ H a ns hl _ hS => Wb.law_start hl hS) (fun _ _ _ _ _ h => h)
  case F =>
    intro w mg fa h KX G hmg
    refine' Wb.all_mk KX G hmg ?a_kind_of ?l_kind_of ?c_kind_of ?k_kind_of ?a_law_cell ?l_law_cell ?c_law_cell ?k_law_cell ?a_law_pot ?l_law_pot ?c_law_pot ?k_law_pot ?a_law_draw ?l_law_draw ?c_law_draw ?k_law_draw ?a_law_signs ?l_law_signs ?c_law_signs ?k_law_signs ?a_law_text ?l_law_text ?c_law_text ?k_law_text ?a_law_word ?l_law_word ?c_law_word ?k_law_word ?a_law_kind ?l_law_kind ?c_law_kind ?k_law_kind ?a_law ?l_law ?c_law ?k_law ?z_divmod ?z_int ?z_isinstance ?z_len ?z_max ?z_min ?z_range ?z_str ?v_DIVIDER ?v_SWITCH
    (case a_kind_of => k_is); (case l_kind_of => k_is); (case c_kind_of => k_is); (case k_kind_of => k_is); (case a_law_cell => k_is); (case l_law_cell => k_is); (case c_law_cell => k_is); (case k_law_cell => k_is); (case a_law_pot => k_is); (case l_law_pot => k_is); (case c_law_pot => k_is); (case k_law_pot => k_is); (case a_law_draw => k_is); (case l_law_draw => k_is); (case c_law_draw => k_is); (case k_law_draw => k_is); (case a_law_signs => k_is); (case l_law_signs => k_is); (case c_law_signs => k_is); (case k_law_signs => k_is); (case a_law_text => k_is); (case l_law_text => k_is); (case c_law_text => k_is); (case k_law_text => k_is); (case a_law_word => k_is); (case l_law_word => k_is); (case c_law_word => k_is); (case k_law_word => k_is); (case a_law_kind => k_is); (case l_law_kind => k_is); (case c_law_kind => k_is); (case k_law_kind => k_is); (case a_law => k_is); (case l_law => k_is); (case c_law => k_is); (case k_law => k_is); (case z_divmod => k_is); (case z_int => k_is); (case z_isinstance => k_is); (case z_len => k_is); (case z_max => k_is); (case z_min => k_is); (case z_range => k_is); (case z_str => k_is); (case v_DIVIDER => k_is); (case v_SWITCH => k_is)

