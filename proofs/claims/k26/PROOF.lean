import PyProof.Rows.All
import Wide.All
import OpenK.AllK
import Wide.FinOn
import HandS.ForMost
import HandS.IsInst
import HandS.Style
import HandS.Exc
import HandS.ExcOwn
import HandS.TryOnly
import HandS.TryMany
import HandS.ExcInit
import HandS.ExcField
import HandS.CallSlots
import HandS.CallLocal
import HandS.Defaults
import HandS.WordsExc
import HandS.ClsMeth
import KE.KExcIs
import HandS.StrMore
import HandS.RaiseMore
import HandS.Walk
import HandS.Dict
import KE.RegKTryMore
import KE.RegKIsAll
import HandS.MakeKw
import HandS.Replace
import HandS.ReplaceLit
import PyProof.ToksMono
import HandS.HotCalls
import PyProof.ReprReads
import PyProof.CallFns
import PyProof.Rows.NestShow
import HandS.Ends
import HandS.Finally
import HandS.More
import PyProof.MeetsStr3
import HandS.Nested
import HandS.ExcCtx
import HandS.IntHex
import HandS.EndTab
import HandS.OwnEq
import HandS.FStr
import Wide.Head
import Open.Head
import Open.Line
import OpenK.KLine
import HandS.ReplaceList
import PyProof.Rows.StrDouble
import KE.DataMinMax
import HandS.SortKw
import PySem.Challenge.RW_wordbench_k26_whole_texts_read_or_not
set_option Elab.async false
set_option linter.all false
set_option maxRecDepth 100000
/-! the generic layer -/
namespace Wb
open PySem PySem.Spec PyProof.Rows L2

/-- the frozen part of a heap: all but the addresses of B -/
def hid (B : List Addr) (H : Hp) : Hp := fun a => if a ∈ B then none else H a
/-- all that stood stands -/
def Ex (H H' : Hp) : Prop := ∀ a o, H a = some o → H' a = some o
theorem Ex.refl (H : Hp) : Ex H H := fun _ _ h => h
theorem Ex.trans {H H1 H2 : Hp} (a : Ex H H1) (b : Ex H1 H2) : Ex H H2 := fun x o h => b x o (a x o h)
theorem Ex.new {H : Hp} {p : Addr} {o : HO} (h : H p = none) : Ex H (upd H p o) := fun a u e => by
  rw [upd_ne (ne_of_none e h)]
  exact e
theorem ex_rd {H H' : Hp} {a : Addr} {u : HO} (e : Ex H H') (h : Rd H a u) : Rd H' a u := by
  rcases h with h | ⟨o, h⟩
  · exact Or.inl (e a _ h)
  · exact Or.inr ⟨o, e a _ h⟩
theorem ex_l {K : PySem.W.Frag} {H H' : Hp} {a : Addr} {xs : List V} (e : Ex H H') (h : SqL K H a xs) : SqL K H' a xs := by
  rcases h with h | h
  · exact Or.inl (ex_rd e h)
  · exact Or.inr h
theorem ex_t {K : PySem.W.Frag} {H H' : Hp} {a : Addr} {xs : List V} (e : Ex H H') (h : SqT K H a xs) : SqT K H' a xs := by
  rcases h with h | h
  · exact Or.inl (ex_rd e h)
  · exact Or.inr h
theorem hid_le (B : List Addr) (H : Hp) : Ex (hid B H) H := fun a o h => by
  unfold hid at h
  by_cases e : a ∈ B
  · rw [if_pos e] at h; cases h
  · rw [if_neg e] at h; exact h
theorem hid_out {B : List Addr} {H : Hp} {a : Addr} (e : a ∉ B) : hid B H a = H a := by
  unfold hid; rw [if_neg e]
theorem hid_in {B : List Addr} {H : Hp} {a : Addr} (e : a ∈ B) : hid B H a = none := by
  unfold hid; rw [if_pos e]
theorem hid_nil (H : Hp) : hid [] H = H := by
  funext a; exact hid_out (by simp)
/-- more hidden is less -/
theorem hid_sub {B B' : List Addr} {H : Hp} (h : ∀ a ∈ B, a ∈ B') : Ex (hid B' H) (hid B H) := fun a o e => by
  by_cases q : a ∈ B'
  · rw [hid_in q] at e; cases e
  · rw [hid_out q] at e
    rw [hid_out fun z => q (h a z)]
    exact e
/-- what changes at most the addresses of B' ⊆ B -/
theorem ex_hid {B B' : List Addr} {H H' : Hp} (h : ∀ a ∈ B', a ∈ B) (e : Ex (hid B' H) (hid B' H')) : Ex (hid B H) (hid B H') := fun a o q => by
  by_cases z : a ∈ B
  · rw [hid_in z] at q; cases q
  · rw [hid_out z] at q
    have z' : a ∉ B' := fun y => z (h a y)
    have := e a o (by rw [hid_out z']; exact q)
    rw [hid_out z'] at this
    rw [hid_out z]; exact this
theorem ex_hid0 {B : List Addr} {H H' : Hp} (e : Ex H H') : Ex (hid B H) (hid B H') :=
  ex_hid (B' := []) (by simp) (by rw [hid_nil, hid_nil]; exact e)

mutual
theorem dp_ex {K : PySem.W.Frag} {H H' : Hp} (e : Ex H H') : ∀ {d : PyData} {v : V}, Dp K H v d → Dp K H' v d
  | .none, _, h => by cases h; exact .non
  | .bool b, _, h => by cases h; exact .bl b
  | .int i, _, h => by cases h; exact .int i
  | .str x, _, h => by cases h; exact .str x
  | .list ds, _, h => by cases h with | lst hs ha => exact .lst (ex_l e hs) (dp_exA e ha)
  | .tuple ds, _, h => by cases h with | tup hs ha => exact .tup (ex_t e hs) (dp_exA e ha)
  | .dict _, _, h => by cases h
theorem dp_exA {K : PySem.W.Frag} {H H' : Hp} (e : Ex H H') : ∀ {ds : List PyData} {vs : List V}, DpAll K H vs ds → DpAll K H' vs ds
  | [], _, h => by cases h; exact .nil
  | d :: ds, _, h => by cases h with | cons h1 h2 => exact .cons (dp_ex e h1) (dp_exA e h2)
end
theorem DpAll.length {K : PySem.W.Frag} {H : Hp} : ∀ {ds : List PyData} {vs : List V}, DpAll K H vs ds → vs.length = ds.length
  | [], _, h => by cases h; rfl
  | d :: ds, _, h => by cases h with | cons h1 h2 => simp [DpAll.length h2]
theorem DpAll.get {K : PySem.W.Frag} {H : Hp} : ∀ {ds : List PyData} {vs : List V} {i : Nat} {d : PyData}, DpAll K H vs ds → ds[i]? = some d → ∃ v, vs[i]? = some v ∧ Dp K H v d
  | [], _, i, d, h, e => by simp at e
  | d :: ds, _, 0, d', h, e => by cases h with | cons h1 h2 => simp at e; subst e; exact ⟨_, rfl, h1⟩
  | d :: ds, _, i + 1, d', h, e => by
    cases h with
    | cons h1 h2 =>
      obtain ⟨v, a, b⟩ := DpAll.get h2 (by simpa using e)
      exact ⟨v, by simpa using a, b⟩
theorem DpAll.app {K : PySem.W.Frag} {H : Hp} {d : PyData} {v : V} (q : Dp K H v d) : ∀ {ds : List PyData} {vs : List V}, DpAll K H vs ds → DpAll K H (vs ++ [v]) (ds ++ [d])
  | [], _, h => by cases h; exact .cons q .nil
  | d :: ds, _, h => by cases h with | cons h1 h2 => exact .cons h1 (DpAll.app q h2)
theorem DpAll.append {K : PySem.W.Frag} {H : Hp} : ∀ {ds es : List PyData} {vs us : List V}, DpAll K H vs ds → DpAll K H us es → DpAll K H (vs ++ us) (ds ++ es)
  | [], _, _, _, h, q => by cases h; exact q
  | d :: ds, _, _, _, h, q => by cases h with | cons h1 h2 => exact .cons h1 (DpAll.append h2 q)
theorem dpall_strs {K : PySem.W.Frag} {H : Hp} : ∀ xs : List Str, DpAll K H (xs.map V.str) (xs.map PyData.str)
  | [] => .nil
  | x :: xs => .cons (.str x) (dpall_strs xs)
theorem dpall_strs_inv {K : PySem.W.Frag} {H : Hp} : ∀ {xs : List Str} {vs : List V}, DpAll K H vs (xs.map PyData.str) → vs = xs.map V.str
  | [], _, h => by cases h; rfl
  | x :: xs, _, h => by
    cases h with
    | cons h1 h2 =>
      cases h1
      rw [dpall_strs_inv h2]; rfl
theorem dpall_ints {K : PySem.W.Frag} {H : Hp} : ∀ xs : List Int, DpAll K H (xs.map V.int) (xs.map PyData.int)
  | [] => .nil
  | x :: xs => .cons (.int x) (dpall_ints xs)
theorem dpall_ints_inv {K : PySem.W.Frag} {H : Hp} : ∀ {xs : List Int} {vs : List V}, DpAll K H vs (xs.map PyData.int) → vs = xs.map V.int
  | [], _, h => by cases h; rfl
  | x :: xs, _, h => by
    cases h with
    | cons h1 h2 =>
      cases h1
      rw [dpall_ints_inv h2]; rfl

/-- what is known at a heap: the values of L bear their data, off the addresses of B (which are tracked) -/
structure Ctx (K : PySem.W.Frag) (B : List Addr) (H : Hp) (L : List (PyData × V)) : Prop where
  dat : ∀ q ∈ L, Dp K (hid B H) q.2 q.1
  trk : ∀ b ∈ B, H b ≠ none
section
variable {K : PySem.W.Frag} {B B' : List Addr} {H H' : Hp} {L L' : List (PyData × V)} {d : PyData} {v : V} {p : Addr} {o : HO}
theorem Ctx.get (C : Ctx K B H L) (h : (d, v) ∈ L) : Dp K (hid B H) v d := C.dat _ h
theorem Ctx.nil : Ctx K [] H [] := ⟨fun _ h => (nomatch h), fun _ h => (nomatch h)⟩
theorem Ctx.add (C : Ctx K B H L) (h : Dp K (hid B H) v d) : Ctx K B H ((d, v) :: L) := ⟨fun q z => by
  rcases List.mem_cons.mp z with rfl | z
  · exact h
  · exact C.dat q z, C.trk⟩
theorem Ctx.sub (C : Ctx K B H L) (h : ∀ q ∈ L', q ∈ L) : Ctx K B H L' := ⟨fun q z => C.dat q (h q z), C.trk⟩
/-- a heap in which at most B' ⊆ B changed -/
theorem Ctx.to (C : Ctx K B H L) (h : ∀ a ∈ B', a ∈ B) (e : Ex (hid B' H) (hid B' H')) (t : ∀ b ∈ B, H' b ≠ none) : Ctx K B H' L :=
  ⟨fun q z => dp_ex (ex_hid h e) (C.dat q z), t⟩
theorem Ctx.up (C : Ctx K B H L) (e : Ex H H') : Ctx K B H' L :=
  ⟨fun q z => dp_ex (ex_hid0 e) (C.dat q z), fun b hb z => by
    cases q : H b with
    | none => exact C.trk b hb q
    | some o => rw [e b o q] at z; cases z⟩
theorem Ctx.new (C : Ctx K B H L) (h : H p = none) : Ctx K B (upd H p o) L := C.up (Ex.new h)
theorem Ctx.notin (C : Ctx K B H L) (h : H p = none) : p ∉ B := fun z => C.trk p z h
/-- a new object, hidden from now on -/
theorem Ctx.own (C : Ctx K B H L) (h : H p = none) : Ctx K (p :: B) (upd H p o) L := ⟨fun q z => by
    refine dp_ex ?_ (C.dat q z)
    intro a u e
    have h1 := hid_le B H a u e
    have h2 : a ≠ p := ne_of_none h1 h
    have h3 : a ∉ B := fun y => by rw [hid_in y] at e; cases e
    rw [hid_out (by simp [h2, h3]), upd_ne h2]
    exact h1, fun b hb => by
    by_cases e : b = p
    · subst e; rw [upd_same]; simp
    · rw [upd_ne e]
      rcases List.mem_cons.mp hb with z | z
      · exact absurd z e
      · exact C.trk b z⟩
/-- the same over any heap in which p is new -/
theorem Ctx.own' (C : Ctx K B H L) (h : H p = none) (e : Ex H H') (h' : H' p ≠ none) : Ctx K (p :: B) H' L := ⟨fun q z => by
    refine dp_ex ?_ (C.dat q z)
    intro a u e1
    have h1 := hid_le B H a u e1
    have h2 : a ≠ p := ne_of_none h1 h
    have h3 : a ∉ B := fun y => by rw [hid_in y] at e1; cases e1
    rw [hid_out (by simp [h2, h3])]
    exact e a u h1, fun b hb => by
    rcases List.mem_cons.mp hb with rfl | z
    · exact h'
    · exact (C.up e).trk b z⟩
/-- a hidden one is written -/
theorem Ctx.mut (C : Ctx K B H L) (h : p ∈ B) : Ctx K B (upd H p o) L := ⟨fun q z => by
    refine dp_ex ?_ (C.dat q z)
    intro a u e
    have h3 : a ∉ B := fun y => by rw [hid_in y] at e; cases e
    have h2 : a ≠ p := fun y => h3 (y ▸ h)
    rw [hid_out h3, upd_ne h2]
    rw [hid_out h3] at e
    exact e, fun b hb => by
    by_cases e : b = p
    · subst e; rw [upd_same]; simp
    · rw [upd_ne e]; exact C.trk b hb⟩
/-- a hidden list is frozen -/
theorem Ctx.freeze {xs : List V} {ds : List PyData} (C : Ctx K (p :: B) H L) (n : p ∉ B) (h : H p = some (.lst xs)) (a : DpAll K (hid (p :: B) H) xs ds) : Ctx K B H ((.list ds, .ref p) :: L) := ⟨fun q z => by
    have s : Ex (hid (p :: B) H) (hid B H) := hid_sub fun a h => List.mem_cons_of_mem _ h
    rcases List.mem_cons.mp z with rfl | z
    · exact .lst (.inl (.inl (by rw [hid_out n]; exact h))) (dp_exA s a)
    · exact dp_ex s (C.dat q z), fun b hb => C.trk b (List.mem_cons_of_mem _ hb)⟩
theorem Ctx.drop (C : Ctx K (p :: B) H L) : Ctx K B H L := ⟨fun q z => by
    have s : Ex (hid (p :: B) H) (hid B H) := hid_sub fun a h => List.mem_cons_of_mem _ h
    exact dp_ex s (C.dat q z), fun b hb => C.trk b (List.mem_cons_of_mem _ hb)⟩
/-- a new list of known things -/
theorem Ctx.lst {xs : List V} {ds : List PyData} (C : Ctx K B H L) (h : H p = none) (a : DpAll K (hid B H) xs ds) : Ctx K B (upd H p (.lst xs)) ((.list ds, .ref p) :: L) :=
  (C.new h).add (.lst (.inl (.inl (by rw [hid_out (C.notin h)]; exact upd_same))) (dp_exA (ex_hid0 (Ex.new h)) a))
theorem Ctx.tup {xs : List V} {ds : List PyData} (C : Ctx K B H L) (h : H p = none) (a : DpAll K (hid B H) xs ds) : Ctx K B (upd H p (.tup xs)) ((.tuple ds, .ref p) :: L) :=
  (C.new h).add (.tup (.inl (.inl (by rw [hid_out (C.notin h)]; exact upd_same))) (dp_exA (ex_hid0 (Ex.new h)) a))
end
end Wb

set_option Elab.async false
set_option linter.all false
set_option maxRecDepth 100000
namespace Wb
open PySem PySem.Spec PyProof.Rows L2

/-! ### operators by the values' kinds -/
def rAddP : R2 := fun x y H Q => match x, y with
  | .int i, .int j => Q (.int (i + j)) H
  | .str a, .str b => a.length + b.length ≤ sizeLine ∧ Q (.str (a ++ b)) H
  | .ref l, .ref b => rCat (.ref l) (.ref b) H Q
  | _, _ => False
def rI2 (g : Int → Int → V) : R2 := fun x y H Q => match x, y with
  | .int i, .int j => Q (g i j) H
  | _, _ => False
def rIC (C : Int → Int → Prop) (g : Int → Int → V) : R2 := fun x y H Q => match x, y with
  | .int i, .int j => C i j ∧ Q (g i j) H
  | _, _ => False
def rEqP (K : PySem.W.Frag) : R2 := fun x y H Q => match x, y with
  | .int i, .int j => Q (.bl (decide (i = j))) H
  | .str i, .str j => Q (.bl (decide (i = j))) H
  | .bl i, .bl j => Q (.bl (decide (i = j))) H
  | .non, .non => Q (.bl true) H
  | .non, .str _ => Q (.bl false) H
  | .str _, .non => Q (.bl false) H
  | .non, .int _ => Q (.bl false) H
  | .int _, .non => Q (.bl false) H
  | .int _, .str _ => Q (.bl false) H
  | .str _, .int _ => Q (.bl false) H
  | x, y => rEqD K x y H Q
def rNeP (K : PySem.W.Frag) : R2 := fun x y H Q => match x, y with
  | .int i, .int j => Q (.bl (!decide (i = j))) H
  | .str i, .str j => Q (.bl (!decide (i = j))) H
  | .bl i, .bl j => Q (.bl (!decide (i = j))) H
  | .non, .non => Q (.bl false) H
  | .non, .str _ => Q (.bl true) H
  | .str _, .non => Q (.bl true) H
  | .non, .int _ => Q (.bl true) H
  | .int _, .non => Q (.bl true) H
  | .int _, .str _ => Q (.bl true) H
  | .str _, .int _ => Q (.bl true) H
  | x, y => rNeD K x y H Q
/-- in, not in: a text in a text, a thing in a list or tuple of flat things -/
def rInP (K : PySem.W.Frag) (neg : Bool) : R2 := fun x y H Q => match x, y with
  | .str i, .str j => Q (.bl (if neg then !(!(Builtin.Str.occurrences j i 0 j.length 1).isEmpty) else !(Builtin.Str.occurrences j i 0 j.length 1).isEmpty)) H
  | x, y => rIn K neg x y H Q
section
variable {X : Cx}
theorem op_addP : OpR X (binaryOp .Add) rAddP := by
  intro pins s σ H x y v u Q I rx ry h
  cases x <;> cases y <;> first
    | exact op_add pins s σ H _ _ v u Q I rx ry ⟨_, _, rfl, rfl, h⟩
    | exact op_add_str pins s σ H _ _ v u Q I rx ry ⟨_, _, rfl, rfl, h⟩
    | exact op_cat pins s σ H _ _ v u Q I rx ry h
    | exact False.elim h
theorem op_i2 {op : Operator} {g : Int → Int → V} (r : OpR X (binaryOp op) (rI0 g)) : OpR X (binaryOp op) (rI2 g) := by
  intro pins s σ H x y v u Q I rx ry h
  cases x <;> cases y <;> first
    | exact r pins s σ H _ _ v u Q I rx ry ⟨_, _, rfl, rfl, h⟩
    | exact False.elim h
theorem op_ic {op : Operator} {C : Int → Int → Prop} {g : Int → Int → V} (r : OpR X (binaryOp op) (rI C g)) : OpR X (binaryOp op) (rIC C g) := by
  intro pins s σ H x y v u Q I rx ry h
  cases x <;> cases y <;> first
    | exact r pins s σ H _ _ v u Q I rx ry ⟨_, _, rfl, rfl, h⟩
    | exact False.elim h
theorem cp_i2 {op : CmpOp} {g : Int → Int → V} (r : OpR X (compareOp op) (rI0 g)) : OpR X (compareOp op) (rI2 g) := by
  intro pins s σ H x y v u Q I rx ry h
  cases x <;> cases y <;> first
    | exact r pins s σ H _ _ v u Q I rx ry ⟨_, _, rfl, rfl, h⟩
    | exact False.elim h
theorem op_eqP {K : PySem.W.Frag} (hK : X.K = K) (hu : X.A.units + 64 < cLine) : OpR X (compareOp .Eq) (rEqP K) := by
  subst hK
  intro pins s σ H x y v u Q I rx ry h
  have sc : ∀ b, scal x y = true → decide (x = y) = b → Q (.bl b) H → wpAny (model X.prog X.w) X.A (compareOp .Eq v u) (EP X pins σ Q) X.xe s :=
    fun b s1 e q => op_eq pins s σ H _ _ v u Q I rx ry ⟨s1, by rw [e]; exact q⟩
  have eD : rEqD X.K x y H Q → wpAny (model X.prog X.w) X.A (compareOp .Eq v u) (EP X pins σ Q) X.xe s := op_eqD hu pins s σ H x y v u Q I rx ry
  cases x <;> cases y <;> first
    | exact eD h
    | exact sc _ rfl (by simp) h
theorem op_neP {K : PySem.W.Frag} (hK : X.K = K) (hu : X.A.units + 64 < cLine) : OpR X (compareOp .NotEq) (rNeP K) := by
  subst hK
  intro pins s σ H x y v u Q I rx ry h
  have sc : ∀ b, scal x y = true → (!decide (x = y)) = b → Q (.bl b) H → wpAny (model X.prog X.w) X.A (compareOp .NotEq v u) (EP X pins σ Q) X.xe s :=
    fun b s1 e q => op_ne pins s σ H _ _ v u Q I rx ry ⟨s1, by rw [e]; exact q⟩
  have eD : rNeD X.K x y H Q → wpAny (model X.prog X.w) X.A (compareOp .NotEq v u) (EP X pins σ Q) X.xe s := op_neD hu pins s σ H x y v u Q I rx ry
  cases x <;> cases y <;> first
    | exact eD h
    | exact sc _ rfl (by simp) h
theorem op_inP {K : PySem.W.Frag} (hK : X.K = K) : OpR X (compareOp .In) (rInP K false) := by
  subst hK
  intro pins s σ H x y v u Q I rx ry h
  have eD : rIn X.K false x y H Q → wpAny (model X.prog X.w) X.A (compareOp .In v u) (EP X pins σ Q) X.xe s := op_in_seq pins s σ H x y v u Q I rx ry
  cases x <;> cases y <;> first
    | exact eD h
    | exact op_in_str pins s σ H _ _ v u Q I rx ry ⟨_, _, rfl, rfl, h⟩
theorem op_notinP {K : PySem.W.Frag} (hK : X.K = K) : OpR X (compareOp .NotIn) (rInP K true) := by
  subst hK
  intro pins s σ H x y v u Q I rx ry h
  have eD : rIn X.K true x y H Q → wpAny (model X.prog X.w) X.A (compareOp .NotIn v u) (EP X pins σ Q) X.xe s := op_notIn_seq pins s σ H x y v u Q I rx ry
  cases x <;> cases y <;> first
    | exact eD h
    | exact op_notin_str pins s σ H _ _ v u Q I rx ry ⟨_, _, rfl, rfl, h⟩
end
/-- a[i] by kinds -/
def rIxP (K : PySem.W.Frag) : R2 := fun x y H Q => match x, y with
  | .str z, .int i => z.length ≤ sizeLine ∧ ∃ c, atI z.cps.toList i = some c ∧ Q (.str ⟨#[c]⟩) H
  | .ref p, .int i => ∃ xs v, (SqL K H p xs ∨ SqT K H p xs) ∧ atI xs i = some v ∧ Q v H
  | _, _ => False
def rSlP (K : PySem.W.Frag) : V → Option Int → Option Int → Hp → VK → Prop := fun x lo hi H Q => match x with
  | .str z => z.length ≤ sizeLine ∧ Q (.str (cutS z lo hi)) H
  | .ref a => rSlL K (.ref a) lo hi H Q ∨ rSlT K (.ref a) lo hi H Q
  | _ => False
section
variable {X : Cx}
theorem ix_P {K : PySem.W.Frag} (hK : X.K = K) : IxR X (rIxP K) := by
  subst hK
  intro va sl pins s σ H x y v u Q I rx ry h hs
  cases x <;> cases y <;> first
    | exact False.elim h
    | (obtain ⟨a, c, b, q⟩ := h; exact ix_str va sl pins s σ H _ _ v u Q I rx ry ⟨_, _, _, rfl, rfl, a, b, q⟩ hs)
    | (obtain ⟨xs, w, a | a, b, q⟩ := h
       · exact ix_list va sl pins s σ H _ _ v u Q I rx ry ⟨_, _, _, _, rfl, rfl, a, b, q⟩ hs
       · exact ix_tup va sl pins s σ H _ _ v u Q I rx ry ⟨_, _, _, _, rfl, rfl, a, b, q⟩ hs)
theorem sl_P {K : PySem.W.Frag} (hK : X.K = K) : SlR X (rSlP K) := by
  subst hK
  intro pins s σ H x v vl vu lo hi sl Q I rx h1 h2 h3 h
  cases x with
  | str z => exact sl_str pins s σ H _ v vl vu lo hi sl Q I rx h1 h2 h3 ⟨z, rfl, h⟩
  | ref a =>
    rcases h with h | h
    · exact sl_list pins s σ H _ v vl vu lo hi sl Q I rx h1 h2 h3 h
    · exact sl_tup pins s σ H _ v vl vu lo hi sl Q I rx h1 h2 h3 h
  | _ => exact False.elim h
/-- the calls of built-in functions, by kinds of their arguments -/
def rLenP (K : PySem.W.Frag) : List V → Hp → VK → Prop := fun xs H Q => match xs with
  | [x] => ∃ n, LenV K x H n ∧ Q (.int n) H
  | _ => False
theorem call_lenP {K : PySem.W.Frag} (hK : X.K = K) : CallR X (.builtin "len") (rLenP K) := by
  subst hK
  intro pins s σ H xs us Q I r h
  match xs, h with
  | [x], ⟨n, a, q⟩ => exact call_len pins s σ H _ us Q I r ⟨x, n, rfl, a, q⟩
def rMax2P : List V → Hp → VK → Prop := fun xs H Q => match xs with
  | [.int i, .int j] => Q (.int (max i j)) H
  | _ => False
theorem call_max2P (hc : X.calm = true) : CallR X (.builtin "max") rMax2P := by
  intro pins s σ H xs us Q I r h
  unfold rMax2P at h
  split at h
  · rename_i i j
    refine call_max2 hc pins s σ H _ us Q I r ⟨i, j, rfl, ?_⟩
    have e : (if j > i then j else i) = max i j := by
      by_cases z : j > i
      · rw [if_pos z]; omega
      · rw [if_neg z]; omega
    rw [e]; exact h
  · exact h.elim
def rMin2P : List V → Hp → VK → Prop := fun xs H Q => match xs with
  | [.int i, .int j] => Q (.int (min i j)) H
  | _ => False
theorem call_min2P (hc : X.calm = true) : CallR X (.builtin "min") rMin2P := by
  intro pins s σ H xs us Q I r h
  unfold rMin2P at h
  split at h
  · rename_i i j
    refine call_min2 hc pins s σ H _ us Q I r ⟨i, j, rfl, ?_⟩
    have e : (if j < i then j else i) = min i j := by
      by_cases z : j < i
      · rw [if_pos z]; omega
      · rw [if_neg z]; omega
    rw [e]; exact h
  · exact h.elim
def rInt1P : List V → Hp → VK → Prop := fun xs H Q => match xs with
  | [.int i] => Q (.int i) H
  | [.bl k] => Q (.int (if k then 1 else 0)) H
  | [.str a] => ∃ n, PySem.intText? a = some n ∧ a.length ≤ 640 ∧ Q (.int n) H
  | _ => False
theorem call_intP : CallR X (.type "int") rInt1P := by
  intro pins s σ H xs us Q I r h
  unfold rInt1P at h
  split at h
  · exact call_int1 pins s σ H _ us Q I r (.inl ⟨_, rfl, h⟩)
  · exact call_int1 pins s σ H _ us Q I r (.inr ⟨_, rfl, h⟩)
  · obtain ⟨n, a, b, q⟩ := h
    exact call_int_str pins s σ H _ us Q I r ⟨_, n, rfl, a, b, q⟩
  · exact h.elim
end

/-! ### steps of a reading -/
section
variable {X : Cx} {K : PySem.W.Frag} {σ : L2.St} {H : Hp} {Q : VK} {QT : Bool → Hp → Prop} {QA : List V → Hp → Prop} {ta tb te : TE} {t u : TT} {tA : TA} {r : R2} {v x y : V} {D : Ends} {ts us : TS}
theorem w_var {i : Nat} (h : σ[i]? = some (some v)) (q : Q v H) : tVar i σ H Q := ⟨v, h, q⟩
theorem w_c (q : Q v H) : tC v σ H Q := q
theorem w_op (q : ta σ H fun x H1 => tb σ H1 fun y H2 => r x y H2 Q) : tOp r ta tb σ H Q := q
theorem w_un {ru : V → Hp → VK → Prop} (q : ta σ H fun x H1 => ru x H1 Q) : tUn ru ta σ H Q := q
theorem w_neg {i : Int} (q : Q (.int (-i)) H) : (rU fun i => .int (-i)) (.int i) H Q := ⟨i, rfl, q⟩
theorem w_test (q : ta σ H fun x H' => ∃ k, x = .bl k ∧ QT k H') : tTest ta σ H QT := q
theorem w_tB (q : ta σ H fun x H' => ∃ k, x = .bl k ∧ QT k H') : tB ta σ H QT := q
theorem w_bl {k : Bool} {P : Bool → Prop} (q : P k) : ∃ k', V.bl k = .bl k' ∧ P k' := ⟨k, rfl, q⟩
theorem w_and (q : t σ H fun c H1 => if c = true then u σ H1 QT else QT false H1) : tAnd t u σ H QT := q
theorem w_or (q : t σ H fun c H1 => if c = true then QT true H1 else u σ H1 QT) : tOr t u σ H QT := q
theorem w_not (q : t σ H fun c H1 => QT (!c) H1) : tNot t σ H QT := q
theorem w_andV (q : ta σ H fun x H1 => ∃ c, x = .bl c ∧ if c = true then tb σ H1 Q else Q (.bl false) H1) : tAndV ta tb σ H Q := q
theorem w_orV (q : ta σ H fun x H1 => ∃ c, x = .bl c ∧ if c = true then Q (.bl true) H1 else tb σ H1 Q) : tOrV ta tb σ H Q := q
theorem w_notV (q : ta σ H fun x H1 => ∃ c, x = .bl c ∧ Q (.bl (!c)) H1) : tNotV ta σ H Q := q
theorem w_if (q : t σ H fun c H1 => if c = true then ta σ H1 Q else tb σ H1 Q) : tIf t ta tb σ H Q := q
theorem w_chain {r r' : R2} {tc : TE} (q : ta σ H fun x H1 => tb σ H1 fun y H2 => r x y H2 fun z H3 => ∃ k, z = .bl k ∧ (if k = true then tc σ H3 fun w' H4 => r' y w' H4 Q else Q (.bl false) H3)) : tChain r r' ta tb tc σ H Q := q
theorem w_nil (q : QA [] H) : tNil σ H QA := q
theorem w_cons (q : ta σ H fun x H1 => tA σ H1 fun xs H2 => QA (x :: xs) H2) : tCons ta tA σ H QA := q
theorem w_tup (q : tA σ H fun xs H1 => xs.length ≤ sizeLine ∧ ∀ p, H1 p = none → Q (.ref p) (upd H1 p (.tup xs))) : tTup tA σ H Q := q
theorem w_lst (q : tA σ H fun xs H1 => xs.length ≤ sizeLine ∧ ∀ p, H1 p = none → Q (.ref p) (upd H1 p (.lst xs))) : tLst tA σ H Q := q
theorem w_cb {rc : List V → Hp → VK → Prop} (q : tA σ H fun vs H1 => rc vs H1 Q) : tCB rc tA σ H Q := q
theorem w_call {sp : Sp} {dvs : List V} {E : XK} (q : tA σ H fun vs H1 => sp (vs ++ dvs) H1 Q E) : tCall sp dvs E tA σ H Q := q
theorem w_bm {T : String} {rm : V → List V → Hp → VK → Prop} (q : ta σ H fun x H1 => tyV K T x H1 ∧ tA σ H1 fun xs H2 => rm x xs H2 Q) : tBM K T rm ta tA σ H Q := q
theorem w_bm0 {T : String} {rm : V → List V → Hp → VK → Prop} (q : ta σ H fun x H1 => tyV K T x H1 ∧ rm x [] H1 Q) : tBM0 K T rm ta σ H Q := q
theorem w_m0 {rm : V → List V → Hp → VK → Prop} (q : ta σ H fun x H1 => (∃ a, x = .str a) ∧ rm x [] H1 Q) : tM0 rm ta σ H Q := q
theorem w_m1 {rm : V → List V → Hp → VK → Prop} (q : ta σ H fun x H1 => (∃ a, x = .str a) ∧ te σ H1 fun y H2 => rm x [y] H2 Q) : tM1 rm ta te σ H Q := q
theorem w_tyS {a : Str} {P : Prop} (q : P) : (∃ b, V.str a = .str b) ∧ P := ⟨⟨a, rfl⟩, q⟩
theorem w_sl {rs : V → Option Int → Option Int → Hp → VK → Prop} {tl th : TO} (q : ta σ H fun x H1 => tl σ H1 fun l H2 => th σ H2 fun u H3 => rs x l u H3 Q) : tSl rs ta tl th σ H Q := q
theorem w_nopart {QO : Option Int → Hp → Prop} (q : QO none H) : tNoPart σ H QO := q
theorem w_part {QO : Option Int → Hp → Prop} (q : ta σ H fun x H1 => ∃ i, x = .int i ∧ QO (some i) H1) : tPart ta σ H QO := q
theorem w_partI {i : Int} {P : Int → Prop} (q : P i) : ∃ j, V.int i = .int j ∧ P j := ⟨i, rfl, q⟩
theorem w_seq (q : ts { D with nx := us D } σ H) : tSeq ts us D σ H := q
theorem w_next (q : D.nx σ H) : tNext D σ H := q
theorem w_brk (q : D.bk σ H) : tBreak D σ H := q
theorem w_cont (q : D.ct σ H) : tCont D σ H := q
theorem w_drop (q : te σ H fun _ H1 => D.nx σ H1) : tDrop te D σ H := q
theorem w_ret (q : te σ H D.rt) : tRet te D σ H := q
theorem w_retN (q : D.rt .non H) : tRetN D σ H := q
theorem w_ifS (q : t σ H fun b H1 => if b = true then ts D σ H1 else us D σ H1) : tIfS t ts us D σ H := q
theorem w_asg {g : TG} (q : te σ H fun x H1 => g x σ H1 D.nx) : tAsg te g D σ H := q
theorem w_name {i : Nat} {k : L2.St → Hp → Prop} (q : k (σ.set i (some v)) H) : gName i v σ H k := q
theorem w_sub {to ti : TE} {ts : TSet} {k : L2.St → Hp → Prop} (q : to σ H fun o H1 => ti σ H1 fun i H2 => ts o i v H2 fun H3 => k σ H3) : gSub to ti ts v σ H k := q
theorem w_aug {i : Nat} {ti : TIp} (h : σ[i]? = some (some x)) (q : te σ H fun y H1 => ti x y H1 fun z H2 => D.nx (σ.set i (some z)) H2) : tAug i te ti D σ H := ⟨x, h, q⟩
theorem w_gtup {n : Nat} {tg : TGs} {a : Addr} {xs : List V} {k : L2.St → Hp → Prop} (h : SqT K H a xs) (hl : xs.length = n) (q : tg xs σ H k) : gTup K n tg (.ref a) σ H k := ⟨a, xs, rfl, h, hl, q⟩
/-- values -/
theorem w_addI {i j : Int} (q : Q (.int (i + j)) H) : rAddP (.int i) (.int j) H Q := q
theorem w_addS {a b : Str} (h : a.length + b.length ≤ sizeLine) (q : Q (.str (a ++ b)) H) : rAddP (.str a) (.str b) H Q := ⟨h, q⟩
theorem w_i2 {g : Int → Int → V} {i j : Int} (q : Q (g i j) H) : rI2 g (.int i) (.int j) H Q := q
theorem w_ic {C : Int → Int → Prop} {g : Int → Int → V} {i j : Int} (h : C i j) (q : Q (g i j) H) : rIC C g (.int i) (.int j) H Q := ⟨h, q⟩
theorem w_eqI {i j : Int} (q : Q (.bl (decide (i = j))) H) : rEqP K (.int i) (.int j) H Q := q
theorem w_eqS {i j : Str} (q : Q (.bl (decide (i = j))) H) : rEqP K (.str i) (.str j) H Q := q
theorem w_eqB {i j : Bool} (q : Q (.bl (decide (i = j))) H) : rEqP K (.bl i) (.bl j) H Q := q
theorem w_eqNN (q : Q (.bl true) H) : rEqP K .non .non H Q := q
theorem w_eqNS {i : Str} (q : Q (.bl false) H) : rEqP K .non (.str i) H Q := q
theorem w_eqSN {i : Str} (q : Q (.bl false) H) : rEqP K (.str i) .non H Q := q
theorem w_neI {i j : Int} (q : Q (.bl (!decide (i = j))) H) : rNeP K (.int i) (.int j) H Q := q
theorem w_neS {i j : Str} (q : Q (.bl (!decide (i = j))) H) : rNeP K (.str i) (.str j) H Q := q
theorem w_neB {i j : Bool} (q : Q (.bl (!decide (i = j))) H) : rNeP K (.bl i) (.bl j) H Q := q
theorem w_inS {i j : Str} (q : Q (.bl (!(Builtin.Str.occurrences j i 0 j.length 1).isEmpty)) H) : rInP K false (.str i) (.str j) H Q := q
theorem w_ninS {i j : Str} (q : Q (.bl (!(!(Builtin.Str.occurrences j i 0 j.length 1).isEmpty))) H) : rInP K true (.str i) (.str j) H Q := q
theorem w_lenS {a : Str} (h : a.length ≤ sizeLine) (q : Q (.int (a.length : Nat)) H) : rLenP K [.str a] H Q := ⟨_, ⟨h, rfl⟩, q⟩
theorem w_max2 {i j : Int} (q : Q (.int (max i j)) H) : rMax2P [.int i, .int j] H Q := q
theorem w_min2 {i j : Int} (q : Q (.int (min i j)) H) : rMin2P [.int i, .int j] H Q := q
theorem w_intI {i : Int} (q : Q (.int i) H) : rInt1P [.int i] H Q := q
theorem w_intB {k : Bool} (q : Q (.int (if k then 1 else 0)) H) : rInt1P [.bl k] H Q := q
theorem w_slS {z : Str} {lo hi : Option Int} (h : z.length ≤ sizeLine) (q : Q (.str (cutS z lo hi)) H) : rSlP K (.str z) lo hi H Q := ⟨h, q⟩
theorem w_ixS {z : Str} {i : Int} {c : Nat} (h : z.length ≤ sizeLine) (e : atI z.cps.toList i = some c) (q : Q (.str ⟨#[c]⟩) H) : rIxP K (.str z) (.int i) H Q := ⟨h, c, e, q⟩
theorem w_ixD {B : List Addr} {p : Addr} {ds : List PyData} {i : Int} {d : PyData} (h : Dp K (hid B H) (.ref p) (.list ds)) (e : atI ds i = some d) (q : ∀ v, Dp K (hid B H) v d → Q v H) : rIxP K (.ref p) (.int i) H Q := by
  cases h with
  | lst hs ha =>
    obtain ⟨j, e1, e2, e3, e4, e5⟩ := atI_get e
    obtain ⟨v, e6, e7⟩ := DpAll.get ha e2
    refine ⟨_, v, .inl (ex_l (hid_le B H) hs), ?_, q v e7⟩
    have l := DpAll.length ha
    unfold atI ixN at e ⊢
    rw [l]
    by_cases z : 0 ≤ i
    · simp only [z, if_true] at e ⊢
      by_cases z2 : i < ds.length
      · simp only [z2, if_true, Option.bind_some] at e ⊢
        obtain ⟨v', q1, q2⟩ := DpAll.get ha e
        have : j = i.toNat := by
          have := e1; unfold seqIndex? at this; simp [z] at this; omega
        subst this; exact e6
      · simp only [z2, if_false, Option.bind_none] at e; cases e
    · simp only [z, if_false] at e ⊢
      by_cases z2 : -(ds.length : Int) ≤ i
      · simp only [z2, if_true, Option.bind_some] at e ⊢
        have : j = (i + ds.length).toNat := by
          have := e1; unfold seqIndex? at this; simp [z] at this; omega
        subst this; exact e6
      · simp only [z2, if_false, Option.bind_none] at e; cases e
end
end Wb

set_option Elab.async false
set_option linter.all false
set_option maxRecDepth 100000
namespace Wb
open PySem PySem.Spec PyProof.Rows L2
def rMulP : R2 := fun x y H Q => match x, y with
  | .int i, .int j => CMul i j ∧ Q (.int (i * j)) H
  | .str a, .int n => (a.length ≤ 2000 ∧ n ≤ 2000 ∧ -(2 ^ 63) ≤ n) ∧ Q (.str (Txt.mul a n)) H
  | .ref l, .int k => rRep (.ref l) (.int k) H Q
  | _, _ => False
def rIAddP : TIp := fun x y H Q => match x, y with
  | .int i, .int j => Q (.int (i + j)) H
  | .str a, .str b => a.length + b.length ≤ sizeLine ∧ Q (.str (a ++ b)) H
  | _, _ => False
section
variable {X : Cx}
theorem op_mul_str : OpR X (binaryOp .Mult) (fun x y H Q => ∃ a n, x = .str a ∧ y = .int n ∧ (a.length ≤ 2000 ∧ n ≤ 2000 ∧ -(2 ^ 63) ≤ n) ∧ Q (.str (Txt.mul a n)) H) := by
  intro pins s σ H x y v u Q I rx ry h
  obtain ⟨a, n, rfl, rfl, ⟨h1, h2, h3⟩, q⟩ := h
  obtain ⟨t, rfl⟩ := rx
  obtain ⟨t', rfl⟩ := ry
  exact SB.mul (mulOk_of 2000 2000 h1 (by omega) h3 (by decide) (by decide)) fun t2 k => ⟨.str _, H, I.tok k, ⟨_, rfl⟩, q⟩
theorem op_mulP : OpR X (binaryOp .Mult) rMulP := by
  intro pins s σ H x y v u Q I rx ry h
  cases x <;> cases y <;> first
    | exact op_mul pins s σ H _ _ v u Q I rx ry ⟨_, _, rfl, rfl, h⟩
    | exact op_mul_str pins s σ H _ _ v u Q I rx ry ⟨_, _, rfl, rfl, h⟩
    | exact op_rep pins s σ H _ _ v u Q I rx ry h
    | exact False.elim h
theorem ip_addP : PIp X .Add rIAddP := by
  intro pins s σ H x y v u Q I rx ry h
  cases x <;> cases y <;> first
    | exact iop_add pins s σ H _ _ v u Q I rx ry ⟨_, _, rfl, rfl, h⟩
    | exact iop_add_str pins s σ H _ _ v u Q I rx ry ⟨_, _, rfl, rfl, h⟩
    | exact False.elim h
/-! methods of texts -/
def mS1 (g : Str → Str → V) : V → List V → Hp → VK → Prop := fun x xs H Q => match x, xs with
  | .str a, [.str b] => Q (g a b) H
  | _, _ => False
def mS0 (C : Str → Prop) (g : Str → V) : V → List V → Hp → VK → Prop := fun x xs H Q => match x, xs with
  | .str a, [] => C a ∧ Q (g a) H
  | _, _ => False
theorem mt_s1 {id : String} {g : Str → Str → V} (r : MtR X id (fun x xs H Q => ∃ a b, x = .str a ∧ xs = [.str b] ∧ Q (g a b) H)) : MtR X id (mS1 g) := by
  intro pins s σ H x xs v us Q I rx ry h
  unfold mS1 at h
  split at h
  · exact r pins s σ H _ _ v us Q I rx ry ⟨_, _, rfl, rfl, h⟩
  · exact h.elim
theorem mt_s0 {id : String} {C : Str → Prop} {g : Str → V} (r : MtR X id (fun x xs H Q => ∃ a, x = .str a ∧ xs = [] ∧ C a ∧ Q (g a) H)) : MtR X id (mS0 C g) := by
  intro pins s σ H x xs v us Q I rx ry h
  unfold mS0 at h
  split at h
  · exact r pins s σ H _ _ v us Q I rx ry ⟨_, rfl, rfl, h⟩
  · exact h.elim
theorem mt_startswithP : MtR X "str.startswith" (mS1 fun a b => .bl (Txt.startswith a b)) := mt_s1 mt_startswith
theorem mt_endswithP : MtR X "str.endswith" (mS1 fun a b => .bl (Txt.endswith a b)) := mt_s1 mt_endswith
theorem mt_upperP : MtR X "str.upper" (mS0 (fun a => a.length ≤ 5592405) fun a => .str (Txt.upper a)) := mt_s0 mt_upper
theorem mt_lowerP : MtR X "str.lower" (mS0 (fun a => a.length ≤ 5592405) fun a => .str (Txt.lower a)) := mt_s0 mt_lower
def rJoinP (K : PySem.W.Frag) : V → List V → Hp → VK → Prop := fun x xs H Q => match x, xs with
  | .str a, [.ref p] => ∃ ys : List Str, (SqL K H p (ys.map V.str) ∨ SqT K H p (ys.map V.str)) ∧ (ys.map (·.length)).sum + ys.length * a.length ≤ 16777216 ∧ Q (.str (Txt.join a ys)) H
  | _, _ => False
theorem mt_joinP {K : PySem.W.Frag} (hK : X.K = K) : MtR X "str.join" (rJoinP K) := by
  subst hK
  intro pins s σ H x xs v us Q I rx ry h
  unfold rJoinP at h
  split at h
  · obtain ⟨ys, h1, h2, q⟩ := h
    exact mt_join pins s σ H _ _ v us Q I rx ry ⟨_, _, ys, rfl, rfl, h1, h2, q⟩
  · exact h.elim
def rPartP : V → List V → Hp → VK → Prop := fun x xs H Q => match x, xs with
  | .str a, [.str b] => (b.length == 0) = false ∧ a.length ≤ sizeLine ∧ ∀ p, H p = none → Q (.ref p) (upd H p (.tup [.str (Txt.partition a b).1, .str (Txt.partition a b).2.1, .str (Txt.partition a b).2.2]))
  | _, _ => False
theorem mt_partitionP : MtR X "str.partition" rPartP := by
  intro pins s σ H x xs v us Q I rx ry h
  unfold rPartP at h
  split at h
  · exact mt_partition pins s σ H _ _ v us Q I rx ry ⟨_, _, rfl, rfl, h⟩
  · exact h.elim
def rSplitP : V → List V → Hp → VK → Prop := fun x xs H Q => match x, xs with
  | .str a, [.str b] => (b.length == 0) = false ∧ a.length + 2 ≤ sizeLine ∧ rNewStrs (Txt.split a b) H Q
  | _, _ => False
theorem mt_splitP : MtR X "str.split" rSplitP := by
  intro pins s σ H x xs v us Q I rx ry h
  unfold rSplitP at h
  split at h
  · exact mt_split pins s σ H _ _ v us Q I rx ry ⟨_, _, rfl, rfl, h⟩
  · exact h.elim
/-! isinstance -/
def rIsiP (K : PySem.W.Frag) : List V → Hp → VK → Prop := fun xs H Q => match xs with
  | [.str _, .ty n] => ∃ b, kitB "str" n = some b ∧ Q (.bl b) H
  | [.int _, .ty n] => ∃ b, kitB "int" n = some b ∧ Q (.bl b) H
  | [.bl _, .ty n] => ∃ b, kitB "bool" n = some b ∧ Q (.bl b) H
  | [.non, .ty n] => ∃ b, kitB "NoneType" n = some b ∧ Q (.bl b) H
  | [.ref a, .ty n] => ∃ T b, TyX K H (.ref a) (.type T) ∧ kitB T n = some b ∧ Q (.bl b) H
  | xs => rIsi K xs H Q
theorem call_isiP {K : PySem.W.Frag} (hK : X.K = K) : CallR X (.builtin "isinstance") (rIsiP K) := by
  subst hK
  intro pins s σ H xs us Q I r h
  unfold rIsiP at h
  split at h
  · obtain ⟨b, e, q⟩ := h
    exact call_isi pins s σ H _ us Q I r ⟨_, _, _, _, b, rfl, .ty _, .base (.str _), kit_ty e, q⟩
  · obtain ⟨b, e, q⟩ := h
    exact call_isi pins s σ H _ us Q I r ⟨_, _, _, _, b, rfl, .ty _, .base (.int _), kit_ty e, q⟩
  · obtain ⟨b, e, q⟩ := h
    exact call_isi pins s σ H _ us Q I r ⟨_, _, _, _, b, rfl, .ty _, .base (.bl _), kit_ty e, q⟩
  · obtain ⟨b, e, q⟩ := h
    exact call_isi pins s σ H _ us Q I r ⟨_, _, _, _, b, rfl, .ty _, .base .non, kit_ty e, q⟩
  · obtain ⟨T, b, t, e, q⟩ := h
    exact call_isi pins s σ H _ us Q I r ⟨_, _, _, _, b, rfl, .ty _, t, kit_ty e, q⟩
  · exact call_isi pins s σ H _ us Q I r h
/-- divmod by kinds -/
def rDivmodP : List V → Hp → VK → Prop := fun xs H Q => match xs with
  | [.int i, .int j] => CDiv i j ∧ ∀ p, H p = none → Q (.ref p) (upd H p (.tup [.int (i / j), .int (i % j)]))
  | _ => False
theorem call_divmodP : CallR X (.builtin "divmod") rDivmodP := by
  intro pins s σ H xs us Q I r h
  unfold rDivmodP at h
  split at h
  · exact call_divmod pins s σ H _ us Q I r ⟨_, _, rfl, h⟩
  · exact h.elim
def rListP (K : PySem.W.Frag) : List V → Hp → VK → Prop := fun xs H Q => match xs with
  | [.ref p] => ∃ ys, (SqL K H p ys ∨ SqT K H p ys) ∧ ∀ l, H l = none → Q (.ref l) (upd H l (.lst ys))
  | _ => False
theorem call_listP {K : PySem.W.Frag} (hK : X.K = K) : CallR X (.type "list") (rListP K) := by
  subst hK
  intro pins s σ H xs us Q I r h
  unfold rListP at h
  split at h
  · obtain ⟨ys, a, q⟩ := h
    exact call_list_of pins s σ H _ us Q I r ⟨_, ys, rfl, a, q⟩
  · exact h.elim
def rAnyP (K : PySem.W.Frag) : List V → Hp → VK → Prop := fun xs H Q => match xs with
  | [.ref a] => ∃ bs : List Bool, SqL K H a (bs.map V.bl) ∧ Q (.bl (bs.any id)) H
  | _ => False
def rAllP (K : PySem.W.Frag) : List V → Hp → VK → Prop := fun xs H Q => match xs with
  | [.ref a] => ∃ bs : List Bool, SqL K H a (bs.map V.bl) ∧ Q (.bl (bs.all id)) H
  | _ => False
theorem cr_anyP {K : PySem.W.Frag} (hK : X.K = K) (hc : X.calm = true) : CallR X (.builtin "any") (rAnyP K) := by
  subst hK
  intro pins s σ H xs us Q I r h
  unfold rAnyP at h
  split at h
  · obtain ⟨bs, a, q⟩ := h
    exact cr_any hc pins s σ H _ us Q I r ⟨_, bs, rfl, a, q⟩
  · exact h.elim
theorem cr_allP {K : PySem.W.Frag} (hK : X.K = K) (hc : X.calm = true) : CallR X (.builtin "all") (rAllP K) := by
  subst hK
  intro pins s σ H xs us Q I r h
  unfold rAllP at h
  split at h
  · obtain ⟨bs, a, q⟩ := h
    exact cr_all hc pins s σ H _ us Q I r ⟨_, bs, rfl, a, q⟩
  · exact h.elim
def rSortedP (K : PySem.W.Frag) : List V → Hp → VK → Prop := fun xs H Q => match xs with
  | [.ref a] => ∃ zs : List Str, SqL K H a (zs.map V.str) ∧ zs.length < 64 ∧ ∀ (ys : List Str) (p : Addr), ys.Perm zs → sortedS ys = true → H p = none → Q (.ref p) (upd H p (.lst (ys.map V.str)))
  | _ => False
theorem cr_sortedP {K : PySem.W.Frag} (hK : X.K = K) : CallR X (.builtin "sorted") (rSortedP K) := by
  subst hK
  intro pins s σ H xs us Q I r h
  unfold rSortedP at h
  split at h
  · obtain ⟨zs, a, b, q⟩ := h
    exact cr_sortedS pins s σ H _ us Q I r ⟨_, zs, rfl, a, b, q⟩
  · exact h.elim
/-! a module's constants -/
theorem pe_globS {x a : Str} {pos : Pos} (hg : Gl X x) (hm : ∃ t, X.mg x = some (.str a t)) (hd : (x == ("__debug__" : Str)) = false := by decide) : PE X (.Name x pos) (tC (.str a)) := by
  obtain ⟨t, h⟩ := hm
  exact pe_glob hg h ⟨t, rfl⟩ hd
theorem pe_globI {x : Str} {i : Int} {pos : Pos} (hg : Gl X x) (hm : ∃ t, X.mg x = some (.int i t)) (hd : (x == ("__debug__" : Str)) = false := by decide) : PE X (.Name x pos) (tC (.int i)) := by
  obtain ⟨t, h⟩ := hm
  exact pe_glob hg h ⟨t, rfl⟩ hd
end
/-! the library's own, the written part by its letter -/
section
variable {X : Cx} {K : PySem.W.Frag} {pos : Pos}
theorem pg_tupK (hK : X.K = K) {es : List Expr} {k : Nat} {t : TGs} {n : Nat} (hc : X.calm = true) (h : PGs X es t) (hn : (assignEach es X.env).length = n := by rfl) (hst : (assignEach es X.env).findIdx? (·.1) = none := by rfl) : PG X (.Tuple es k pos) (gTup K n t) := by
  subst hK; exact pg_tup hc h hn hst
theorem pi_listK (hK : X.K = K) {tg l : Expr} {tl : TE} (hl : PE X l tl) : PI X tg l (iList K tl) := by
  subst hK; exact pi_list hl
theorem pi_tupK (hK : X.K = K) {tg l : Expr} {tl : TE} (hl : PE X l tl) : PI X tg l (iTup K tl) := by
  subst hK; exact pi_tup hl
theorem pe_bmK (hK : X.K = K) {o e : Expr} {es : List Expr} {to : TE} {t : TA} {name : Str} {apos cpos : Pos} {T id : String} {r : V → List V → Hp → VK → Prop} (pa : PlainAttrs T) (slot : Slot T name id) (hty : typeOf (.builtin id) = pure (.type "method_descriptor")) (hm : MtR X id r) (ho : PE X o to) (ha : PA X (e :: es) t)
    (hbase : attributeBase o name X.env (eval o X.env) = eval o X.env := by rfl)
    (hfew : ((backTo cpos (starEach (e :: es) X.env)).all (fun x => !x.1) && (backToKw cpos (keywordEach [] X.env)).all (fun x => x.1.isSome)
      && decide ((e :: es).length + ([] : List Keyword).length + (if ([] : List Keyword).isEmpty then 0 else 1) < 30)) = true := by rfl)
    (hline : (apos.endLine == cpos.line) = true := by rfl) (hs : starEach (e :: es) X.env = (false, eval e X.env) :: starEach es X.env := by rfl) (hplain : (backTo cpos (starEach es X.env)).any (·.1) = false := by rfl) :
    PE X (.Call (.Attribute o name apos) (e :: es) [] cpos) (tBM K T r to t) := by
  subst hK; exact pe_bm pa slot hty hm ho ha hbase hfew hline hs hplain
theorem pe_bm0K (hK : X.K = K) {o : Expr} {to : TE} {name : Str} {apos cpos : Pos} {T id : String} {r : V → List V → Hp → VK → Prop} (pa : PlainAttrs T) (slot : Slot T name id) (hty : typeOf (.builtin id) = pure (.type "method_descriptor")) (hm : MtR X id r) (ho : PE X o to)
    (hbase : attributeBase o name X.env (eval o X.env) = eval o X.env := by rfl) (hline : (apos.endLine == cpos.line) = true := by rfl) : PE X (.Call (.Attribute o name apos) [] [] cpos) (tBM0 K T r to) := by
  subst hK; exact pe_bm0 pa slot hty hm ho hbase hline
end
/-! steps -/
section
variable {K : PySem.W.Frag} {H : Hp} {Q : VK} {QT : Bool → Hp → Prop} {B : List Addr}
theorem w_mulI {i j : Int} (h : CMul i j) (q : Q (.int (i * j)) H) : rMulP (.int i) (.int j) H Q := ⟨h, q⟩
theorem w_mulS {a : Str} {n : Int} (h : a.length ≤ 2000 ∧ n ≤ 2000 ∧ -(2 ^ 63) ≤ n) (q : Q (.str (Txt.mul a n)) H) : rMulP (.str a) (.int n) H Q := ⟨h, q⟩
theorem w_iaddI {i j : Int} (q : Q (.int (i + j)) H) : rIAddP (.int i) (.int j) H Q := q
theorem w_iaddS {a b : Str} (h : a.length + b.length ≤ sizeLine) (q : Q (.str (a ++ b)) H) : rIAddP (.str a) (.str b) H Q := ⟨h, q⟩
theorem w_s1 {g : Str → Str → V} {a b : Str} (q : Q (g a b) H) : mS1 g (.str a) [.str b] H Q := q
theorem w_s0 {C : Str → Prop} {g : Str → V} {a : Str} (h : C a) (q : Q (g a) H) : mS0 C g (.str a) [] H Q := ⟨h, q⟩
theorem w_isiS {n : String} {a : Str} {b : Bool} (h : kitB "str" n = some b) (q : Q (.bl b) H) : rIsiP K [.str a, .ty n] H Q := ⟨b, h, q⟩
theorem w_isiI {n : String} {a : Int} {b : Bool} (h : kitB "int" n = some b) (q : Q (.bl b) H) : rIsiP K [.int a, .ty n] H Q := ⟨b, h, q⟩
theorem w_isiB {n : String} {a : Bool} {b : Bool} (h : kitB "bool" n = some b) (q : Q (.bl b) H) : rIsiP K [.bl a, .ty n] H Q := ⟨b, h, q⟩
theorem w_isiN {n : String} {b : Bool} (h : kitB "NoneType" n = some b) (q : Q (.bl b) H) : rIsiP K [.non, .ty n] H Q := ⟨b, h, q⟩
theorem dp_lenL {p : Addr} {ds : List PyData} (h : Dp K (hid B H) (.ref p) (.list ds)) (q : Q (.int (ds.length : Nat)) H) : rLenP K [.ref p] H Q := by
  cases h with
  | lst hs ha =>
    refine ⟨_, .inl ⟨_, ex_l (hid_le B H) hs, rfl⟩, ?_⟩
    rw [DpAll.length ha]; exact q
theorem dp_lenT {p : Addr} {ds : List PyData} (h : Dp K (hid B H) (.ref p) (.tuple ds)) (q : Q (.int (ds.length : Nat)) H) : rLenP K [.ref p] H Q := by
  cases h with
  | tup hs ha =>
    refine ⟨_, .inr ⟨_, ex_t (hid_le B H) hs, rfl⟩, ?_⟩
    rw [DpAll.length ha]; exact q
end
theorem iteD {p : Prop} [Decidable p] {A B : Prop} (h1 : p → A) (h2 : ¬ p → B) : if decide p = true then A else B := by
  by_cases h : p
  · rw [decide_eq_true h]; exact iteT (h1 h)
  · rw [decide_eq_false h]; exact iteF (h2 h)
theorem iteN {p : Prop} [Decidable p] {A B : Prop} (h1 : ¬ p → A) (h2 : p → B) : if (!decide p) = true then A else B := by
  by_cases h : p
  · rw [decide_eq_true h]; exact iteF (h2 h)
  · rw [decide_eq_false h]; exact iteT (h1 h)
theorem iteB {b : Bool} {A B : Prop} (h1 : b = true → A) (h2 : b = false → B) : if b = true then A else B := by
  cases b with
  | true => exact iteT (h1 rfl)
  | false => exact iteF (h2 rfl)
theorem iteNB {b : Bool} {A B : Prop} (h1 : b = false → A) (h2 : b = true → B) : if (!b) = true then A else B := by
  cases b with
  | true => exact iteF (h2 rfl)
  | false => exact iteT (h1 rfl)
theorem szl {n : Nat} (h : n ≤ 16000000) : n ≤ sizeLine := Nat.le_trans h (by decide)
end Wb
namespace Wb
open PySem PySem.Spec PyProof.Rows L2
theorem len_app (a b : Str) : (a ++ b).length = a.length + b.length := by
  show (a.cps ++ b.cps).size = _
  rw [Array.size_append]; rfl
theorem len_nil : Str.length (Str.ofString "") = 0 := by decide +kernel
theorem atI_nat' {α : Type} {xs : List α} {i : Int} {v : α} (h0 : 0 ≤ i) (h : xs[i.toNat]? = some v) : atI xs i = some v := by
  have := atI_nat h
  rwa [show ((i.toNat : Nat) : Int) = i by omega] at this
section
variable {K : PySem.W.Frag} {H H' H0 : Hp} {Q : VK} {p q : Addr} {o : HO}
theorem w_ixH {xs : List V} {i : Int} {v : V} (h : H p = some (.lst xs)) (e : atI xs i = some v) (q : Q v H) : rIxP K (.ref p) (.int i) H Q := ⟨xs, v, .inl (.of h), e, q⟩
/-- all things of a list are texts that .. -/
def AllS (P : Str → Prop) : List V → Prop
  | [] => True
  | .str s :: r => P s ∧ AllS P r
  | _ => False
theorem AllS.get {P : Str → Prop} : ∀ {xs : List V} {i : Nat}, AllS P xs → i < xs.length → ∃ s, xs[i]? = some (.str s) ∧ P s
  | [], i, _, h => by simp at h
  | .str s :: r, 0, ⟨h, _⟩, _ => ⟨s, rfl, h⟩
  | .str s :: r, i + 1, ⟨_, h⟩, hl => by
    obtain ⟨t, a, b⟩ := AllS.get h (by simpa using hl)
    exact ⟨t, by simpa using a, b⟩
theorem w_pickS {xs : List V} {i : Int} (P : Str → Prop) (h : H p = some (.lst xs)) (h0 : 0 ≤ i) (h1 : i < xs.length) (hP : AllS P xs) (q : ∀ s, P s → Q (.str s) H) : rIxP K (.ref p) (.int i) H Q := by
  obtain ⟨s, a, b⟩ := AllS.get (i := i.toNat) hP (by omega)
  exact w_ixH h (atI_nat' h0 a) (q s b)
def AllI (P : Int → Prop) : List V → Prop
  | [] => True
  | .int s :: r => P s ∧ AllI P r
  | _ => False
theorem AllI.get {P : Int → Prop} : ∀ {xs : List V} {i : Nat}, AllI P xs → i < xs.length → ∃ s, xs[i]? = some (.int s) ∧ P s
  | [], i, _, h => by simp at h
  | .int s :: r, 0, ⟨h, _⟩, _ => ⟨s, rfl, h⟩
  | .int s :: r, i + 1, ⟨_, h⟩, hl => by
    obtain ⟨t, a, b⟩ := AllI.get h (by simpa using hl)
    exact ⟨t, by simpa using a, b⟩
theorem w_pickI {xs : List V} {i : Int} (P : Int → Prop) (h : H p = some (.lst xs)) (h0 : 0 ≤ i) (h1 : i < xs.length) (hP : AllI P xs) (q : ∀ s, P s → Q (.int s) H) : rIxP K (.ref p) (.int i) H Q := by
  obtain ⟨s, a, b⟩ := AllI.get (i := i.toNat) hP (by omega)
  exact w_ixH h (atI_nat' h0 a) (q s b)
/-- a pot: two numbers, none below 0 -/
def Pot (H : Hp) (p : Addr) : Prop := ∃ u w : Int, H p = some (.lst [.int u, .int w]) ∧ 0 ≤ u ∧ 0 ≤ w ∧ w < 2147483629
theorem Pot.ne (h : Pot H p) (n : H q = none) : q ≠ p := fun e => by
  obtain ⟨u, w, h, _⟩ := h
  rw [e, h] at n; cases n
theorem Pot.ex (h : Pot H p) (e : Ex H H') : Pot H' p := by
  obtain ⟨u, w, h, r⟩ := h
  exact ⟨u, w, e _ _ h, r⟩
/-- a way on which at most the pot changed -/
structure Stp (p : Addr) (H H' : Hp) : Prop where
  ex : Ex (hid [p] H) (hid [p] H')
  pot : Pot H' p
theorem Stp.refl (h : Pot H p) : Stp p H H := ⟨Ex.refl _, h⟩
theorem Stp.trans (a : Stp p H0 H) (b : Stp p H H') : Stp p H0 H' := ⟨a.ex.trans b.ex, b.pot⟩
theorem Stp.to (a : Stp p H0 H) (e : Ex H H') : Stp p H0 H' := ⟨a.ex.trans (ex_hid0 e), a.pot.ex e⟩
theorem Stp.new (a : Stp p H0 H) (h : H q = none) : Stp p H0 (upd H q o) := a.to (Ex.new h)
theorem Stp.at (a : Stp p H H') (h : H q = some o) (n : q ≠ p) : H' q = some o := by
  have := a.ex q o (by rw [hid_out (by simp [n])]; exact h)
  rwa [hid_out (by simp [n])] at this
/-- .. the pot written -/
theorem Stp.set {u w : Int} (a : Stp p H0 H) (hu : 0 ≤ u) (hw : 0 ≤ w) (hw2 : w < 2147483629) : Stp p H0 (upd H p (.lst [.int u, .int w])) :=
  ⟨a.ex.trans fun b x e => by
    by_cases z : b = p
    · subst z; rw [hid_in (by simp)] at e; cases e
    · rw [hid_out (by simp [z])] at e ⊢
      rw [upd_ne z]; exact e, ⟨u, w, upd_same, hu, hw, hw2⟩⟩
/-- a new pot, used up -/
theorem Stp.over (h : H p = none) (e : Ex H H0) (s : Stp p H0 H') : Ex H H' := fun a o ha => s.at (e a o ha) (ne_of_none ha h)
end
end Wb
namespace Wb
open PySem PySem.Spec PyProof.Rows L2
theorem ll {n : Nat} (h : Nat.ble n 1000 = true) : n ≤ sizeLine := Nat.le_trans (Nat.le_of_ble_eq_true h) (by decide)
theorem ll' {n : Nat} (h : n ≤ 1000000) : n ≤ sizeLine := Nat.le_trans h (by decide)
theorem ltl {n : Nat} (h : n ≤ 1000000) : n < sizeLine := Nat.lt_of_le_of_lt h (by decide)
section
variable {K : PySem.W.Frag} {σ : L2.St} {H : Hp} {Q : VK} {te tl : TE} {tt : TT} {g : TG} {wi : TI} {vs : List Nat} {ta : TA} {R : It → Hp → Prop} {D : Ends} {tb : TS}
theorem w_lc (q : wi σ H fun J H1 => ∀ D, H1 D = none → ∃ W : Nat → Nat → Hp → Prop, (∃ m, W 0 m (upd H1 D (.lst []))) ∧ ∀ i m H, W i m H →
  (J.stop i H ∧ Q (.ref D) H) ∨ (J.go i H ∧ ∃ Nx : Hp → Prop, (∀ H', Nx H' → ∃ m', m' < m ∧ W (i + 1) m' H') ∧ ∀ x H', J.yld i H x H' → g x (wipe σ vs) H' fun σ2 H2 => wipe σ2 vs = wipe σ vs ∧ tt σ2 H2 fun b H3 =>
    if b = true then te σ2 H3 fun y H4 => ∃ acc, H4 D = some (.lst acc) ∧ acc.length < sizeLine ∧ Nx (upd H4 D (.lst (acc ++ [y]))) else Nx H3)) : tLc wi g tt te vs σ H Q := q
theorem w_rng1 (q : ta σ H fun vs H1 => ∃ j : Int, vs = [.int j] ∧ -(2 ^ 62) ≤ j ∧ j < 2 ^ 62 ∧ R (Itr 0 j.toNat) H1) : iRng1 ta σ H R := q
theorem w_rngI {d : Int} (h1 : -(2 ^ 62) ≤ d) (h2 : d < 2 ^ 62) (q : R (Itr 0 d.toNat) H) : ∃ j : Int, [V.int d] = [.int j] ∧ -(2 ^ 62) ≤ j ∧ j < 2 ^ 62 ∧ R (Itr 0 j.toNat) H := ⟨d, rfl, h1, h2, q⟩
theorem w_rng2 (q : ta σ H fun vs H1 => ∃ i j : Int, vs = [.int i, .int j] ∧ (-(2 ^ 62) ≤ i ∧ i < 2 ^ 62 ∧ -(2 ^ 62) ≤ j ∧ j < 2 ^ 62) ∧ R (Itr i (j - i).toNat) H1) : iRng2 ta σ H R := q
theorem w_rngII {a d : Int} (h1 : -(2 ^ 62) ≤ a ∧ a < 2 ^ 62 ∧ -(2 ^ 62) ≤ d ∧ d < 2 ^ 62) (q : R (Itr a (d - a).toNat) H) : ∃ i j : Int, [V.int a, V.int d] = [.int i, .int j] ∧ (-(2 ^ 62) ≤ i ∧ i < 2 ^ 62 ∧ -(2 ^ 62) ≤ j ∧ j < 2 ^ 62) ∧ R (Itr i (j - i).toNat) H := ⟨a, d, rfl, h1, q⟩
theorem w_ilist (q : tl σ H fun x H1 => ∃ a, x = .ref a ∧ (∃ xs, SqL K H1 a xs) ∧ R (Itl K a) H1) : iList K tl σ H R := q
theorem w_ilistR {a : Addr} {xs : List V} (h : SqL K H a xs) (q : R (Itl K a) H) : ∃ a', V.ref a = .ref a' ∧ (∃ xs, SqL K H a' xs) ∧ R (Itl K a') H := ⟨a, rfl, ⟨xs, h⟩, q⟩
theorem w_for (q : wi σ H fun J H1 => ∃ W : Nat → Nat → L2.St → Hp → Prop, (∃ m, W 0 m σ H1) ∧ ∀ i m σ H, W i m σ H →
  (J.stop i H ∧ D.nx σ H) ∨ (J.go i H ∧ ∃ N : L2.St → Hp → Prop, (∀ σ' H', N σ' H' → ∃ m', m' < m ∧ W (i + 1) m' σ' H') ∧ ∀ x H', J.yld i H x H' → g x σ H' fun σ2 H2 => tb { D with nx := N, ct := N, bk := D.nx } σ2 H2)) : tFor wi g tb D σ H := q
theorem w_yes {QT : Bool → Hp → Prop} (q : QT true H) : tYes σ H QT := q
/-- append -/
theorem w_append {l : Addr} {xs : List V} {y : V} (h : H l = some (.lst xs)) (hz : xs.length < sizeLine) (q : Q .non (upd H l (.lst (xs ++ [y])))) : tyV K "list" (.ref l) H ∧ (rAppend (.ref l) [y] H Q) := ⟨.inl ⟨rfl, _, .inl (.inl h)⟩, l, xs, y, rfl, rfl, h, hz, q⟩
end
/-- the list under way: new since H0, so off what stood -/
theorem Stp.push {p D : Addr} {H0 H : Hp} {xs : List V} (s : Stp p H0 H) (h : H0 D = none) (n : D ≠ p) : Stp p H0 (upd H D (.lst xs)) :=
  ⟨fun a o e => by
    have h1 := s.ex a o e
    have h2 := hid_le _ _ _ _ e
    have h3 : a ≠ D := ne_of_none h2 h
    by_cases z : a ∈ [p]
    · rw [hid_in z] at e; cases e
    · rw [hid_out z] at h1 ⊢
      rw [upd_ne h3]; exact h1, by
    obtain ⟨u, w, e, r⟩ := s.pot
    exact ⟨u, w, by rw [upd_ne n.symm]; exact e, r⟩⟩
end Wb
namespace Wb
open PySem PySem.Spec PyProof.Rows L2
/-- what is free behind was free ahead -/
theorem Stp.free {p q : Addr} {H H' : Hp} (s : Stp p H H') (hp : Pot H p) (h : H' q = none) : H q = none := by
  cases e : H q with
  | none => rfl
  | some o =>
    have n : q ≠ p := s.pot.ne h
    rw [s.at e n] at h; cases h
end Wb
namespace Wb
open PySem PySem.Spec PyProof.Rows L2
def rR1 : List V → Hp → (It → Hp → Prop) → Prop := fun vs H R => match vs with
  | [.int j] => (-(2 ^ 62) ≤ j ∧ j < 2 ^ 62) ∧ R (Itr 0 j.toNat) H
  | _ => False
def rR2 : List V → Hp → (It → Hp → Prop) → Prop := fun vs H R => match vs with
  | [.int i, .int j] => (-(2 ^ 62) ≤ i ∧ i < 2 ^ 62 ∧ -(2 ^ 62) ≤ j ∧ j < 2 ^ 62) ∧ R (Itr i (j - i).toNat) H
  | _ => False
def iR1 (ta : TA) : TI := fun σ H R => ta σ H fun vs H1 => rR1 vs H1 R
def iR2 (ta : TA) : TI := fun σ H R => ta σ H fun vs H1 => rR2 vs H1 R
theorem pi_range1P {X : Cx} {tg : Expr} {a : Expr} {ta : TA} {p pos : Pos} (hg : Gl X "range") (hm : X.mg "range" = none) (ha : PA X [a] ta) (hs : starEach [a] X.env = [(false, eval a X.env)] := by rfl) : PI X tg (.Call (.Name "range" p) [a] [] pos) (iR1 ta) := by
  refine ⟨fun pins s σ H R I h => ?_⟩
  refine Call_ (ld_blt I hg hm boot_range (PyProof.Rows.callWith_type1 (thn (ha.run pos pins s σ H _ I h) fun us s1 ⟨vs, H1, I1, r1, q1⟩ => ?_) hs rfl))
  have q1 : rR1 vs H1 R := q1
  unfold rR1 at q1
  split at q1
  · obtain ⟨⟨q1, q2⟩, q⟩ := q1
    cases r1 with
    | cons r rr =>
      cases rr
      obtain ⟨t, rfl⟩ := r
      exact call_range_1 (range_it I1 (by omega) (by omega) q1 q2 (by simpa using q))
  · exact q1.elim
theorem pi_range2P {X : Cx} {tg : Expr} {a b : Expr} {ta : TA} {p pos : Pos} (hg : Gl X "range") (hm : X.mg "range" = none) (ha : PA X [a, b] ta) (hs : starEach [a, b] X.env = [(false, eval a X.env), (false, eval b X.env)] := by rfl) (hs2 : starEach [b] X.env = [(false, eval b X.env)] := by rfl) :
    PI X tg (.Call (.Name "range" p) [a, b] [] pos) (iR2 ta) := by
  refine ⟨fun pins s σ H R I h => ?_⟩
  refine Call_ (ld_blt I hg hm boot_range (PyProof.Rows.callWith_type1 (thn (ha.run pos pins s σ H _ I h) fun us s1 ⟨vs, H1, I1, r1, q1⟩ => ?_) (by rw [hs, hs2]) (by rw [hs2]; rfl)))
  have q1 : rR2 vs H1 R := q1
  unfold rR2 at q1
  split at q1
  · obtain ⟨⟨a1, a2, a3, a4⟩, q⟩ := q1
    cases r1 with
    | cons r rr =>
      cases rr with
      | cons r' rr' =>
        cases rr'
        obtain ⟨t, rfl⟩ := r
        obtain ⟨t', rfl⟩ := r'
        exact call_range_2 (range_it I1 a1 a2 a3 a4 q)
  · exact q1.elim
section
variable {σ : L2.St} {H : Hp} {ta : TA} {R : It → Hp → Prop}
theorem w_r1 (q : ta σ H fun vs H1 => rR1 vs H1 R) : iR1 ta σ H R := q
theorem w_r2 (q : ta σ H fun vs H1 => rR2 vs H1 R) : iR2 ta σ H R := q
theorem w_r1I {d : Int} (h : -(2 ^ 62) ≤ d ∧ d < 2 ^ 62) (q : R (Itr 0 d.toNat) H) : rR1 [.int d] H R := ⟨h, q⟩
theorem w_r2I {a d : Int} (h : -(2 ^ 62) ≤ a ∧ a < 2 ^ 62 ∧ -(2 ^ 62) ≤ d ∧ d < 2 ^ 62) (q : R (Itr a (d - a).toNat) H) : rR2 [.int a, .int d] H R := ⟨h, q⟩
end
end Wb

set_option Elab.async false
set_option linter.all false
set_option maxRecDepth 100000
/-! texts as lists of signs -/
namespace Wb
open PySem PySem.Spec PyProof.Rows L2
open TL (tl)
theorem tl_len (a : Str) : a.length = (tl a).length := TL.len_tl a
theorem str_eq {a b : Str} : a = b ↔ tl a = tl b := ⟨fun h => by rw [h], TL.ext_tl⟩
theorem tl_app (a b : Str) : tl (a ++ b) = tl a ++ tl b := TL.tl_append a b
theorem starts_tl (a b : Str) : Txt.startswith a b = (tl b).isPrefixOf (tl a) := by
  unfold Txt.startswith
  rw [StrLaws.subAt_eq, Nat.zero_add, List.drop_zero, tl_len, tl_len]
  show (decide ((tl b).length ≤ (tl a).length) && (List.take (tl b).length (tl a) == tl b)) = _
  generalize tl a = x
  generalize tl b = y
  by_cases h : y <+: x
  · rw [List.isPrefixOf_iff_prefix.mpr h, ← List.prefix_iff_eq_take.mp h, decide_eq_true h.length_le]
    simp
  · have e : y.isPrefixOf x = false := by
      cases q : y.isPrefixOf x
      · rfl
      · exact absurd (List.isPrefixOf_iff_prefix.mp q) h
    rw [e]
    cases q : (List.take y.length x == y)
    · simp
    · exact absurd (List.prefix_iff_eq_take.mpr (beq_iff_eq.mp q).symm) h
theorem starts_iff {a b : Str} : Txt.startswith a b = true ↔ tl b <+: tl a := by
  rw [starts_tl]; exact List.isPrefixOf_iff_prefix
theorem tl_cut (z : Str) (lo hi : Option Int) : tl (cutS z lo hi) = ((tl z).drop (HT.sIx (tl z).length 0 lo)).take (HT.sIx (tl z).length (tl z).length hi - HT.sIx (tl z).length 0 lo) := by
  show tl ⟨_⟩ = _
  rw [TL.tl_mk, tl_len]
theorem tl_one (c : Nat) : tl ⟨#[c]⟩ = [c] := rfl
end Wb
namespace Wb
open PySem PySem.Spec PyProof.Rows L2
section
variable {σ : L2.St} {H : Hp} {c : TT} {tb t u : TS} {D : Ends} {wi : TI} {g : TG}
/-- what follows a loop, an if: proved once -/
theorem w_whileZ (Z : L2.St → Hp → Prop) (hz : ∀ σ H, Z σ H → D.nx σ H) (h : (∀ σ H, Z σ H → D.nx σ H) → ∃ W : Nat → L2.St → Hp → Prop, (∃ m, W m σ H) ∧ ∀ m σ H, W m σ H →
  c σ H fun b H1 => if b = true then ∃ N : L2.St → Hp → Prop, (∀ σ' H', N σ' H' → ∃ m', m' < m ∧ W m' σ' H') ∧ tb { D with nx := N, ct := N, bk := D.nx } σ H1 else D.nx σ H1) : tWhile c tb D σ H := h hz
theorem w_ifZ (Z : L2.St → Hp → Prop) (hz : ∀ σ H, Z σ H → D.nx σ H) (h : (∀ σ H, Z σ H → D.nx σ H) → c σ H fun b H1 => if b = true then t D σ H1 else u D σ H1) : tIfS c t u D σ H := h hz
end
end Wb
namespace Wb
open PySem PySem.Spec PyProof.Rows L2
section
variable {K : PySem.W.Frag} {H : Hp} {Q : VK}
theorem w_isiS_str {a : Str} (q : Q (.bl true) H) : rIsiP K [.str a, .ty "str"] H Q := ⟨true, by decide +kernel, q⟩
theorem w_isiS_int {a : Str} (q : Q (.bl false) H) : rIsiP K [.str a, .ty "int"] H Q := ⟨false, by decide +kernel, q⟩
theorem w_isiS_bool {a : Str} (q : Q (.bl false) H) : rIsiP K [.str a, .ty "bool"] H Q := ⟨false, by decide +kernel, q⟩
theorem w_isiS_list {a : Str} (q : Q (.bl false) H) : rIsiP K [.str a, .ty "list"] H Q := ⟨false, by decide +kernel, q⟩
theorem w_isiS_tuple {a : Str} (q : Q (.bl false) H) : rIsiP K [.str a, .ty "tuple"] H Q := ⟨false, by decide +kernel, q⟩
theorem w_isiS_dict {a : Str} (q : Q (.bl false) H) : rIsiP K [.str a, .ty "dict"] H Q := ⟨false, by decide +kernel, q⟩
theorem w_isiI_str {a : Int} (q : Q (.bl false) H) : rIsiP K [.int a, .ty "str"] H Q := ⟨false, by decide +kernel, q⟩
theorem w_isiI_int {a : Int} (q : Q (.bl true) H) : rIsiP K [.int a, .ty "int"] H Q := ⟨true, by decide +kernel, q⟩
theorem w_isiI_bool {a : Int} (q : Q (.bl false) H) : rIsiP K [.int a, .ty "bool"] H Q := ⟨false, by decide +kernel, q⟩
theorem w_isiI_list {a : Int} (q : Q (.bl false) H) : rIsiP K [.int a, .ty "list"] H Q := ⟨false, by decide +kernel, q⟩
theorem w_isiI_tuple {a : Int} (q : Q (.bl false) H) : rIsiP K [.int a, .ty "tuple"] H Q := ⟨false, by decide +kernel, q⟩
theorem w_isiI_dict {a : Int} (q : Q (.bl false) H) : rIsiP K [.int a, .ty "dict"] H Q := ⟨false, by decide +kernel, q⟩
theorem w_isiB_str {a : Bool} (q : Q (.bl false) H) : rIsiP K [.bl a, .ty "str"] H Q := ⟨false, by decide +kernel, q⟩
theorem w_isiB_int {a : Bool} (q : Q (.bl true) H) : rIsiP K [.bl a, .ty "int"] H Q := ⟨true, by decide +kernel, q⟩
theorem w_isiB_bool {a : Bool} (q : Q (.bl true) H) : rIsiP K [.bl a, .ty "bool"] H Q := ⟨true, by decide +kernel, q⟩
theorem w_isiB_list {a : Bool} (q : Q (.bl false) H) : rIsiP K [.bl a, .ty "list"] H Q := ⟨false, by decide +kernel, q⟩
theorem w_isiB_tuple {a : Bool} (q : Q (.bl false) H) : rIsiP K [.bl a, .ty "tuple"] H Q := ⟨false, by decide +kernel, q⟩
theorem w_isiB_dict {a : Bool} (q : Q (.bl false) H) : rIsiP K [.bl a, .ty "dict"] H Q := ⟨false, by decide +kernel, q⟩
theorem w_isiN_str  (q : Q (.bl false) H) : rIsiP K [.non, .ty "str"] H Q := ⟨false, by decide +kernel, q⟩
theorem w_isiN_int  (q : Q (.bl false) H) : rIsiP K [.non, .ty "int"] H Q := ⟨false, by decide +kernel, q⟩
theorem w_isiN_bool  (q : Q (.bl false) H) : rIsiP K [.non, .ty "bool"] H Q := ⟨false, by decide +kernel, q⟩
theorem w_isiN_list  (q : Q (.bl false) H) : rIsiP K [.non, .ty "list"] H Q := ⟨false, by decide +kernel, q⟩
theorem w_isiN_tuple  (q : Q (.bl false) H) : rIsiP K [.non, .ty "tuple"] H Q := ⟨false, by decide +kernel, q⟩
theorem w_isiN_dict  (q : Q (.bl false) H) : rIsiP K [.non, .ty "dict"] H Q := ⟨false, by decide +kernel, q⟩
theorem w_isi_list_str {p : Addr} {xs : List V} (h : H p = some (.lst xs)) (q : Q (.bl false) H) : rIsiP K [.ref p, .ty "str"] H Q := ⟨"list", false, .base (.lst h), by decide +kernel, q⟩
theorem w_isi_list_int {p : Addr} {xs : List V} (h : H p = some (.lst xs)) (q : Q (.bl false) H) : rIsiP K [.ref p, .ty "int"] H Q := ⟨"list", false, .base (.lst h), by decide +kernel, q⟩
theorem w_isi_list_bool {p : Addr} {xs : List V} (h : H p = some (.lst xs)) (q : Q (.bl false) H) : rIsiP K [.ref p, .ty "bool"] H Q := ⟨"list", false, .base (.lst h), by decide +kernel, q⟩
theorem w_isi_list_list {p : Addr} {xs : List V} (h : H p = some (.lst xs)) (q : Q (.bl true) H) : rIsiP K [.ref p, .ty "list"] H Q := ⟨"list", true, .base (.lst h), by decide +kernel, q⟩
theorem w_isi_list_tuple {p : Addr} {xs : List V} (h : H p = some (.lst xs)) (q : Q (.bl false) H) : rIsiP K [.ref p, .ty "tuple"] H Q := ⟨"list", false, .base (.lst h), by decide +kernel, q⟩
theorem w_isi_list_dict {p : Addr} {xs : List V} (h : H p = some (.lst xs)) (q : Q (.bl false) H) : rIsiP K [.ref p, .ty "dict"] H Q := ⟨"list", false, .base (.lst h), by decide +kernel, q⟩
theorem w_isi_tuple_str {p : Addr} {xs : List V} (h : H p = some (.tup xs)) (q : Q (.bl false) H) : rIsiP K [.ref p, .ty "str"] H Q := ⟨"tuple", false, .base (.tup h), by decide +kernel, q⟩
theorem w_isi_tuple_int {p : Addr} {xs : List V} (h : H p = some (.tup xs)) (q : Q (.bl false) H) : rIsiP K [.ref p, .ty "int"] H Q := ⟨"tuple", false, .base (.tup h), by decide +kernel, q⟩
theorem w_isi_tuple_bool {p : Addr} {xs : List V} (h : H p = some (.tup xs)) (q : Q (.bl false) H) : rIsiP K [.ref p, .ty "bool"] H Q := ⟨"tuple", false, .base (.tup h), by decide +kernel, q⟩
theorem w_isi_tuple_list {p : Addr} {xs : List V} (h : H p = some (.tup xs)) (q : Q (.bl false) H) : rIsiP K [.ref p, .ty "list"] H Q := ⟨"tuple", false, .base (.tup h), by decide +kernel, q⟩
theorem w_isi_tuple_tuple {p : Addr} {xs : List V} (h : H p = some (.tup xs)) (q : Q (.bl true) H) : rIsiP K [.ref p, .ty "tuple"] H Q := ⟨"tuple", true, .base (.tup h), by decide +kernel, q⟩
theorem w_isi_tuple_dict {p : Addr} {xs : List V} (h : H p = some (.tup xs)) (q : Q (.bl false) H) : rIsiP K [.ref p, .ty "dict"] H Q := ⟨"tuple", false, .base (.tup h), by decide +kernel, q⟩
end
end Wb
namespace Wb
theorem iteNT {A B : Prop} (h : B) : if (!true) = true then A else B := L2.iteF h
theorem iteNF {A B : Prop} (h : A) : if (!false) = true then A else B := L2.iteT h
end Wb

set_option Elab.async false
set_option linter.all false
set_option maxRecDepth 100000
namespace Wb
open PySem PySem.Spec PyProof.Rows L2
open TL (tl)
/-! sorted lists of texts -/
def leS (a b : Str) : Bool := !decide (tl b < tl a)
theorem leS_iff {a b : Str} : leS a b = true ↔ tl a ≤ tl b := by
  unfold leS
  rw [Bool.not_eq_true', decide_eq_false_iff_not]; exact List.not_lt
theorem leS_trans {a b c : Str} (h1 : leS a b = true) (h2 : leS b c = true) : leS a c = true := leS_iff.mpr (List.le_trans (leS_iff.mp h1) (leS_iff.mp h2))
theorem leS_total (a b : Str) : (leS a b || leS b a) = true := by
  rcases List.le_total (tl a) (tl b) with h | h
  · rw [leS_iff.mpr h]; rfl
  · rw [leS_iff.mpr h]; simp
theorem leS_anti {a b : Str} (h1 : leS a b = true) (h2 : leS b a = true) : a = b := TL.ext_tl (List.le_antisymm (leS_iff.mp h1) (leS_iff.mp h2))
def sortS (l : List Str) : List Str := l.mergeSort leS
theorem sortS_perm (l : List Str) : (sortS l).Perm l := List.mergeSort_perm l leS
theorem sortS_pw (l : List Str) : (sortS l).Pairwise fun a b => leS a b = true := List.pairwise_mergeSort (le := leS) (fun a b c => leS_trans) leS_total l
theorem rising_pw : ∀ {l : List Str} {p : Str}, risingS p l = true → (∀ x ∈ l, leS p x = true) ∧ l.Pairwise fun a b => leS a b = true
  | [], p, _ => ⟨fun _ h => (nomatch h), List.Pairwise.nil⟩
  | x :: r, p, h => by
    unfold risingS at h
    rw [Bool.and_eq_true, Bool.not_eq_true', ltCps_eq] at h
    obtain ⟨h1, h2⟩ := h
    have e : leS p x = true := by unfold leS; rw [h1]; rfl
    obtain ⟨a, b⟩ := rising_pw h2
    refine ⟨fun y hy => ?_, .cons a b⟩
    rcases List.mem_cons.mp hy with rfl | hy
    · exact e
    · exact leS_trans e (a y hy)
theorem sortedS_pw {l : List Str} (h : sortedS l = true) : l.Pairwise fun a b => leS a b = true := by
  cases l with
  | nil => exact .nil
  | cons x r => obtain ⟨a, b⟩ := rising_pw h; exact .cons a b
theorem pw_unique : ∀ {l m : List Str}, l.Perm m → l.Pairwise (fun a b => leS a b = true) → m.Pairwise (fun a b => leS a b = true) → l = m
  | [], m, p, _, _ => p.nil_eq
  | x :: l, [], p, _, _ => by simp at p
  | x :: l, y :: m, p, h1, h2 => by
    have e : x = y := by
      have hx : x ∈ y :: m := p.mem_iff.mp (List.mem_cons_self ..)
      have hy : y ∈ x :: l := p.mem_iff.mpr (List.mem_cons_self ..)
      rcases List.mem_cons.mp hx with h | hx
      · exact h
      · rcases List.mem_cons.mp hy with h | hy
        · exact h.symm
        · exact leS_anti (List.rel_of_pairwise_cons h1 hy) (List.rel_of_pairwise_cons h2 hx)
    subst e
    rw [pw_unique (List.perm_cons x |>.mp p) (List.pairwise_cons.mp h1).2 (List.pairwise_cons.mp h2).2]
theorem sort_is {ys zs : List Str} (p : ys.Perm zs) (h : sortedS ys = true) : ys = sortS zs := pw_unique (p.trans (sortS_perm zs).symm) (sortedS_pw h) (sortS_pw zs)
theorem sortS_congr {l m : List Str} (p : l.Perm m) : sortS l = sortS m := pw_unique (((sortS_perm l).trans p).trans (sortS_perm m).symm) (sortS_pw l) (sortS_pw m)
section
variable {K : PySem.W.Frag} {H : Hp} {Q : VK} {B : List Addr}
theorem w_sorted {a : Addr} {zs : List Str} (h : SqL K H a (zs.map V.str)) (hz : zs.length < 64) (q : ∀ p, H p = none → Q (.ref p) (upd H p (.lst ((sortS zs).map V.str)))) : rSortedP K [.ref a] H Q :=
  ⟨zs, h, hz, fun ys p hp hs np => by rw [sort_is hp hs]; exact q p np⟩
/-! == of lists of texts -/
theorem dp_strs {a : Addr} {xs : List Str} (h : SqL K H a (xs.map V.str)) : Dp K H (.ref a) (.list (xs.map PyData.str)) := .lst h (dpall_strs xs)
theorem dp_strs_inv {v : V} {xs : List Str} (h : Dp K H v (.list (xs.map PyData.str))) : ∃ a, v = .ref a ∧ SqL K H a (xs.map V.str) := by
  cases h with
  | lst hs ha => rw [dpall_strs_inv ha] at hs; exact ⟨_, rfl, hs⟩
end
end Wb
namespace Wb
open PySem PySem.Spec PyProof.Rows L2
open TL (tl)
/-- a text of signs from the blank to the tilde -/
def Gd (t : Str) : Prop := ∀ c ∈ tl t, 32 ≤ c ∧ c < 127
theorem Gd.app {a b : Str} (h : Gd a) (k : Gd b) : Gd (a ++ b) := fun c hc => by
  rw [tl_app] at hc
  rcases List.mem_append.mp hc with z | z
  · exact h c z
  · exact k c z
theorem Gd.cut {a : Str} {lo hi : Option Int} (h : Gd a) : Gd (cutS a lo hi) := fun c hc => by
  rw [tl_cut] at hc
  exact h c (List.mem_of_mem_drop (List.mem_of_mem_take hc))
theorem Gd.of {a b : Str} (h : Gd b) (k : ∀ c ∈ a.cps.toList, c ∈ b.cps.toList) : Gd a := fun c hc => h c (k c hc)
theorem Gd.ok {a : Str} (h : Gd a) : PyData.strOk a = true := by
  unfold PyData.strOk
  rw [Array.all_eq_true']
  intro x hx
  have := (h x (by simpa [TL.tl] using hx)).2
  simp; omega
theorem gd_all {a : Str} (h : (tl a).all (fun c => decide (32 ≤ c ∧ c < 127)) = true) : Gd a := fun c hc => of_decide_eq_true (List.all_eq_true.mp h c hc)
theorem gd_ok {s : String} (h : (tl (Str.ofString s)).all (fun c => decide (32 ≤ c ∧ c < 127)) = true) : Gd (Str.ofString s) := fun c hc => of_decide_eq_true (List.all_eq_true.mp h c hc)
theorem depth_strs : ∀ xs : List Str, PyData.depthAll (xs.map PyData.str) ≤ 1
  | [] => by simp [PyData.depthAll]
  | x :: xs => by
    have := depth_strs xs
    simp [PyData.depthAll, PyData.depth]; omega
theorem lay_strs : ∀ xs : List Str, (∀ x ∈ xs, Gd x) → PyData.canLayAll0 (xs.map PyData.str) = true
  | [], _ => rfl
  | x :: xs, h => by
    show (PyData.canLay0 (.str x) && PyData.canLayAll0 (xs.map PyData.str)) = true
    rw [lay_strs xs fun y hy => h y (by simp [hy])]
    show (PyData.strOk x && true) = true
    rw [(h x (by simp)).ok]; rfl
theorem eqv_strs : ∀ xs ys : List Str, PyData.eqvAll (xs.map PyData.str) (ys.map PyData.str) = decide (xs = ys)
  | [], [] => by simp [PyData.eqvAll]
  | [], y :: ys => by simp [PyData.eqvAll]
  | x :: xs, [] => by simp [PyData.eqvAll]
  | x :: xs, y :: ys => by
    rw [List.map_cons, List.map_cons, PyData.eqvAll, eqv_strs xs ys, PyData.eqv]
    by_cases h1 : x = y <;> by_cases h2 : xs = ys <;> simp [h1, h2]
theorem shaped_strs {xs : List Str} (h : ∀ x ∈ xs, Gd x) : SeqAt.shaped (.list (xs.map PyData.str)) = true := by
  unfold SeqAt.shaped
  rw [show PyData.canLay0 (.list (xs.map PyData.str)) = true from lay_strs xs h]
  have := depth_strs xs
  simp [PyData.depth]; omega
section
variable {K : PySem.W.Frag} {H : Hp} {Q : VK} {B B' : List Addr} {a b : Addr} {xs ys : List Str}
theorem w_eqLS (ha : Dp K H (.ref a) (.list (xs.map PyData.str))) (hb : Dp K H (.ref b) (.list (ys.map PyData.str))) (ga : ∀ x ∈ xs, Gd x) (gb : ∀ x ∈ ys, Gd x) (q : Q (.bl (decide (xs = ys))) H) : rEqP K (.ref a) (.ref b) H Q :=
  ⟨_, _, ha, hb, shaped_strs ga, shaped_strs gb, by rw [show PyData.eqv (.list (xs.map PyData.str)) (.list (ys.map PyData.str)) = decide (xs = ys) from (by rw [PyData.eqv]; exact eqv_strs xs ys)]; exact q⟩
theorem w_neLS (ha : Dp K H (.ref a) (.list (xs.map PyData.str))) (hb : Dp K H (.ref b) (.list (ys.map PyData.str))) (ga : ∀ x ∈ xs, Gd x) (gb : ∀ x ∈ ys, Gd x) (q : Q (.bl (!decide (xs = ys))) H) : rNeP K (.ref a) (.ref b) H Q :=
  ⟨_, _, ha, hb, shaped_strs ga, shaped_strs gb, by rw [show PyData.eqv (.list (xs.map PyData.str)) (.list (ys.map PyData.str)) = decide (xs = ys) from (by rw [PyData.eqv]; exact eqv_strs xs ys)]; exact q⟩
theorem inV_strs (x : Str) : ∀ xs : List Str, inV (.str x) (xs.map V.str) = decide (x ∈ xs)
  | [] => by simp [inV]
  | y :: ys => by
    have := inV_strs x ys
    unfold inV at this ⊢
    rw [List.map_cons, List.any_cons, this]
    show ((y == x) || _) = _
    by_cases h : y = x
    · subst h; simp
    · have h' : ¬ x = y := fun z => h z.symm
      simp [h, h']
theorem flat_strs (xs : List Str) : (xs.map V.str).all flatV = true := by
  rw [List.all_map]; exact List.all_eq_true.mpr fun _ _ => rfl
theorem w_inLS {x : Str} (h : SqL K H a (xs.map V.str)) (q : Q (.bl (decide (x ∈ xs))) H) : rInP K false (.str x) (.ref a) H Q :=
  ⟨a, xs.map V.str, rfl, .inl h, rfl, flat_strs xs, by rw [inV_strs]; exact q⟩
theorem w_ninLS {x : Str} (h : SqL K H a (xs.map V.str)) (q : Q (.bl (!decide (x ∈ xs))) H) : rInP K true (.str x) (.ref a) H Q :=
  ⟨a, xs.map V.str, rfl, .inl h, rfl, flat_strs xs, by rw [inV_strs]; exact q⟩
theorem w_ixLS {i : Int} (h : SqL K H a (xs.map V.str)) (h0 : 0 ≤ i) (h1 : i < xs.length) (q : ∀ x ∈ xs, Q (.str x) H) : rIxP K (.ref a) (.int i) H Q := by
  have hl : i.toNat < xs.length := by omega
  exact ⟨_, _, .inl h, atI_nat' h0 (by rw [List.getElem?_map, List.getElem?_eq_getElem hl]; rfl), q _ (List.getElem_mem hl)⟩
theorem w_lenL {vs : List V} (h : SqL K H a vs) (q : Q (.int (vs.length : Nat)) H) : rLenP K [.ref a] H Q := ⟨_, .inl ⟨_, h, rfl⟩, q⟩
theorem w_list {vs : List V} (h : SqL K H a vs) (q : ∀ l, H l = none → Q (.ref l) (upd H l (.lst vs))) : rListP K [.ref a] H Q := ⟨vs, .inl h, q⟩
end
/-- a comprehension whose element and test change nothing that stood -/
theorem lc_pure {K : PySem.W.Frag} {a : Addr} {xs : List V} {g : TG} {tt : TT} {te : TE} {vs : List Nat} {σ : L2.St} {H1 : Hp} {D : Addr} {Qd : Hp → Prop} (f : V → Bool) (e : V → V) (hl : SqL K H1 a xs) (hz : xs.length ≤ 1000000) (nD : H1 D = none)
    (hs : ∀ x ∈ xs, ∀ H2, Ex H1 H2 → ∀ (Z : V → Hp → Prop) (N : Hp → Prop), (f x = true → ∀ H3, Ex H2 H3 → Z (e x) H3) → (f x = false → ∀ H3, Ex H2 H3 → N H3) →
      g x (wipe σ vs) H2 fun σ2 H3 => wipe σ2 vs = wipe σ vs ∧ tt σ2 H3 fun b H4 => if b = true then te σ2 H4 fun y H5 => Z y H5 else N H4)
    (hd : ∀ H2, Ex H1 H2 → H2 D = some (.lst ((xs.filter f).map e)) → Qd H2) :
    ∃ W : Nat → Nat → Hp → Prop, (∃ m, W 0 m (upd H1 D (.lst []))) ∧ ∀ i m H, W i m H →
      ((Itl K a).stop i H ∧ Qd H) ∨ ((Itl K a).go i H ∧ ∃ Nx : Hp → Prop, (∀ H', Nx H' → ∃ m', m' < m ∧ W (i + 1) m' H') ∧ ∀ x H', (Itl K a).yld i H x H' → g x (wipe σ vs) H' fun σ2 H2 => wipe σ2 vs = wipe σ vs ∧ tt σ2 H2 fun b H3 =>
        if b = true then te σ2 H3 fun y H4 => ∃ acc, H4 D = some (.lst acc) ∧ acc.length < sizeLine ∧ Nx (upd H4 D (.lst (acc ++ [y]))) else Nx H3) := by
  refine lc_list (K := K) (a := a) (xs := xs) (fun i H => Ex H1 H ∧ H D = some (.lst (((xs.take i).filter f).map e))) ⟨Ex.new nD, upd_same⟩ (fun i H _ hP => ex_l hP.1 hl) (fun i x H hx hP => ?_) (fun H hP => hd H hP.1 (by rw [List.take_length] at hP; exact hP.2))
  obtain ⟨E2, eD⟩ := hP
  have hm := List.mem_of_getElem? hx
  have ht : xs.take (i + 1) = xs.take i ++ [x] := by rw [List.take_add_one, hx]; rfl
  refine hs x hm H E2 (fun y H4 => ∃ acc, H4 D = some (.lst acc) ∧ acc.length < sizeLine ∧ (Ex H1 (upd H4 D (.lst (acc ++ [y]))) ∧ (upd H4 D (.lst (acc ++ [y]))) D = some (.lst (((xs.take (i + 1)).filter f).map e)))) (fun H3 => Ex H1 H3 ∧ H3 D = some (.lst (((xs.take (i + 1)).filter f).map e))) (fun hf H3 E3 => ?_) (fun hf H3 E3 => ?_)
  · refine ⟨_, E3 _ _ eD, ltl ?_, ?_, ?_⟩
    · rw [List.length_map]
      have h1 := List.length_filter_le f (xs.take i)
      have h2 := List.length_take_le i xs
      have h3 : (xs.take i).length ≤ xs.length := by rw [List.length_take]; omega
      omega
    · intro c o hc
      rw [upd_ne (ne_of_none hc nD)]
      exact E3 _ _ (E2 _ _ hc)
    · rw [upd_same, ht, List.filter_append, List.map_append]
      simp [hf]
  · refine ⟨E2.trans E3, ?_⟩
    rw [ht, List.filter_append]
    simp only [List.filter_cons, hf, List.filter_nil]
    simpa using E3 _ _ eD
end Wb
namespace Wb
open PySem PySem.Spec PyProof.Rows L2
theorem pe_revL' {X : Cx} {K : PySem.W.Frag} (hK : X.K = K) {e : Expr} {te : TE} {k : Nat} {p1 p2 p3 pos : Pos} (he : PE X e te) : PE X (.Subscript e (.Slice none none (some (.UnaryOp .USub (.Constant (.int 1) k p1) p2)) p3) pos) (tRevL K te) := by
  subst hK; exact pe_revL he
theorem w_rev {K : PySem.W.Frag} {te : TE} {σ : L2.St} {H : Hp} {Q : VK} (q : te σ H fun x H1 => ∃ a xs, x = .ref a ∧ SqL K H1 a xs ∧ ∀ p, H1 p = none → Q (.ref p) (upd H1 p (.lst xs.reverse))) : tRevL K te σ H Q := q
end Wb
namespace Wb
open PySem PySem.Spec PyProof.Rows L2
theorem w_call0 {sp : Sp} {E : XK} {tA : TA} {σ : L2.St} {H : Hp} {Q : VK} (q : tA σ H fun vs H1 => sp vs H1 Q E) : tCall sp [] E tA σ H Q := by
  unfold tCall
  simpa using q
theorem Ex.free {H H' : Hp} {p : Addr} (e : Ex H H') (h : H' p = none) : H p = none := by
  cases z : H p with
  | none => rfl
  | some o => rw [e _ _ z] at h; cases h
theorem Gd.one {c : Nat} {s : Str} (h : Gd s) (k : c ∈ s.cps.toList) : Gd ⟨#[c]⟩ := fun x hx => by
  have : x = c := by simpa [TL.tl] using hx
  rw [this]; exact h c k
theorem cut_len_to (z : Str) (n : Nat) : (cutS z none (some (n : Int))).length ≤ n := by
  rw [tl_len, tl_cut, List.length_take]
  have : HT.sIx (TL.tl z).length (TL.tl z).length (some (n : Int)) = min n (TL.tl z).length := HT.sIx_nat _ _ _
  rw [this, HT.sIx_none]; omega
theorem tl_to (z : Str) (n : Nat) : TL.tl (cutS z none (some (n : Int))) = (TL.tl z).take n := by
  rw [tl_cut, HT.sIx_none, List.drop_zero, show HT.sIx (TL.tl z).length (TL.tl z).length (some (n : Int)) = min n (TL.tl z).length from HT.sIx_nat _ _ _]
  rw [Nat.sub_zero, List.take_eq_take_iff]; omega
theorem tl_from (z : Str) (n : Nat) : TL.tl (cutS z (some (n : Int)) none) = (TL.tl z).drop n := by
  rw [tl_cut, HT.sIx_none, show HT.sIx (TL.tl z).length 0 (some (n : Int)) = min n (TL.tl z).length from HT.sIx_nat _ _ _]
  by_cases h : n ≤ (TL.tl z).length
  · rw [Nat.min_eq_left h]; exact List.take_of_length_le (by rw [List.length_drop]; omega)
  · rw [Nat.min_eq_right (by omega), List.drop_eq_nil_of_le (Nat.le_refl _), List.drop_eq_nil_of_le (by omega)]; simp
theorem len_to (z : Str) (n : Nat) : (cutS z none (some (n : Int))).length = min n z.length := by
  rw [tl_len, tl_to, List.length_take, tl_len]
theorem len_from (z : Str) (n : Nat) : (cutS z (some (n : Int)) none).length = z.length - n := by
  rw [tl_len, tl_from, List.length_drop, tl_len]
/-- z[:len b] == b : z begins with b -/
theorem cut_starts (z b : Str) : cutS z none (some (b.length : Nat)) = b ↔ Txt.startswith z b = true := by
  rw [starts_iff, str_eq, tl_to, List.prefix_iff_eq_take, ← tl_len]
  exact ⟨fun h => h.symm, fun h => h.symm⟩
end Wb
namespace Wb
open PySem PySem.Spec PyProof.Rows L2
section
variable {K : PySem.W.Frag} {H : Hp} {Q : VK} {l : Addr} {xs : List V} {y : V} {P : Prop}
theorem w_tyL (h : H l = some (.lst xs)) (q : P) : tyV K "list" (.ref l) H ∧ P := ⟨.inl ⟨rfl, _, .inl (.inl h)⟩, q⟩
theorem w_app (h : H l = some (.lst xs)) (hz : xs.length < sizeLine) (q : Q .non (upd H l (.lst (xs ++ [y])))) : rAppend (.ref l) [y] H Q := ⟨l, xs, y, rfl, rfl, h, hz, q⟩
end
end Wb
namespace Wb
open PySem PySem.Spec PyProof.Rows L2
theorem Stp.sq {K : PySem.W.Frag} {p a : Addr} {H H' : Hp} {xs : List V} (s : Stp p H H') (h : SqL K H a xs) (n : a ≠ p) : SqL K H' a xs := by
  rcases h with (h | ⟨o, h⟩) | h
  · exact .inl (.inl (s.at h n))
  · exact .inl (.inr ⟨o, s.at h n⟩)
  · exact .inr h
end Wb

set_option Elab.async false
set_option linter.all false
set_option maxRecDepth 100000
/-! the laws' own draws -/
namespace Wb
open PySem PySem.Spec PyProof.Rows L2
def sp_law_cell (K : PySem.W.Frag) : Sp := fun vs H Q E => ∃ (B : List Addr) (a : Addr) (ns : List Int) (k : Int), vs = [.ref a, .int k] ∧ Dp K (hid B H) (.ref a) (.list (ns.map PyData.int)) ∧ 0 ≤ k ∧ ∀ z : Int, Q (.int z) H
def sp_law_pot (K : PySem.W.Frag) : Sp := fun vs H Q E => ∃ (B : List Addr) (a : Addr) (ns : List Int) (k : Int), vs = [.ref a, .int k] ∧ Dp K (hid B H) (.ref a) (.list (ns.map PyData.int)) ∧ 0 ≤ k ∧ k ≤ 64 ∧
  ∀ p H', H p = none → Ex H H' → Pot H' p → Q (.ref p) H' 
def sp_law_draw (K : PySem.W.Frag) : Sp := fun vs H Q E => ∃ (p : Addr) (n : Int), vs = [.ref p, .int n] ∧ Pot H p ∧ 0 < n ∧ n < 1073741824 ∧
  ∀ d H', Ex (hid [p] H) (hid [p] H') → Pot H' p → 0 ≤ d → d < n → Q (.int d) H' 
theorem use_draw {K : PySem.W.Frag} {H0 H : Hp} {p : Addr} {n : Int} {Q : VK} {E : XK} (S : Stp p H0 H) (h1 : 0 < n) (h2 : n < 1073741824)
    (q : ∀ d H', Stp p H0 H' → Stp p H H' → 0 ≤ d → d < n → Q (.int d) H') : sp_law_draw K [.ref p, .int n] H Q E :=
  ⟨p, n, rfl, S.pot, h1, h2, fun d H' e hp a b => q d H' (S.trans ⟨e, hp⟩) ⟨e, hp⟩ a b⟩

def sp_law_signs (K : PySem.W.Frag) : Sp := fun vs H Q E => vs = [] ∧ ∀ s : Str, s.length = 94 → Gd s → Q (.str s) H
theorem use_signs {K : PySem.W.Frag} {H : Hp} {Q : VK} {E : XK} (q : ∀ s : Str, s.length = 94 → Gd s → Q (.str s) H) : sp_law_signs K [] H Q E := ⟨rfl, q⟩
def sp_law_text (K : PySem.W.Frag) : Sp := fun vs H Q E => ∃ (p : Addr) (m : Int) (s : Str), vs = [.ref p, .int m, .str s] ∧ Pot H p ∧ 0 ≤ m ∧ m ≤ 100 ∧ 0 < s.length ∧ s.length ≤ 200 ∧
  ∀ (t : Str) H', Ex (hid [p] H) (hid [p] H') → Pot H' p → t.length ≤ m → (∀ c ∈ t.cps.toList, c ∈ s.cps.toList) → Q (.str t) H' 
theorem join_signs {cs : List Nat} {ys : List Str} (h : ∀ y ∈ ys, ∃ c ∈ cs, y = ⟨#[c]⟩) : (ys.map (·.length)).sum = ys.length ∧ (Txt.join (Str.ofString "") ys).length = ys.length ∧ ∀ c ∈ (Txt.join (Str.ofString "") ys).cps.toList, c ∈ cs := by
  have e0 : TL.tl (Str.ofString "") = [] := by decide +kernel
  have e1 : TL.tl (Txt.join (Str.ofString "") ys) = (ys.map TL.tl).flatten := by
    rw [TL.join_eq, TL.tl_join, e0]
    generalize ys.map TL.tl = l
    clear h e0
    induction l with
    | nil => rfl
    | cons a r ih =>
      cases r with
      | nil => simp [TL.joinL]
      | cons b r => rw [TL.joinL, ih]; simp
  have e2 : (ys.map (·.length)).sum = ys.length ∧ ((ys.map TL.tl).flatten).length = ys.length ∧ ∀ c ∈ (ys.map TL.tl).flatten, c ∈ cs := by
    clear e1 e0
    induction ys with
    | nil => exact ⟨rfl, rfl, fun _ h => nomatch h⟩
    | cons y r ih =>
      obtain ⟨c, hc, rfl⟩ := h y (by simp)
      obtain ⟨a, b, d⟩ := ih fun z hz => h z (by simp [hz])
      refine ⟨?_, ?_, ?_⟩
      · rw [List.map_cons, List.sum_cons, a, List.length_cons]; show 1 + _ = _; omega
      · rw [List.map_cons, List.flatten_cons, List.length_append, b]; simp [TL.tl]; omega
      · intro x hx
        rw [List.map_cons, List.flatten_cons] at hx
        rcases List.mem_append.mp hx with z | z
        · have : x = c := by simpa [TL.tl] using z
          rw [this]; exact hc
        · exact d x z
  refine ⟨e2.1, ?_, ?_⟩
  · rw [TL.len_tl, e1]; exact e2.2.1
  · rw [show (Txt.join (Str.ofString "") ys).cps.toList = (ys.map TL.tl).flatten from e1]; exact e2.2.2
theorem use_text {K : PySem.W.Frag} {H0 H : Hp} {p : Addr} {m : Int} {s : Str} {Q : VK} {E : XK} (S : Stp p H0 H) (h1 : 0 ≤ m) (h2 : m ≤ 100) (h3 : 0 < s.length) (h4 : s.length ≤ 200)
    (q : ∀ (t : Str) H', Stp p H0 H' → Stp p H H' → t.length ≤ m → (∀ c ∈ t.cps.toList, c ∈ s.cps.toList) → Q (.str t) H') : sp_law_text K [.ref p, .int m, .str s] H Q E :=
  ⟨p, m, s, rfl, S.pot, h1, h2, h3, h4, fun d H' e hp a b => q d H' (S.trans ⟨e, hp⟩) ⟨e, hp⟩ a b⟩
end Wb

set_option Elab.async false
set_option linter.all false
set_option maxRecDepth 100000
/-! exceptions of the text's own classes -/
namespace Wb
open PySem PySem.Spec PyProof.Rows L2
/-- what is known of an exception class x at C -/
structure ExK (K : PySem.W.Frag) (mg : Str → Option Value) (x : Str) (C : Addr) : Prop where
  gC : mg x = some (.ref C)
  T : OexC K C
  ga : PySem.W.findIn K (.ref C) "__getattribute__" = some (some (.builtin "BaseException.__getattribute__"))
  gg : PySem.W.findIn K (.ref C) "__getattr__" = some none
  hd : PySem.W.hasDictIn K C = true
  ha : PySem.W.findIn K (.ref C) "__class__" = some (some (.builtin "object.__class__"))
  hn : PySem.W.specialIn K (.builtin "object.__class__") "__get__" = some (some (.builtin "getset_descriptor.__get__"))
  ht : PySem.W.takesIn K (.builtin "object.__class__") = some true
  hm : PySem.W.mroIn K C (.type "object") = some true
/-- a class whose __init__ is ValueError's, read off the class -/
structure VeRd (K : PySem.W.Frag) (B : Addr) : Prop where
  sp : PySem.W.specialIn K (.ref B) "__getattribute__" = some (some (.builtin "type.__getattribute__"))
  rd : PySem.W.readsIn K B (.type "type") = true
  fd : PySem.W.findCls K (.ref B) (.type "type") "__init__" = some (.val (.builtin "ValueError.__init__"))
section
variable {X : Cx} {o e : Expr} {es : List Expr} {to te : TE} {ta : TA} {f x : Str} {p p' p1 p2 pos : Pos} {B : Addr} {K : PySem.W.Frag}
def tVeP (K : PySem.W.Frag) (ta : TA) : TE := tVeI K ta
/-- B.__init__(self, ..), B an own exception class without an __init__ -/
theorem pe_clsve {pl : Sem Bool} (hK : X.K = K) (hg : Gl X x) (hm : X.mg x = some (.ref B)) (v : VeRd K B) (ha : PA X (e :: es) ta)
    (hd : (x == ("__debug__" : Str)) = false := by decide)
    (hc : eval (.Call (.Attribute (.Name x p1) "__init__" p2) (e :: es) [] pos) X.env = (do
      let ov ← eval (.Name x p1) X.env
      standAt p2.atName
      let (f, first) ← holding [ov] (getMethod ov "__init__" pl)
      callWith pos f first (backTo pos (starEach (e :: es) X.env)) (backToKw pos (keywordEach [] X.env))) := by rfl)
    (he : starEach (e :: es) X.env = (false, eval e X.env) :: starEach es X.env := by rfl) (hpl : (backTo pos (starEach es X.env)).any (·.1) = false := by rfl) :
    PE X (.Call (.Attribute (.Name x p1) "__init__" p2) (e :: es) [] pos) (tVeP K ta) := by
  subst hK
  refine ⟨fun pins s σ H Q I h => ?_⟩
  refine PySem.W.methodCall_KW (ld_glob I hg hm ?_ hd) hc
  refine PySem.W.method_cls I.kIn v.sp (PySem.W.cls_value I.kIn v.rd v.fd (by rfl) ?_)
  show wpAny _ _ (callWith pos (Value.builtin "ValueError.__init__") [] (backTo pos (starEach (e :: es) X.env)) []) _ _ _
  refine PyProof.Rows.callWith_method1 (thn (ha.run pos pins _ σ H _ (I.tok _) h) fun us s1 ⟨vs, H1, I1, r1, q1⟩ => ?_) he hpl
  obtain ⟨a, C, ws, ev, hl, T, ea, q⟩ := q1
  subst ev
  cases r1 with
  | @cons _ u0 _ ur ra rw' =>
    obtain rfl : u0 = Value.ref a := ra
    have hlen : ur.length ≤ sizeLine := by
      rw [← Paired.length rw', sizeLine_eq]
      omega
    exact oinit_ok T I1 ea hlen fun s' J => ⟨.non, H1, J, rfl, q⟩
theorem ps_ostK (hK : X.K = K) (ho : PE X o to) (he : PE X e te) (hs : swapsWith e (some (.Attribute o f p')) pos.line X.env = pure false := by rfl) : PS X (.Assign [.Attribute o f p'] e pos) (tOst K f to te) := by
  subst hK; exact ps_ost ho he hs
end
section
variable {K : PySem.W.Frag} {σ : L2.St} {H : Hp} {Q : VK} {ta : TA} {to te : TE} {f : Str} {D : Ends}
theorem w_ve (q : ta σ H fun vs H1 => ∃ (a C : Addr) (ws : List V), vs = .ref a :: ws ∧ ws.length ≤ 1000 ∧ OexC K C ∧ H1 a = some (exo a C none) ∧ Q .non H1) : tVeP K ta σ H Q := q
theorem w_ost (q : te σ H fun y H1 => to σ H1 fun x H2 => ∃ a C : Addr, x = .ref a ∧ OexC K C ∧ PySem.W.findIn K (.ref C) f = some none ∧
  ((H2 a = some (exo a C none) ∧ ∀ dx, H2 dx = none → dx ≠ a → D.nx σ (upd (upd H2 dx (exd dx [(f, y)])) a (exo a C (some dx)))) ∨
    ∃ (dx : Addr) (fs : List (Str × V)), H2 a = some (exo a C (some dx)) ∧ H2 dx = some (exd dx fs) ∧ fs.length ≤ 900 ∧ D.nx σ (upd H2 dx (exd dx ((f, y) :: fs))))) : tOst K f to te D σ H := q
end
/-- the promise of an __init__ that stores one thing in a field -/
def sp_exi1 (C : Addr) (f : Str) : Sp := fun vs H Q E => ∃ (a : Addr) (y : V), vs = [.ref a, y] ∧ H a = some (exo a C none) ∧ ∀ dx, H dx = none → dx ≠ a → Q .non (upd (upd H dx (exd dx [(f, y)])) a (exo a C (some dx)))
theorem made_heap {H : Hp} {a d C : Addr} {f : Str} {y : V} (ha : H a = none) (hne : d ≠ a) : upd (del (upd (upd (upd H a (exo a C none)) d (exd d [(f, y)])) a (exo a C (some d))) a) d (.xd [(f, y)]) = upd H d (.xd [(f, y)]) := by
  funext b
  by_cases h1 : b = d
  · subst h1; rw [upd_same, upd_same]
  · rw [upd_ne h1, upd_ne h1]
    by_cases h2 : b = a
    · subst h2; rw [del_same, ha]
    · rw [del_ne h2, upd_ne h2, upd_ne h1, upd_ne h2]
/-- a raise's reading -/
def tRs (W : WX) (t : L2.St → Hp → XK → Prop) : TS := fun _ σ H => t σ H fun cls d H' => W cls d σ H'
theorem ps_rs {X : Cx} {W : WX} {e : Expr} {t : L2.St → Hp → XK → Prop} {pos : Pos} (hc : X.calm = true) (tk : Takes X W) (he : PMk X e t) : PS X (.Raise (some e) none pos) (tRs W t) := ps_raise hc tk he
section
variable {σ : L2.St} {H : Hp} {W : WX} {t : L2.St → Hp → XK → Prop} {D : Ends} {ta : TA} {C : Addr} {sp : Sp} {dvs : List V} {Q : XK} {f : Str} {y : V}
theorem w_rs (q : t σ H fun cls d H' => W cls d σ H') : tRs W t D σ H := q
theorem w_mkO (q : ta σ H fun vs H1 => vs.length ≤ 1000 ∧ ∀ a, H1 a = none → sp (.ref a :: (vs ++ dvs)) (upd H1 a (exo a C none))
  (fun v H2 => v = .non ∧ ∃ (d : Addr) (fs : List (Str × V)), H2 a = some (exo a C (some d)) ∧ H2 d = some (exd d fs) ∧ H1 d = none ∧ Q (.ref C) (some d) (upd (del H2 a) d (.xd fs))) (fun _ _ _ => False)) : tMkO C sp dvs ta σ H Q := q
/-- .. where the __init__ keeps one thing -/
theorem w_mk1 {vs : List V} (e : vs ++ dvs = [y]) (q : ∀ d, H d = none → Q (.ref C) (some d) (upd H d (.xd [(f, y)]))) : vs.length ≤ 1000 ∧ ∀ a, H a = none → (sp_exi1 C f) (.ref a :: (vs ++ dvs)) (upd H a (exo a C none))
  (fun v H2 => v = .non ∧ ∃ (d : Addr) (fs : List (Str × V)), H2 a = some (exo a C (some d)) ∧ H2 d = some (exd d fs) ∧ H d = none ∧ Q (.ref C) (some d) (upd (del H2 a) d (.xd fs))) (fun _ _ _ => False) := by
  have hl : vs.length ≤ 1000 := by
    have := congrArg List.length e
    rw [List.length_append] at this
    simp at this; omega
  refine ⟨hl, fun a ha => ⟨a, y, by rw [e], upd_same, fun dx hdx hne => ⟨rfl, dx, [(f, y)], upd_same, by rw [upd_ne hne, upd_same], by rw [upd_ne hne] at hdx; exact hdx, ?_⟩⟩⟩
  have hdx2 : H dx = none := by rw [upd_ne hne] at hdx; exact hdx
  have z : upd (del (upd (upd (upd H a (exo a C none)) dx (exd dx [(f, y)])) a (exo a C (some dx))) a) dx (.xd [(f, y)]) = upd H dx (.xd [(f, y)]) := made_heap ha hne
  rw [z]; exact q dx hdx2
end
/-! the caught exception, in its suite -/
/-- isinstance in a suite: of the exception itself, or of another value -/
def rIsX (K : PySem.W.Frag) (mg : Str → Option Value) (a : Addr) (cls : Value) (d : Option Addr) : List V → Hp → VK → Prop := fun xs H Q => match xs with
  | [.ref b, c] => (b = a ∧ ∃ (x : Str) (D : Addr) (cv : Value) (r : Bool), cls = .ref D ∧ ExK K mg x D ∧ ClsV c cv ∧ PySem.W.kitOne K (.ref D) cv = some r ∧ (d = none ∨ ∃ dd fs, d = some dd ∧ H dd = some (.xd fs)) ∧ Q (.bl r) H) ∨ rIsiP K [.ref b, c] H Q
  | xs => rIsiP K xs H Q
theorem hasDict_cls {K : PySem.W.Frag} {C : Addr} (h : PySem.W.hasDictIn K C = true) : (PySem.W.clsIn K C).isSome = true := by
  obtain ⟨cd, hc, _⟩ := PySem.W.any_some h
  rw [hc]; rfl
theorem call_isX {X : Cx} {K : PySem.W.Frag} {mg : Str → Option Value} (hK : X.K = K) (hm : X.mg = mg) {a : Addr} {cls : Value} {d : Option Addr} {oe : Obj} {pn : List (Addr × Obj)} (hz : Zc cls d oe) (hf : ∃ vs, oe.data = .fields vs) : CallR (X.suite a ((a, oe) :: pn)) (.builtin "isinstance") (rIsX K mg a cls d) := by
  subst hK hm
  intro pins s σ H xs us Q I r h
  unfold rIsX at h
  split at h
  · rename_i b c
    rcases h with ⟨rfl, x, D, cv, rr, ec, E, hc, e, hdd, q⟩ | h
    · subst ec
      cases r with
      | cons rx rr' =>
        cases rr' with
        | cons rt rr'' =>
          cases rr''
          cases rx
          have ec := hc.eq rt
          subst ec
          obtain ⟨hget, _⟩ := I.pin (b, oe) (List.mem_append.mpr (.inl List.mem_cons_self))
          obtain ⟨vs, hv⟩ := hf
          obtain ⟨oc, od, oda, osl⟩ := oe
          obtain ⟨h1, h2⟩ := hz
          dsimp only at h1 h2 hv
          subst h1 h2 hv
          rcases hdd with rfl | ⟨dd, fs, rfl, ea⟩
          · exact PySem.W.kia_one (PySem.W.kitx_exc (od := none) (hasDict_cls E.hd) E.ga E.gg E.T.exC E.ha E.hn E.ht E.hm) I.kIn ⟨hget, rfl, rfl, trivial⟩ e (fun z => nomatch z) fun tk => ⟨.bl rr, H, I.kept (t' := tk) fun _ _ z => z, rfl, q⟩
          · have hx : ObjOk X.prog X.w H s.heap dd (.xd fs) := I.hok dd _ ea
            obtain ⟨mA, hns, _⟩ := hx
            obtain ⟨od, ho, _⟩ := lookIn_ns hns
            exact PySem.W.kia_one (PySem.W.kitx_exc (od := some od) (hasDict_cls E.hd) E.ga E.gg E.T.exC E.ha E.hn E.ht E.hm) I.kIn ⟨hget, rfl, rfl, ho⟩ e (fun z => nomatch z) fun tk => ⟨.bl rr, H, I.kept (t' := tk) fun _ _ z => z, rfl, q⟩
    · exact call_isiP rfl pins s σ H _ us Q I r h
  · exact call_isiP rfl pins s σ H _ us Q I r h
section
variable {K : PySem.W.Frag} {mg : Str → Option Value} {a : Addr} {cls : Value} {d : Option Addr} {H : Hp} {Q : VK} {c : V} {x f : Str} {C dd : Addr} {fs : List (Str × V)} {v : V}
theorem w_isX {cv : Value} {r : Bool} (E : ExK K mg x C) (hc : ClsV c cv) (e : PySem.W.kitOne K (.ref C) cv = some r) (h : H dd = some (.xd fs)) (q : Q (.bl r) H) : rIsX K mg a (.ref C) (some dd) [.ref a, c] H Q :=
  .inl ⟨rfl, x, C, cv, r, rfl, E, hc, e, .inr ⟨dd, fs, rfl, h⟩, q⟩
theorem w_isXS {t : Str} (h : rIsiP K [.str t, c] H Q) : rIsX K mg a cls d [.str t, c] H Q := h
theorem w_isXI {t : Int} (h : rIsiP K [.int t, c] H Q) : rIsX K mg a cls d [.int t, c] H Q := h
theorem w_isXR {t : Addr} (h : rIsiP K [.ref t, c] H Q) : rIsX K mg a cls d [.ref t, c] H Q := .inr h
end
/-- e.f of a caught exception, its class found at the reading -/
def tXfK (K : PySem.W.Frag) (a : Addr) (cls : Value) (d : Option Addr) (f : Str) (te : TE) : TE := fun σ H Q => te σ H fun x H1 => x = .ref a ∧ ∃ (C dd : Addr) (fs : List (Str × V)) (v : V), cls = .ref C ∧ XfC K C ∧ PySem.W.findIn K (.ref C) f = some none ∧ d = some dd ∧ H1 dd = some (.xd fs) ∧ fs.lookup f = some v ∧ Q v H1
theorem pe_xfK {X : Cx} {K : PySem.W.Frag} (hK : X.K = K) {a : Addr} {oe : Obj} {cls : Value} {d : Option Addr} {pn : List (Addr × Obj)} {e : Expr} {te : TE} {pos : Pos} {n : Str}
    (hz : Zc cls d oe) (hf : ∃ vs, oe.data = .fields vs) (he : PE (X.suite a ((a, oe) :: pn)) e te) (hb : attributeBase e n X.env (eval e X.env) = eval e X.env := by rfl) :
    PE (X.suite a ((a, oe) :: pn)) (.Attribute e n pos) (tXfK K a cls d n te) := by
  subst hK
  refine ⟨fun pins s σ H Q I h => ?_⟩
  refine attr_of hb (thn (he.run pins s σ H _ I h) fun u s1 hh => ?_)
  obtain ⟨x, H1, I1, rx, ex, C, dd, fs, v, ec, T, hno, ed, ea, l, q⟩ := hh
  subst ex
  obtain rfl : u = Value.ref a := rx
  subst ec
  subst ed
  obtain ⟨ha, _⟩ := I1.pin (a, oe) (List.mem_append_left _ List.mem_cons_self)
  obtain ⟨vs, hd⟩ := hf
  have hx : ObjOk X.prog X.w H1 s1.heap dd (.xd fs) := I1.hok dd _ ea
  obtain ⟨mA, hns, hr⟩ := hx
  obtain ⟨od, ho, hl⟩ := lookIn_ns hns
  obtain ⟨u, hu, ru⟩ := RelO.some_of (v := v) (o := mA n) (by rw [← l]; exact hr n)
  have J : PySem.W.InstAt s1.heap a oe C (some od) := ⟨ha, hz.1, by unfold PySem.W.notCls; rw [hd] <;> rfl, by rw [hz.2]; exact ho⟩
  exact HandSPX.exc_get I1.kIn J T.ga T.gg T.exC (PySem.W.findObj_own T.hdC hno rfl (by rw [hl, hu])) (handed_of ru) ⟨v, H1, I1.tok _, ru, q⟩
section
variable {K : PySem.W.Frag} {mg : Str → Option Value} {a : Addr} {d : Option Addr} {H : Hp} {Q : VK} {x f : Str} {C dd : Addr} {fs : List (Str × V)} {v : V} {σ : L2.St} {te : TE} {cls : Value}
theorem ExK.xf (E : ExK K mg x C) : XfC K C := ⟨E.ga, E.gg, E.T.exC, E.hd⟩
theorem w_xf (q : te σ H fun x H1 => x = .ref a ∧ ∃ (C dd : Addr) (fs : List (Str × V)) (v : V), cls = .ref C ∧ XfC K C ∧ PySem.W.findIn K (.ref C) f = some none ∧ d = some dd ∧ H1 dd = some (.xd fs) ∧ fs.lookup f = some v ∧ Q v H1) : tXfK K a cls d f te σ H Q := q
end
/-! calls of defs that slots hold, and defs that may raise -/
theorem _root_.L2.FnOk.up {P : Program} {w : World} {K : PySem.W.Frag} {mg : Str → Option Value} {base : Heap} {CX : CXT} {k : Nat} {f : Addr} {fd : FuncData} {ps : List Str} {sp : Sp} (F : FnOk P w K mg base CX0 k f fd ps sp) : FnOk P w K mg base CX k f fd ps sp :=
  ⟨F.len, fun A outer s H args us vs Q E hr he hb hv hs => codeAny_mono (F.run A outer s H args us vs Q E hr he hb hv hs) fun r s' h => by
    cases r with
    | error e => exact False.elim h
    | ok fl => cases fl <;> exact h⟩
/-- the def at f keeps the promise sp -/
def HeldX (P : Program) (w : World) (K : PySem.W.Frag) (mg : Str → Option Value) (base : Heap) (k : Nat) (f : Addr) (sp : Sp) : Prop :=
  ∃ (fd : FuncData) (ps : List Str), FnOk P w K mg base (L2.CX P w) k f fd ps sp ∧ PySem.W.keepIn K (.ref f) = true ∧ Binds K fd ps []
def tCallV (OK : Addr → Sp → Prop) (i : Nat) (E : L2.St → XK) (t : TA) : TE := fun σ H Q => ∃ (f : Addr) (sp : Sp), σ[i]? = some (some (.ref f)) ∧ OK f sp ∧ t σ H fun vs H1 => sp vs H1 Q (E σ)
theorem pe_callV {X : Cx} {k i : Nat} {E : L2.St → XK} {x : Str} {p pos : Pos} {e : Expr} {es : List Expr} {t : TA} {OK : Addr → Sp → Prop} (ho : ∀ f sp, OK f sp → HeldX X.prog X.w X.K X.mg X.base k f sp) (hr : Room k X.A) (hN : X.N[i]? = some x) (hv : Vis X.env.scope x) (hx : ∀ σ, PassesAt (L2.CX X.prog X.w) X σ (E σ)) (ha : PA X (e :: es) t)
    (hdb : (x == ("__debug__" : Str)) = false := by decide) (hcd : (x == ("__classdict__" : Str)) = false := by decide)
    (he : starEach (e :: es) X.env = (false, eval e X.env) :: starEach es X.env := by rfl) (hpl : (backTo pos (starEach es X.env)).any (·.1) = false := by rfl) : PE X (.Call (.Name x p) (e :: es) [] pos) (tCallV OK i E t) := by
  refine ⟨fun pins s σ H Q I h => ?_⟩
  obtain ⟨f, sp, hs, hok, ht⟩ := h
  obtain ⟨fd, ps, F, hk, hb⟩ := ho f sp hok
  refine wpAny_Call_Name_kw (thn ((pe_var (pos := p) hN hv hdb hcd).run pins s σ H (fun v H1 => v = .ref f ∧ H1 = H) I ⟨.ref f, hs, rfl, rfl⟩) fun u s1 ⟨v, H1, I1, r1, q1⟩ => ?_)
  obtain ⟨rfl, rfl⟩ := q1
  cases r1
  refine PySem.W.callWith_K (h₀ := X.base) I.ok.mod.kin hk (thn (ha.run pos pins s1 σ _ _ I1 ht) fun us s2 ⟨vs, H2, I2, r, q⟩ => ⟨I2.kIn, ?_⟩) he hpl
  exact run_fnS F hr hb (hx σ) I2 r q
section
variable {σ : L2.St} {H : Hp} {Q : VK} {t : TA} {sp : Sp} {dvs : List V} {E : L2.St → XK} {OK : Addr → Sp → Prop} {i : Nat} {f : Addr}
theorem w_callSD (q : t σ H fun vs H1 => sp (vs ++ dvs) H1 Q (E σ)) : tCallSD sp dvs E t σ H Q := q
theorem w_callS (q : t σ H fun vs H1 => sp vs H1 Q (E σ)) : tCallS sp E t σ H Q := q
theorem w_callV (hs : σ[i]? = some (some (.ref f))) (ho : OK f sp) (q : t σ H fun vs H1 => sp vs H1 Q (E σ)) : tCallV OK i E t σ H Q := ⟨f, sp, hs, ho, q⟩
theorem w_we {W : WX} {cls : Value} {d : Option Addr} (q : W cls d σ H) : WE W σ cls d H := q
/-- a clause's exception of its own class -/
theorem w_as {K : PySem.W.Frag} {c : Value} {i : Nat} {ts : Addr → Value → Option Addr → TS} {Wout : WX} {D : Ends} {cls : Value} {d : Option Addr} (h : PySem.W.exmOne K cls c = some true)
    (q : ∀ a, H a = none → ts a cls d { nx := fun σ' H' => D.nx (σ'.set i none) H', rt := D.rt, bk := fun σ' H' => D.bk (σ'.set i none) H', ct := fun σ' H' => D.ct (σ'.set i none) H' } (σ.set i (some (.ref a))) H) : wAs K c i ts Wout D cls d σ H :=
  ⟨true, h, fun _ => q, fun z => Bool.noConfusion z⟩
theorem w_only {K : PySem.W.Frag} {c : Value} {ts : Addr → Value → Option Addr → TS} {Wout : WX} {D : Ends} {cls : Value} {d : Option Addr} (h : PySem.W.exmOne K cls c = some true)
    (q : ∀ a, H a = none → ts a cls d D σ H) : wOnly K c ts Wout D cls d σ H :=
  ⟨true, h, fun _ => q, fun z => Bool.noConfusion z⟩
end
/-! defs with defaults -/
section
variable {P : Program} {w : World} {K : PySem.W.Frag} {mg : Str → Option Value} {base : Heap} {x qual : Str} {params : Arguments} {body : List Stmt} {scope : Scope} {dvs : List V} {kws : List (Str × V)} {f : Addr} {fd : FuncData}
theorem _root_.L2.FunD.ok0 {N ps : List Str} {k : Nat} {sp : Sp} (F : FunD K x qual params body scope dvs kws f fd) (S : FnScope N ps scope) (len : ∀ vs H Q E, sp vs H Q E → vs.length = ps.length)
    (hbody : ∀ (cdv : Value) (A : Around) (outer : List Env) (s : Shared) (H : Hp) (vs : List V) (Q : VK) (E : XK), Room k (A.deeper (envOfC qual scope s.heap.objs.size f cdv)) → sp vs H Q E →
      ∃ t, PSs (cxOf CX0 P w K mg base N qual scope f cdv A outer s H E).nox body t ∧ t { nx := fun _ H' => Q .non H', rt := Q } (start N vs) H) : FnOk P w K mg base CX0 (k + 1) f fd ps sp := by
  obtain ⟨oc, od, dV, kV, doc, pm, an, cdv, ct, osl, rfl, lk, hcd, _, _⟩ := F.ex
  refine fn_of lk hcd S len fun A outer s H vs Q E hr hsp => ?_
  obtain ⟨t, h, q⟩ := hbody cdv A outer s H vs Q E hr hsp
  exact ⟨t, h.nox, q⟩
theorem fund_mk {st : Stmt} {oc : Value} {od an : Option Addr} {osl : Array (Option Value)} {kV doc pm cdv ct : Value} {T : Addr} {oT : Obj} {its : List Value} {n : Nat} (l : K.lookup f = some ⟨oc, od, .func (PySem.W.fnOf x qual (defArgs st) (defBody st) (defScope st) (.ref T) kV doc pm an cdv ct), osl⟩)
    (c : PySem.W.codeIn K cdv qual = true) (k : PySem.W.keepIn K (.ref f) = true) (lT : K.lookup T = some oT) (oD : oT.data = .seq its.toArray n) (hv : Vals dvs its) (hd : dvs ≠ []) :
    FunD K x qual (defArgs st) (defBody st) (defScope st) dvs [] f (PySem.W.fnOf x qual (defArgs st) (defBody st) (defScope st) (.ref T) kV doc pm an cdv ct) :=
  ⟨⟨oc, od, .ref T, kV, doc, pm, an, cdv, ct, osl, rfl, l, c, .inr ⟨hd, T, oT, its, n, rfl, lT, oD, hv⟩, .inl rfl⟩, k⟩
/-- all parameters are written -/
theorem _root_.L2.FunD.bindsW {ps : List Str} (F : FunD K x qual params body scope dvs [] f fd) (hd : dvs ≠ [])
    (h : ∀ (T : Addr) (kV doc pm : Value) (an : Option Addr) (cdv ct : Value) (us its : List Value), us.length = ps.length → its.length = dvs.length →
      ∃ k, bindArgs (PySem.W.fnOf x qual params body scope (.ref T) kV doc pm an cdv ct) ⟨us, []⟩ = seqItems? (.ref T) >>= k ∧ k (some its.toArray) = pure (ps.zip us)) : Binds K fd ps [] := by
  have h2 : ∀ (T : Addr) (kV doc pm : Value) (an : Option Addr) (cdv ct : Value) (us its : List Value), us.length = ps.length → its.length = dvs.length →
      ∃ k, bindArgs (PySem.W.fnOf x qual params body scope (.ref T) kV doc pm an cdv ct) ⟨us, []⟩ = seqItems? (.ref T) >>= k ∧ k (some its.toArray) = pure (ps.zip (us ++ its.drop dvs.length)) := fun T kV doc pm an cdv ct us its h1 h2 => by
    obtain ⟨k, a, b⟩ := h T kV doc pm an cdv ct us its h1 h2
    exact ⟨k, a, by rw [b, List.drop_of_length_le (by omega), List.append_nil]⟩
  obtain ⟨ds, r, b⟩ := F.binds1 ps.length dvs.length hd (by omega) h2
  rw [List.drop_length] at r
  cases r
  exact b
end
end Wb

set_option Elab.async false
set_option linter.all false
set_option maxRecDepth 100000
namespace Wb
open PySem PySem.Spec PyProof.Rows L2
open TL (tl)
section
variable {X : Cx}
/-- int(x) of an int, a truth, a text -/
def rInt3P : List V → Hp → VK → Prop := fun xs H Q => match xs with
  | [.int i] => Q (.int i) H
  | [.bl k] => Q (.int (if k then 1 else 0)) H
  | [.str a] => ∃ n, PySem.intText? a = some n ∧ a.length ≤ 640 ∧ Q (.int n) H
  | _ => False
theorem call_int3 : CallR X (.type "int") rInt3P := by
  intro pins s σ H xs us Q I r h
  unfold rInt3P at h
  split at h
  · exact call_intP pins s σ H _ us Q I r h
  · exact call_intP pins s σ H _ us Q I r h
  · obtain ⟨n, h1, h2, q⟩ := h
    exact call_int_str pins s σ H _ us Q I r ⟨_, n, rfl, h1, h2, q⟩
  · exact h.elim
def rStr1P : List V → Hp → VK → Prop := fun xs H Q => match xs with
  | [.int i] => i.natAbs.log2 < 1920 ∧ Q (.str (toString i)) H
  | [.str a] => Q (.str a) H
  | _ => False
theorem call_str1P : CallR X (.type "str") rStr1P := by
  intro pins s σ H xs us Q I r h
  unfold rStr1P at h
  split at h
  · exact call_str_int pins s σ H _ us Q I r ⟨_, rfl, h.1, h.2⟩
  · exact SkE.call_str_str pins s σ H _ us Q I r ⟨_, rfl, h⟩
  · exact h.elim
/-- s.index(y), y found -/
def rIndexP : V → List V → Hp → VK → Prop := fun x xs H Q => match x, xs with
  | .str a, [.str b] => ∃ k rest, Builtin.Str.occurrences a b 0 a.length 1 = k :: rest ∧ Q (.int (k : Nat)) H
  | _, _ => False
theorem mt_indexP : MtR X "str.index" rIndexP := by
  intro pins s σ H x xs v us Q I rx rs h
  unfold rIndexP at h
  split at h
  · obtain ⟨k, rest, q, w⟩ := h
    obtain ⟨t, rfl⟩ := rx
    cases rs with
    | cons r1 rs =>
      cases rs
      obtain ⟨u, rfl⟩ := r1
      exact PySem.SC.index q ⟨.int (k : Nat), H, I.tok _, ⟨_, rfl⟩, w⟩
  · exact h.elim
theorem pe_veinitK {K : PySem.W.Frag} (hK : X.K = K) {e : Expr} {es : List Expr} {ta : TA} {p1 p2 pos : Pos} {pl : Sem Bool} (hg : Gl X "ValueError") (hm : X.mg "ValueError" = none) (vV : PySem.W.findCls K (.type "ValueError") (.type "type") "__init__" = some (.val (.builtin "ValueError.__init__"))) (ha : PA X (e :: es) ta)
    (hc : eval (.Call (.Attribute (.Name "ValueError" p1) "__init__" p2) (e :: es) [] pos) X.env = (do
      let ov ← eval (.Name "ValueError" p1) X.env
      standAt p2.atName
      let (f, first) ← holding [ov] (getMethod ov "__init__" pl)
      callWith pos f first (backTo pos (starEach (e :: es) X.env)) (backToKw pos (keywordEach [] X.env))) := by rfl)
    (he : starEach (e :: es) X.env = (false, eval e X.env) :: starEach es X.env := by rfl) (hpl : (backTo pos (starEach es X.env)).any (·.1) = false := by rfl) :
    PE X (.Call (.Attribute (.Name "ValueError" p1) "__init__" p2) (e :: es) [] pos) (tVeP K ta) := by
  subst hK; exact pe_veinit hg hm vV ha hc he hpl
end
theorem pi_strK {X : Cx} {K : PySem.W.Frag} (hK : X.K = K) {tg l : Expr} {tl : TE} (hl : PE X l tl) : PI X tg l (iStr tl) := pi_str hl
section
variable {K : PySem.W.Frag} {H : Hp} {Q : VK} {σ : L2.St}
theorem w_int3I {i : Int} (q : Q (.int i) H) : rInt3P [.int i] H Q := q
theorem w_int3B {k : Bool} (q : Q (.int (if k then 1 else 0)) H) : rInt3P [.bl k] H Q := q
theorem w_int3S {a : Str} {n : Int} (e : PySem.intText? a = some n) (hl : a.length ≤ 640) (q : Q (.int n) H) : rInt3P [.str a] H Q := ⟨n, e, hl, q⟩
theorem w_str1S {a : Str} (q : Q (.str a) H) : rStr1P [.str a] H Q := q
theorem w_str1I {i : Int} (h : i.natAbs.log2 < 1920) (q : Q (.str (toString i)) H) : rStr1P [.int i] H Q := ⟨h, q⟩
theorem w_index {a b : Str} {k : Nat} {rest : List Nat} (e : Builtin.Str.occurrences a b 0 a.length 1 = k :: rest) (q : Q (.int (k : Nat)) H) : rIndexP (.str a) [.str b] H Q := ⟨k, rest, e, q⟩
theorem w_istr {te : TE} {R : It → Hp → Prop} (q : te σ H fun v H1 => ∃ x, v = .str x ∧ R (Its x) H1) : iStr te σ H R := q
theorem w_istrS {x : Str} {R : It → Hp → Prop} (q : R (Its x) H) : ∃ y, V.str x = .str y ∧ R (Its y) H := ⟨x, rfl, q⟩
theorem w_pp {tk tv : TE} {r : List (TE × TE)} {QP : List (V × V) → Hp → Prop} (q : tk σ H fun x H1 => tv σ H1 fun y H2 => tPairs r σ H2 fun ps H3 => QP ((x, y) :: ps) H3) : tPairs ((tk, tv) :: r) σ H QP := q
theorem w_pn {QP : List (V × V) → Hp → Prop} (q : QP [] H) : tPairs [] σ H QP := q
/-- an if whose ends are forgotten -/
theorem w_ifY {c : TT} {t u : TS} {D : Ends} (Z : L2.St → Hp → Prop) (hz : ∀ σ H, Z σ H → D.nx σ H) (h : ∀ nx' : L2.St → Hp → Prop, (∀ σ H, Z σ H → nx' σ H) → c σ H fun b H1 => if b = true then t { D with nx := nx' } σ H1 else u { D with nx := nx' } σ H1) : tIfS c t u D σ H := h D.nx hz
theorem w_isN {te : TE} (q : te σ H Q) : te σ H Q := q
theorem w_dget {td ty : TE} (q : td σ H fun x H1 => ty σ H1 fun y H2 => ∃ a v, x = .ref a ∧ DGet H2 a y (some v) ∧ Q v H2) : tDGet td ty σ H Q := q
end
/-- a walk over a text -/
theorem for_str {z : Str} {g : TG} {tb : TS} {D : Ends} {σ : L2.St} {H : Hp} (Pv : Nat → L2.St → Hp → Prop) (h0 : Pv 0 σ H)
    (hs : ∀ i c σ H, (tl z)[i]? = some c → Pv i σ H → g (.str ⟨#[c]⟩) σ H fun σ2 H2 => tb { D with nx := Pv (i + 1), ct := Pv (i + 1), bk := D.nx } σ2 H2) (hd : ∀ σ H, Pv (tl z).length σ H → D.nx σ H) :
    ∃ W : Nat → Nat → L2.St → Hp → Prop, (∃ m, W 0 m σ H) ∧ ∀ i m σ H, W i m σ H →
      ((Its z).stop i H ∧ D.nx σ H) ∨ ((Its z).go i H ∧ ∃ N : L2.St → Hp → Prop, (∀ σ' H', N σ' H' → ∃ m', m' < m ∧ W (i + 1) m' σ' H') ∧ ∀ x H', (Its z).yld i H x H' → g x σ H' fun σ2 H2 => tb { D with nx := N, ct := N, bk := D.nx } σ2 H2) := by
  have hl : z.cps.size = (tl z).length := rfl
  refine ⟨fun i m σ H => m = (tl z).length - i ∧ i ≤ (tl z).length ∧ Pv i σ H, ⟨(tl z).length, by simp, Nat.zero_le _, h0⟩, ?_⟩
  rintro i m σ H ⟨rfl, hi, p⟩
  by_cases hlt : i < (tl z).length
  · refine .inr ⟨show i < z.cps.size by omega, Pv (i + 1), fun σ' H' p' => ⟨(tl z).length - (i + 1), by omega, rfl, hlt, p'⟩, fun x H' y => ?_⟩
    obtain ⟨e, c, hc, rfl⟩ := y
    subst e
    exact hs i c σ _ (by rw [← Array.getElem?_toList] at hc; exact hc) p
  · have e : i = (tl z).length := by omega
    subst e
    exact .inl ⟨show z.cps.size ≤ (tl z).length by omega, hd σ H p⟩
theorem lc_str {z : Str} {g : TG} {tt : TT} {te : TE} {vs : List Nat} {σ : L2.St} {H1 : Hp} {D : Addr} {Qd : Hp → Prop} (Pv : Nat → Hp → Prop) (h0 : Pv 0 (upd H1 D (.lst [])))
    (hs : ∀ i c H, (tl z)[i]? = some c → Pv i H → g (.str ⟨#[c]⟩) (wipe σ vs) H fun σ2 H2 => wipe σ2 vs = wipe σ vs ∧ tt σ2 H2 fun b H3 =>
      if b = true then te σ2 H3 fun y H4 => ∃ acc, H4 D = some (.lst acc) ∧ acc.length < sizeLine ∧ Pv (i + 1) (upd H4 D (.lst (acc ++ [y]))) else Pv (i + 1) H3) (hd : ∀ H, Pv (tl z).length H → Qd H) :
    ∃ W : Nat → Nat → Hp → Prop, (∃ m, W 0 m (upd H1 D (.lst []))) ∧ ∀ i m H, W i m H →
      ((Its z).stop i H ∧ Qd H) ∨ ((Its z).go i H ∧ ∃ Nx : Hp → Prop, (∀ H', Nx H' → ∃ m', m' < m ∧ W (i + 1) m' H') ∧ ∀ x H', (Its z).yld i H x H' → g x (wipe σ vs) H' fun σ2 H2 => wipe σ2 vs = wipe σ vs ∧ tt σ2 H2 fun b H3 =>
        if b = true then te σ2 H3 fun y H4 => ∃ acc, H4 D = some (.lst acc) ∧ acc.length < sizeLine ∧ Nx (upd H4 D (.lst (acc ++ [y]))) else Nx H3) := by
  have hl : z.cps.size = (tl z).length := rfl
  refine ⟨fun i m H => m = (tl z).length - i ∧ i ≤ (tl z).length ∧ Pv i H, ⟨(tl z).length, by simp, Nat.zero_le _, h0⟩, ?_⟩
  rintro i m H ⟨rfl, hi, p⟩
  by_cases hlt : i < (tl z).length
  · refine .inr ⟨show i < z.cps.size by omega, Pv (i + 1), fun H' p' => ⟨(tl z).length - (i + 1), by omega, rfl, hlt, p'⟩, fun x H' y => ?_⟩
    obtain ⟨e, c, hc, rfl⟩ := y
    subst e
    exact hs i c _ (by rw [← Array.getElem?_toList] at hc; exact hc) p
  · have e : i = (tl z).length := by omega
    subst e
    exact .inl ⟨show z.cps.size ≤ (tl z).length by omega, hd H p⟩
/-- a comprehension over a text whose element and test change nothing that stood -/
theorem lc_pureS {z : Str} {g : TG} {tt : TT} {te : TE} {vs : List Nat} {σ : L2.St} {H1 : Hp} {D : Addr} {Qd : Hp → Prop} (f : Nat → Bool) (e : Nat → V) (hz : (tl z).length ≤ 1000000) (nD : H1 D = none)
    (hs : ∀ x ∈ tl z, ∀ H2, Ex H1 H2 → ∀ (Z : V → Hp → Prop) (N : Hp → Prop), (f x = true → ∀ H3, Ex H2 H3 → Z (e x) H3) → (f x = false → ∀ H3, Ex H2 H3 → N H3) →
      g (.str ⟨#[x]⟩) (wipe σ vs) H2 fun σ2 H3 => wipe σ2 vs = wipe σ vs ∧ tt σ2 H3 fun b H4 => if b = true then te σ2 H4 fun y H5 => Z y H5 else N H4)
    (hd : ∀ H2, Ex H1 H2 → H2 D = some (.lst (((tl z).filter f).map e)) → Qd H2) :
    ∃ W : Nat → Nat → Hp → Prop, (∃ m, W 0 m (upd H1 D (.lst []))) ∧ ∀ i m H, W i m H →
      ((Its z).stop i H ∧ Qd H) ∨ ((Its z).go i H ∧ ∃ Nx : Hp → Prop, (∀ H', Nx H' → ∃ m', m' < m ∧ W (i + 1) m' H') ∧ ∀ x H', (Its z).yld i H x H' → g x (wipe σ vs) H' fun σ2 H2 => wipe σ2 vs = wipe σ vs ∧ tt σ2 H2 fun b H3 =>
        if b = true then te σ2 H3 fun y H4 => ∃ acc, H4 D = some (.lst acc) ∧ acc.length < sizeLine ∧ Nx (upd H4 D (.lst (acc ++ [y]))) else Nx H3) := by
  refine lc_str (fun i H => Ex H1 H ∧ H D = some (.lst ((((tl z).take i).filter f).map e))) ⟨Ex.new nD, upd_same⟩ (fun i x H hx hP => ?_) (fun H hP => hd H hP.1 (by rw [List.take_length] at hP; exact hP.2))
  obtain ⟨E2, eD⟩ := hP
  have hm := List.mem_of_getElem? hx
  have ht : (tl z).take (i + 1) = (tl z).take i ++ [x] := by rw [List.take_add_one, hx]; rfl
  refine hs x hm H E2 (fun y H4 => ∃ acc, H4 D = some (.lst acc) ∧ acc.length < sizeLine ∧ (Ex H1 (upd H4 D (.lst (acc ++ [y]))) ∧ (upd H4 D (.lst (acc ++ [y]))) D = some (.lst ((((tl z).take (i + 1)).filter f).map e)))) (fun H3 => Ex H1 H3 ∧ H3 D = some (.lst ((((tl z).take (i + 1)).filter f).map e))) (fun hf H3 E3 => ?_) (fun hf H3 E3 => ?_)
  · refine ⟨_, E3 _ _ eD, ltl ?_, ?_, ?_⟩
    · rw [List.length_map]
      have h1 := List.length_filter_le f ((tl z).take i)
      have h3 : ((tl z).take i).length ≤ (tl z).length := by rw [List.length_take]; omega
      omega
    · intro c o hc
      rw [upd_ne (ne_of_none hc nD)]
      exact E3 _ _ (E2 _ _ hc)
    · rw [upd_same, ht, List.filter_append, List.map_append]
      simp [hf]
  · refine ⟨E2.trans E3, ?_⟩
    rw [ht, List.filter_append]
    simp only [List.filter_cons, hf, List.filter_nil]
    simpa using E3 _ _ eD
theorem putK_new {κ : Type} [DecidableEq κ] {kvs : List (κ × V)} {k : κ} {v : V} (h : k ∉ kvs.map (·.1)) : putK kvs k v = kvs ++ [(k, v)] := by
  unfold putK
  rw [if_neg]
  intro z
  obtain ⟨p, hp, e⟩ := List.any_eq_true.mp z
  exact h (List.mem_map.mpr ⟨p, hp, of_decide_eq_true e⟩)
theorem mergeK_app : ∀ (more kvs : List (Key × V)), (more.map (·.1)).Nodup → (∀ k ∈ more.map (·.1), k ∉ kvs.map (·.1)) → mergeK kvs more = kvs ++ more
  | [], kvs, _, _ => by rw [List.append_nil]; rfl
  | p :: r, kvs, h, hd => by
    rw [List.map_cons, List.nodup_cons] at h
    show mergeK (putK kvs p.1 p.2) r = _
    rw [putK_new (hd p.1 (by simp)), mergeK_app r _ h.2 ?_, List.append_assoc]
    · rfl
    · intro k hk
      rw [List.map_append, List.mem_append]
      rintro (z | z)
      · exact hd k (by rw [List.map_cons]; exact List.mem_cons_of_mem _ hk) z
      · rw [List.map_cons, List.map_nil, List.mem_singleton] at z
        exact h.1 (z ▸ hk)
/-- the pairs of a dict display with unlike keys -/
theorem mergeK_nd {kvs : List (Key × V)} {ks : List Key} (e : kvs.map (·.1) = ks) (h : decide ks.Nodup = true) : mergeK [] kvs = kvs := by
  have := mergeK_app kvs [] (by rw [e]; exact of_decide_eq_true h) (fun _ _ z => nomatch z)
  rw [this, List.nil_append]
/-- an int's text -/
theorem tl_neg (m : Nat) : tl (Str.ofString (toString (-((m + 1 : Nat) : Int)))) = 45 :: TL.numL (m + 1) := by
  have e : (-((m + 1 : Nat) : Int)) = Int.negSucc m := rfl
  rw [e]
  show (Str.ofString ("-" ++ Nat.repr (m + 1))).cps.toList = _
  have h := PySem.W.KIN.signs_num (m + 1)
  have h2 : (Str.ofString (Nat.repr (m + 1))).cps.toList = TL.numL (m + 1) := h
  rw [signs_ofString] at h2 ⊢
  rw [String.toList_append, List.map_append, h2]
  rfl
section
variable {K : PySem.W.Frag} {H : Hp} {Q : VK} {a b : Addr} {d : PyData}
/-- two that read as the same -/
theorem w_eqSame (ha : Dp K H (.ref a) d) (hb : Dp K H (.ref b) d) (h : SeqAt.shaped d = true) (q : Q (.bl true) H) : rEqP K (.ref a) (.ref b) H Q :=
  ⟨d, d, ha, hb, h, h, by rw [SeqAt.eqv_refl d (SeqAt.canLay_of_shaped h)]; exact q⟩
theorem w_isNN (q : Q (.bl true) H) : (fun (x y : V) (H : Hp) (Q : VK) => y = .non ∧ Q (.bl (decide (x = .non))) H) .non .non H Q := ⟨rfl, q⟩
end
/-- an exception's text and the signs -/
theorem ixd (c : Nat) (h1 : 48 ≤ c) (h2 : c ≤ 57) : Builtin.Str.occurrences (Str.ofString "0123456789") ⟨#[c]⟩ 0 (Str.ofString "0123456789").length 1 = [c - 48] := by
  have h : c = 48 ∨ c = 49 ∨ c = 50 ∨ c = 51 ∨ c = 52 ∨ c = 53 ∨ c = 54 ∨ c = 55 ∨ c = 56 ∨ c = 57 := by omega
  rcases h with rfl | rfl | rfl | rfl | rfl | rfl | rfl | rfl | rfl | rfl <;> decide +kernel
end Wb

set_option Elab.async false
set_option linter.all false
set_option maxRecDepth 100000
/-! calls with keywords and defaults -/
namespace Wb
open PySem PySem.Spec PyProof.Rows L2
open TL (tl)
def pickL {α : Type} (idx : List Nat) (l : List α) : List α := idx.filterMap (l[·]?)
theorem vals_pick {vs : List V} {us : List Value} (r : Vals vs us) : ∀ idx : List Nat, Vals (pickL idx vs) (pickL idx us)
  | [] => .nil
  | i :: idx => by
    have ih := vals_pick r idx
    unfold pickL at ih ⊢
    cases e : vs[i]? with
    | none =>
      have hu : us[i]? = none := by
        rw [List.getElem?_eq_none_iff] at e ⊢
        rw [← r.length]; exact e
      rw [List.filterMap_cons_none e, List.filterMap_cons_none hu]
      exact ih
    | some x =>
      obtain ⟨u, hu, hr⟩ := r.get e
      rw [List.filterMap_cons_some e, List.filterMap_cons_some hu]
      exact .cons hr ih
section
variable {K : PySem.W.Frag} {x qual : Str} {params : Arguments} {body : List Stmt} {scope : Scope} {dvs : List V} {kws : List (Str × V)} {f : Addr} {fd : FuncData} {ps : List Str}
theorem _root_.L2.FunD.kbP (F : FunD K x qual params body scope dvs kws f fd) (n : Nat) (ks : List Str) (idx : List Nat) (hd : dvs ≠ [])
    (h : ∀ (T : Addr) (kV doc pm : Value) (an : Option Addr) (cdv ct : Value) (us its ws : List Value), us.length = n → its.length = dvs.length → ws.length = ks.length →
      ∃ k, bindArgs (PySem.W.fnOf x qual params body scope (.ref T) kV doc pm an cdv ct) ⟨us, ks.zip ws⟩ = seqItems? (.ref T) >>= k ∧ k (some its.toArray) = pure (ps.zip (pickL idx (us ++ its ++ ws)))) :
    ∃ its : List Value, KBn K fd ps n ks (fun us ws => pickL idx (us ++ its ++ ws)) (fun vs zs => pickL idx (vs ++ dvs ++ zs)) :=
  F.kbindsD n ks (fun us its ws => pickL idx (us ++ its ++ ws)) hd (fun r1 r2 r3 => vals_pick ((r1.append r2).append r3) idx) h
end
section
variable {X : Cx} {CX : CXT} {k n : Nat} {f : Addr} {fd : FuncData} {ps ks : List Str} {sp : Sp} {E : XK} {x : Str} {p pos : Pos} {e : Expr} {es : List Expr} {kws : List Keyword} {t tk : TA} {dvs : List V} {gV : List V → List V → List V} {g : List Value → List Value → List Value → List Value}
/-- f(e, ..), the defaults behind -/
theorem pe_callDE (F : FnOk X.prog X.w X.K X.mg X.base CX k f fd ps sp) (hr : Room k X.A) (hg : Gl X x) (hm : X.mg x = some (.ref f)) (hk : PySem.W.keepIn X.K (.ref f) = true) (hb : ∃ ds, Vals dvs ds ∧ Binds X.K fd ps ds) (hx : Passes CX X E)
    (ha : PA X (e :: es) t) (hdb : (x == ("__debug__" : Str)) = false := by decide) (he : starEach (e :: es) X.env = (false, eval e X.env) :: starEach es X.env := by rfl) (hpl : (backTo pos (starEach es X.env)).any (·.1) = false := by rfl) :
    PE X (.Call (.Name x p) (e :: es) [] pos) (tCall sp dvs E t) := by
  obtain ⟨ds, hd, hb⟩ := hb
  exact pe_call F hr hg hm hk hb hd hx ha hdb he hpl
/-- f(e, .., k = v, ..) -/
theorem pe_callNE (F : FnOk X.prog X.w X.K X.mg X.base CX k f fd ps sp) (hr : Room k X.A) (hg : Gl X x) (hm : X.mg x = some (.ref f)) (hk : PySem.W.keepIn X.K (.ref f) = true) (hb : ∃ its, KBn X.K fd ps n ks (g its) gV) (hx : Passes CX X E)
    (ha : PA X (e :: es) t) (hkw : PK X kws tk) (hall : (backToKw pos (keywordEach kws X.env)).all (·.1.isSome) = true := by rfl) (hks : (backToKw pos (keywordEach kws X.env)).filterMap (·.1) = ks := by rfl)
    (hdb : (x == ("__debug__" : Str)) = false := by decide) (he : starEach (e :: es) X.env = (false, eval e X.env) :: starEach es X.env := by rfl)
    (hpl : ((backTo pos (starEach (e :: es) X.env)).any (·.1) || (backToKw pos (keywordEach kws X.env)).any (·.1.isNone)) = false := by rfl) :
    PE X (.Call (.Name x p) (e :: es) kws pos) (tCallN n ks.length sp gV E t tk) := by
  obtain ⟨its, hb⟩ := hb
  exact pe_callN F hr hg hm hk hb hx ha hkw hall hks hdb he hpl
/-- f(k = v, ..) -/
theorem pe_callN0 (F : FnOk X.prog X.w X.K X.mg X.base CX k f fd ps sp) (hr : Room k X.A) (hg : Gl X x) (hm : X.mg x = some (.ref f)) (hk : PySem.W.keepIn X.K (.ref f) = true) (hb : ∃ its, KBn X.K fd ps 0 ks (g its) gV) (hx : Passes CX X E)
    (hkw : PK X kws tk) (hall : (backToKw pos (keywordEach kws X.env)).all (·.1.isSome) = true := by rfl) (hks : (backToKw pos (keywordEach kws X.env)).filterMap (·.1) = ks := by rfl)
    (hdb : (x == ("__debug__" : Str)) = false := by decide)
    (hpl : ((backTo pos (starEach [] X.env)).any (·.1) || (backToKw pos (keywordEach kws X.env)).any (·.1.isNone)) = false := by rfl) :
    PE X (.Call (.Name x p) [] kws pos) (tCallN 0 ks.length sp gV E tNil tk) := by
  obtain ⟨its, hb⟩ := hb
  refine ⟨fun pins s σ H Q I h => ?_⟩
  refine wpAny_Call_Name_kw (ld_glob I hg hm ?_ hdb)
  refine PySem.W.callWith_KW0 (h₀ := X.base) I.ok.mod.kin hk hall (thn (hkw.run pos pins s σ H _ I h) fun ws s2 ⟨zs, H2, I2, rz, l1, l2, q2⟩ => ⟨I2.kIn, ?_⟩) hpl
  rw [hks]
  exact run_fnN F hr hb hx I2 .nil rz l1 l2 q2
end
section
variable {σ : L2.St} {H : Hp} {Q : VK} {n m : Nat} {sp : Sp} {gV : List V → List V → List V} {E : XK} {t tk : TA}
theorem w_callN (q : t σ H fun vs H1 => tk σ H1 fun zs H2 => vs.length = n ∧ zs.length = m ∧ sp (gV vs zs) H2 Q E) : tCallN n m sp gV E t tk σ H Q := q
end
section
variable {X : Cx} {H : Hp} {Q : VK}
def rAbsP : List V → Hp → VK → Prop := fun xs H Q => match xs with
  | [.int i] => ∀ j : Int, 0 ≤ j → Q (.int j) H
  | _ => False
theorem call_absP : CallR X (.builtin "abs") rAbsP := by
  intro pins s σ H xs us Q I r h
  unfold rAbsP at h
  split at h
  · exact call_abs pins s σ H _ us Q I r ⟨_, rfl, h _ (by split <;> omega)⟩
  · exact h.elim
end
theorem w_absI {H : Hp} {Q : VK} {i : Int} (q : ∀ j : Int, 0 ≤ j → Q (.int j) H) : rAbsP [.int i] H Q := q
theorem pi_enumK {X : Cx} {K : PySem.W.Frag} (hK : X.K = K) {e : Expr} {ta : TA} {p pos tpos : Pos} {elts : List Expr} {kk : Nat} (hg : Gl X "enumerate") (hm : X.mg "enumerate" = none) (ha : PA X [e] ta) (hs : starEach [e] X.env = [(false, eval e X.env)] := by rfl) :
    PI X (.Tuple elts kk tpos) (.Call (.Name "enumerate" p) [e] [] pos) (iEnum K ta) := by
  subst hK; exact pi_enum hg hm ha hs
theorem w_enum {K : PySem.W.Frag} {σ : L2.St} {H : Hp} {ta : TA} {R : It → Hp → Prop} (q : ta σ H fun vs H1 => ∃ a xs, vs = [.ref a] ∧ SqL K H1 a xs ∧ R (Ite K a) H1) : iEnum K ta σ H R := q
/-- over enumerate of a list that the body leaves as it is -/
theorem for_enum {K : PySem.W.Frag} {a : Addr} {xs : List V} {g : TG} {tb : TS} {D : Ends} {σ : L2.St} {H : Hp} (Pv : Nat → L2.St → Hp → Prop) (h0 : Pv 0 σ H) (hl : ∀ i σ H, i ≤ xs.length → Pv i σ H → SqL K H a xs)
    (hs : ∀ i x σ H T, xs[i]? = some x → Pv i σ H → H T = none → g (.ref T) σ (upd H T (.tup [.int (i : Nat), x])) fun σ2 H2 => tb { D with nx := Pv (i + 1), ct := Pv (i + 1), bk := D.nx } σ2 H2) (hd : ∀ σ H, Pv xs.length σ H → D.nx σ H) :
    ∃ W : Nat → Nat → L2.St → Hp → Prop, (∃ m, W 0 m σ H) ∧ ∀ i m σ H, W i m σ H →
      ((Ite K a).stop i H ∧ D.nx σ H) ∨ ((Ite K a).go i H ∧ ∃ N : L2.St → Hp → Prop, (∀ σ' H', N σ' H' → ∃ m', m' < m ∧ W (i + 1) m' σ' H') ∧ ∀ x H', (Ite K a).yld i H x H' → g x σ H' fun σ2 H2 => tb { D with nx := N, ct := N, bk := D.nx } σ2 H2) := by
  refine ⟨fun i m σ H => m = xs.length - i ∧ i ≤ xs.length ∧ Pv i σ H, ⟨xs.length, by simp, Nat.zero_le _, h0⟩, ?_⟩
  rintro i m σ H ⟨rfl, hi, p⟩
  have q := hl i σ H hi p
  by_cases hlt : i < xs.length
  · refine .inr ⟨⟨xs, xs[i], q, by simp [hlt]⟩, Pv (i + 1), fun σ' H' p' => ⟨xs.length - (i + 1), by omega, rfl, hlt, p'⟩, fun x H' y => ?_⟩
    obtain ⟨T, z, e1, n1, e2, e3⟩ := y
    subst e1
    subst e2
    exact hs i z σ H T (e3 xs q) p n1
  · have e : i = xs.length := by omega
    subst e
    exact .inl ⟨⟨xs, q, Nat.le_refl _⟩, hd σ H p⟩
theorem w_ifVV {c : Bool} {i j : Nat} {v : V} {σ : L2.St} {H : Hp} {Q : VK} (h1 : c = true → σ[i]? = some (some v)) (h2 : c = false → σ[j]? = some (some v)) (q : Q v H) : if c = true then tVar i σ H Q else tVar j σ H Q := by
  cases c with
  | true => rw [if_pos rfl]; exact ⟨v, h1 rfl, q⟩
  | false => rw [if_neg Bool.false_ne_true]; exact ⟨v, h2 rfl, q⟩
end Wb

set_option Elab.async false
set_option linter.all false
set_option maxRecDepth 100000
/-! judgements behind which a token is out -/
namespace Wb
open PySem PySem.Spec PyProof.Rows L2
open TL (tl)
/-- behind the expression a token is out -/
def PE1 (X : Cx) (e : Expr) (t : TE) : Prop :=
  ∀ (pins : List (Addr × Obj)) (s : Shared) (σ : L2.St) (H : Hp) (Q : VK), Inv X pins σ H s → t σ H Q → wpAny (model X.prog X.w) X.A (eval e X.env) (fun v s' => 1 ≤ s'.toks ∧ EP X pins σ Q v s') X.xe s
def PSs1 (X : Cx) (st : List Stmt) (t : TS) : Prop :=
  ∀ (pins : List (Addr × Obj)) (s : Shared) (σ : L2.St) (H : Hp) (D : Ends), Inv X pins σ H s → t D σ H → wpAny (model X.prog X.w) X.A (execs st X.env) (fun f s' => 1 ≤ s'.toks ∧ SP X pins D f s') X.xe s
structure Fn1 (P : Program) (w : World) (K : PySem.W.Frag) (mg : Str → Option Value) (base : Heap) (k : Nat) (f : Addr) (fd : FuncData) (ps : List Str) (sp : Sp) : Prop where
  len : ∀ vs H Q E, sp vs H Q E → vs.length = ps.length
  run : ∀ (A : Around) (outer : List Env) (s : Shared) (H : Hp) (args : Args) (us : List Value) (vs : List V) (Q : VK) (E : XK), Room k A → Env0 P w K mg base A outer s H → BindsTo s fd args (ps.zip us) → Vals vs us → sp vs H Q E →
    codeAny (model P w) A (.call (.ref f) args) (fun r s' => 1 ≤ s'.toks ∧ CR CX0 outer P w H s Q E r s') s
section
variable {X : Cx} {st : Stmt} {rest : List Stmt} {t u : TS}
theorem pss1_str {i j : Nat} {x c : Str} {cpos pos' pos : Pos} (hN : X.N.Nodup) (hi : X.N[i]? = some x) (hx : Loc X.env.scope x) (h2 : PSs X rest u)
    (hs : swapsWith (.Constant (.str c) j cpos) (some (.Name x pos')) pos.line X.env = pure false := by rfl) (hf : X.fn x = true ∨ X.env.scope.names.lookup x = some .local := by first | exact .inl rfl | exact .inr rfl | assumption) :
    PSs1 X (.Assign [.Name x pos'] (.Constant (.str c) j cpos) pos :: rest) (tSeq (tAsg (tC (.str c)) (gName i)) u) := by
  intro pins s σ H D I h
  refine wpAny_execs_cons (wpAny_Assign_Name (Calls.Constant_str ?_) hs)
  refine wpAny_mono (PySem.wpAny_toks (store_ok (v := V.str c) (u := Value.str c s.toks) (Q := fun _ s2 => Inv X pins (σ.set i (some (V.str c))) H s2) (I.tok (s.toks + 1)) hN hi hx ⟨s.toks, rfl⟩ (fun _ I2 => I2) hf)) (fun _ s2 q => ?_) fun _ _ z => z.2
  have hk : s.toks + 1 ≤ s2.toks := q.1
  exact wpAny_mono (PySem.wpAny_toks_of (n := 1) (by omega) (h2.run pins s2 _ H D q.2 h)) (fun _ _ z => z) fun _ _ z => z.2
end
section
variable {P : Program} {w : World} {K : PySem.W.Frag} {mg : Str → Option Value} {base : Heap}
theorem fn1_of {k : Nat} {f : Addr} {name qual : Str} {params : Arguments} {body : List Stmt} {scope : Scope} {dV kV doc pm cdv ct oc : Value} {an od : Option Addr}
    {osl : Array (Option Value)} {N ps : List Str} {sp : Sp} (lk : K.lookup f = some ⟨oc, od, .func (PySem.W.fnOf name qual params body scope dV kV doc pm an cdv ct), osl⟩) (hcd : PySem.W.codeIn K cdv qual = true) (S : FnScope N ps scope)
    (len : ∀ vs H Q E, sp vs H Q E → vs.length = ps.length)
    (hbody : ∀ (A : Around) (outer : List Env) (s : Shared) (H : Hp) (vs : List V) (Q : VK) (E : XK), Room k (A.deeper (envOfC qual scope s.heap.objs.size f cdv)) → sp vs H Q E →
      ∃ t, PSs1 (cxOf CX0 P w K mg base N qual scope f cdv A outer s H E) body t ∧ t { nx := fun _ H' => Q .non H', rt := Q } (start N vs) H) :
    Fn1 P w K mg base (k + 1) f (PySem.W.fnOf name qual params body scope dV kV doc pm an cdv ct) ps sp := by
  refine ⟨len, fun A outer s H args us vs Q E hr e0 hb r hsp => ?_⟩
  have hl := len _ _ _ _ hsp
  have KX : K.In s.heap := e0.mod.kin.keeps fun b o e => (e0.bs b o e).1
  have lim : s.heap.NoLimit := e0.mod.nolimit.keeps fun b o e => (e0.bs b o e).1
  have hkind : ∀ y ∈ ps.zip us, scope.names.lookup y.1 = some .local ∨ (scope.names.lookup y.1 = some .cell ∧ ((cellsFrom (s.heap.objs.size + 1) scope.names []).lookup y.1).isSome = true) := fun ⟨n, v⟩ hy => by
    rcases S.par n (List.of_mem_zip hy).1 with q | q
    · exact .inl q
    · exact .inr ⟨q, PySem.W.cellsFrom_some _ _ _ (.inl q)⟩
  refine codeAny_call_function hr.depth (KX _ _ lk) rfl S.co S.gen rfl (PySem.W.codeRec_of KX hcd) (hb _ _ _ _ ?_)
  refine wpAny_newFunctionEnv_cells S.kind hkind fun env he s1 x => ?_
  subst he
  refine ⟨lim.keeps x.toInCall.keep, codeAny_func ?_⟩
  obtain ⟨t, ht, hq⟩ := hbody A outer s H vs Q E (hr.deeper _) hsp
  have I : Inv (cxOf CX0 P w K mg base N qual scope f cdv A outer s H E) [] (start N vs) H s1 := inv_start S hr.hd e0 hl r x
  have fin : ∀ {σ' : L2.St} {H' : Hp} {v : V} {u : Value} {s' : Shared}, Inv (cxOf CX0 P w K mg base N qual scope f cdv A outer s H E) [] σ' H' s' → RelV v u → Q v H' → CE outer P w H s Q u s' :=
    fun {σ' H' v u s'} J rv q => ⟨v, H', J.os, J.bare, J.base, J.hok, rv, q⟩
  have pe : ∀ e s', (cxOf CX0 P w K mg base N qual scope f cdv A outer s H E).xe e s' → 1 ≤ s'.toks → (cxOf CX0 P w K mg base N qual scope f cdv A outer s H E).xe e s' := fun _ _ h _ => h
  refine wpAny_mono (ht [] s1 (start N vs) H _ I hq) (fun fl s' hs => ?_) fun e s' hs => ?_
  · obtain ⟨h1, hs⟩ := hs
    cases fl with
    | ret u =>
      obtain ⟨v, σ', H', J, rv, q⟩ := hs
      exact ⟨h1, fin J rv q⟩
    | next =>
      obtain ⟨σ', H', J, q⟩ := hs
      exact ⟨h1, fin (v := V.non) (u := Value.none) J rfl q⟩
    | brk =>
      obtain ⟨_, _, _, q⟩ := hs
      exact False.elim q
    | cont =>
      obtain ⟨_, _, _, q⟩ := hs
      exact False.elim q
  · exact wpAny_mono hs (fun _ _ z => False.elim z) fun _ _ z => False.elim z
theorem _root_.L2.Fun.ok1 {x qual : Str} {st : Stmt} {f : Addr} {fd : FuncData} {N ps : List Str} {k : Nat} {sp : Sp} (F : Fun K x qual st f fd) (S : FnScope N ps (defScope st)) (len : ∀ vs H Q E, sp vs H Q E → vs.length = ps.length)
    (hbody : ∀ (cdv : Value) (A : Around) (outer : List Env) (s : Shared) (H : Hp) (vs : List V) (Q : VK) (E : XK), Room k (A.deeper (envOfC qual (defScope st) s.heap.objs.size f cdv)) → sp vs H Q E →
      ∃ t, PSs1 (cxOf CX0 P w K mg base N qual (defScope st) f cdv A outer s H E) (defBody st) t ∧ t { nx := fun _ H' => Q .non H', rt := Q } (start N vs) H) : Fn1 P w K mg base (k + 1) f fd ps sp := by
  obtain ⟨oc, od, kV, doc, pm, an, cdv, ct, osl, rfl, lk, hcd⟩ := F.ex
  exact fn1_of lk hcd S len fun A outer s H vs Q E hr hsp => hbody cdv A outer s H vs Q E hr hsp
theorem Fn1.up {k : Nat} {f : Addr} {fd : FuncData} {ps : List Str} {sp : Sp} (F : Fn1 P w K mg base k f fd ps sp) : FnOk P w K mg base CX0 k f fd ps sp :=
  ⟨F.len, fun A outer s H args us vs Q E hr he hb hv hs => codeAny_mono (F.run A outer s H args us vs Q E hr he hb hv hs) fun _ _ z => z.2⟩
end
section
variable {X : Cx} {k : Nat} {f : Addr} {fd : FuncData} {ps : List Str} {sp : Sp} {x : Str} {p pos : Pos}
theorem pe1_call0 (F : Fn1 X.prog X.w X.K X.mg X.base k f fd ps sp) (hr : Room k X.A) (hg : Gl X x) (hm : X.mg x = some (.ref f)) (hk : PySem.W.keepIn X.K (.ref f) = true) (hb : Binds X.K fd ps [])
    (hdb : (x == ("__debug__" : Str)) = false := by decide) : PE1 X (.Call (.Name x p) [] [] pos) (tCall sp [] E0 tNil) := by
  intro pins s σ H Q I h
  refine wpAny_Call_Name_kw (ld_glob I hg hm ?_ hdb)
  refine PySem.W.callWith_K0 I.kIn hk ?_
  have h' : sp ([] ++ []) H Q E0 := h
  have hl : ([] : List Value).length = ps.length := (F.len _ _ _ _ h').symm ▸ rfl
  have b := hb s [] I.kIn hl
  refine wpAny_call (codeAny_mono (F.run X.A X.stack s H ⟨[], []⟩ [] [] Q E0 hr I.env0 b .nil h') fun r s' hq => ?_)
  obtain ⟨h1, hq⟩ := hq
  cases r with
  | error e => exact False.elim hq
  | ok fl =>
    cases fl with
    | ret u => exact ⟨h1, I.after hq⟩
    | next => exact False.elim hq
    | brk => exact False.elim hq
    | cont => exact False.elim hq
open CwR in
/-- e.replace(..) of two written texts, e one that gives a token out -/
theorem pe_rep1 {o : Expr} {to : TE} {y z : Str} {j k : Nat} {c0 c1 apos pos : Pos} (ho : PE1 X o to) (hyz : (y == z) = false := by decide)
    (hst : starEach [.Constant (.str y) j c0, .Constant (.str z) k c1] X.env = [(false, eval (.Constant (.str y) j c0) X.env), (false, eval (.Constant (.str z) k c1) X.env)] := by rfl)
    (hbase : attributeBase o "replace" X.env (eval o X.env) = eval o X.env := by rfl) (hline : (apos.endLine == pos.line) = true := by rfl) :
    PE X (.Call (.Attribute o "replace" apos) [.Constant (.str y) j c0, .Constant (.str z) k c1] [] pos) (tReplC to y z) := by
  refine ⟨fun pins s σ H Q I h => ?_⟩
  refine PySem.Call_method2 hbase hst hline (wpAny_mono (ho pins s σ H _ I h) (fun v s1 q => ?_) fun _ _ z => z)
  obtain ⟨hk, v', H1, I1, r1, x, e1, hb, q⟩ := q
  subst e1
  obtain ⟨tx, e2⟩ := r1
  subst e2
  refine ⟨"str", _, PySem.F.plainAttrs_str, PySem.F.slot_str_replace, PySem.F.type_str_replace, typeIs_str _ _ _, (fun _ e => nomatch e), Calls.callWith_builtin rfl (Calls.evalArgs_plain (Calls.spliced_cons ?_))⟩
  refine Calls.Constant_str (Calls.spliced_cons (Calls.Constant_str (Calls.spliced_nil ?_)))
  exact PySem.SC.replace (by show s1.toks ≠ 0; omega) (by show s1.toks + 1 ≠ 0; omega) (by show s1.toks ≠ s1.toks + 1; omega) hyz hb fun t' k => ⟨.str (Txt.replace x y z), H1, I1.tok k, ⟨t', rfl⟩, q⟩
open CwR in
/-- 'c' + e: behind the written text a token is out -/
theorem pe_opT {op : Operator} {r : R2} {c : Str} {j : Nat} {cp : Pos} {e : Expr} {te : TE} (ho : OpR X (binaryOp op) r) (hb : PET X e te) : PE X (.BinOp (.Constant (.str c) j cp) op e pos) (tOp r (tC (.str c)) te) := by
  refine ⟨fun pins s σ H Q I h => ?_⟩
  refine wpAny_BinOp (Calls.Constant_str ?_)
  exact thn (hb pins { s with toks := s.toks + 1 } σ H _ (by show 1 ≤ s.toks + 1; omega) (I.tok _) h) fun u s2 ⟨y, H2, I2, r2, q2⟩ => ho pins s2 σ H2 (.str c) y (.str c s.toks) u Q I2 ⟨_, rfl⟩ r2 q2
end
section
variable {σ : L2.St} {H : Hp} {Q : VK} {to : TE} {y z x : Str}
theorem w_rep (q : to σ H fun v H1 => ∃ x, v = .str x ∧ x.length + (x.length + 1) * z.length ≤ 16777216 ∧ Q (.str (Txt.replace x y z)) H1) : CwR.tReplC to y z σ H Q := q
end
end Wb

set_option Elab.async false
set_option linter.all false
set_option maxRecDepth 100000
/-! defs that a suite calls with its exception -/
namespace Wb
open PySem PySem.Spec PyProof.Rows L2
open TL (tl)
/-- isinstance of the exception, of several classes -/
def rIsXT (K : PySem.W.Frag) (mg : Str → Option Value) (a : Addr) (cls : Value) (d : Option Addr) : List V → Hp → VK → Prop := fun xs H Q => ∃ (tp : Addr) (cs : List V) (us : List Value) (x : Str) (D : Addr) (b : Bool), xs = [.ref a, .ref tp] ∧ H tp = some (.tup cs) ∧ Paired ClsV cs us ∧
  cls = .ref D ∧ ExK K mg x D ∧ PySem.W.kitAny K (.ref D) us = some b ∧ (d = none ∨ ∃ dd fs, d = some dd ∧ H dd = some (.xd fs)) ∧ Q (.bl b) H
theorem call_isXT {X : Cx} {K : PySem.W.Frag} {mg : Str → Option Value} (hK : X.K = K) (hm : X.mg = mg) {p : Addr × Obj} {cls : Value} {d : Option Addr} (hp : p ∈ X.pn) (hz : Zc cls d p.2) (hf : ∃ vs, p.2.data = .fields vs) : CallR X (.builtin "isinstance") (rIsXT K mg p.1 cls d) := by
  subst hK hm
  obtain ⟨a, oe⟩ := p
  intro pins s σ H xs us Q I r h
  obtain ⟨tp, cs, ws, x, D, b, rfl, hT, k, ec, E, e, hdd, q⟩ := h
  obtain ⟨u1, u2, rfl, r1, r2⟩ := vals2 r
  cases (show u2 = Value.ref tp from r2)
  cases (show u1 = Value.ref a from r1)
  obtain ⟨_, its, rv, o, h1, h2, n, h3⟩ := (show ObjOk X.prog X.w H s.heap tp (.tup cs) from I.hok tp _ hT)
  have e3 := ClsV.all k rv
  subst e3
  obtain ⟨tc, td, dt, sl⟩ := o
  simp only at h2 h3
  subst h2 h3
  subst ec
  obtain ⟨hget, _⟩ := I.pin (a, oe) (List.mem_append_left _ hp)
  obtain ⟨vs, hv⟩ := hf
  obtain ⟨oc, od, oda, osl⟩ := oe
  obtain ⟨z1, z2⟩ := hz
  dsimp only at z1 z2 hv
  subst z1 z2 hv
  rcases hdd with rfl | ⟨dd, fs, rfl, ea⟩
  · exact PySem.W.kia_tup (PySem.W.kitx_exc (od := none) (hasDict_cls E.hd) E.ga E.gg E.T.exC E.ha E.hn E.ht E.hm) I.kIn ⟨hget, rfl, rfl, trivial⟩ h1 e (fun z => nomatch z) fun tk => ⟨.bl b, H, I.kept (t' := tk) fun _ _ z => z, rfl, q⟩
  · have hx : ObjOk X.prog X.w H s.heap dd (.xd fs) := I.hok dd _ ea
    obtain ⟨mA, hns, _⟩ := hx
    obtain ⟨od, ho, _⟩ := lookIn_ns hns
    exact PySem.W.kia_tup (PySem.W.kitx_exc (od := some od) (hasDict_cls E.hd) E.ga E.gg E.T.exC E.ha E.hn E.ht E.hm) I.kIn ⟨hget, rfl, rfl, ho⟩ h1 e (fun z => nomatch z) fun tk => ⟨.bl b, H, I.kept (t' := tk) fun _ _ z => z, rfl, q⟩
/-- what a def promises of the exception at a, of the class cls, its dict at d -/
structure FnP (P : Program) (w : World) (K : PySem.W.Frag) (mg : Str → Option Value) (base : Heap) (k : Nat) (f : Addr) (fd : FuncData) (ps : List Str) (sp : Addr → Value → Option Addr → Sp) : Prop where
  len : ∀ a cls d vs H Q E, sp a cls d vs H Q E → vs.length = ps.length
  run : ∀ (A : Around) (outer : List Env) (s : Shared) (H : Hp) (args : Args) (us : List Value) (vs : List V) (Q : VK) (E : XK) (p : Addr × Obj) (cls : Value) (d : Option Addr), L2H.RoomH k A → Zc cls d p.2 → (∃ vs, p.2.data = .fields vs) → L2H.PinOk outer H s p →
    Env0 P w K mg base A outer s H → BindsTo s fd args (ps.zip us) → Vals vs us → sp p.1 cls d vs H Q E → codeAny (model P w) A (.call (.ref f) args) (CR CX0 outer P w H s Q E) s
section
variable {P : Program} {w : World} {K : PySem.W.Frag} {mg : Str → Option Value} {base : Heap}
theorem fnp_of {k : Nat} {f : Addr} {name qual : Str} {params : Arguments} {body : List Stmt} {scope : Scope} {dV kV doc pm cdv ct oc : Value} {an od : Option Addr}
    {osl : Array (Option Value)} {N ps : List Str} {sp : Addr → Value → Option Addr → Sp} (lk : K.lookup f = some ⟨oc, od, .func (PySem.W.fnOf name qual params body scope dV kV doc pm an cdv ct), osl⟩) (hcd : PySem.W.codeIn K cdv qual = true) (S : FnScope N ps scope)
    (len : ∀ a cls d vs H Q E, sp a cls d vs H Q E → vs.length = ps.length)
    (hbody : ∀ (A : Around) (outer : List Env) (s : Shared) (H : Hp) (vs : List V) (Q : VK) (E : XK) (p : Addr × Obj) (cls : Value) (d : Option Addr), Zc cls d p.2 → (∃ vs, p.2.data = .fields vs) → sp p.1 cls d vs H Q E →
      ∃ t, PSs (L2H.cxH CX0 P w K mg base N qual scope f cdv A outer s H E p) body t ∧ t { nx := fun _ H' => Q .non H', rt := Q } (L2.start N vs) H) :
    FnP P w K mg base (k + 1) f (PySem.W.fnOf name qual params body scope dV kV doc pm an cdv ct) ps sp := by
  refine ⟨len, fun A outer s H args us vs Q E p cls d hr hz hf hpin e0 hb r hsp => ?_⟩
  have hl := len _ _ _ _ _ _ _ hsp
  have KX : K.In s.heap := e0.mod.kin.keeps fun b o e => (e0.bs b o e).1
  have lim : s.heap.NoLimit := e0.mod.nolimit.keeps fun b o e => (e0.bs b o e).1
  have hkind : ∀ y ∈ ps.zip us, scope.names.lookup y.1 = some .local ∨ (scope.names.lookup y.1 = some .cell ∧ ((cellsFrom (s.heap.objs.size + 1) scope.names []).lookup y.1).isSome = true) := fun ⟨n, v⟩ hy => by
    rcases S.par n (List.of_mem_zip hy).1 with q | q
    · exact .inl q
    · exact .inr ⟨q, PySem.W.cellsFrom_some _ _ _ (.inl q)⟩
  refine codeAny_call_function hr.depth (KX _ _ lk) rfl S.co S.gen rfl (PySem.W.codeRec_of KX hcd) (hb _ _ _ _ ?_)
  refine wpAny_newFunctionEnv_cells S.kind hkind fun env he s1 x => ?_
  subst he
  refine ⟨lim.keeps x.toInCall.keep, codeAny_func ?_⟩
  obtain ⟨t, ht, hq⟩ := hbody A outer s H vs Q E p cls d hz hf hsp
  have I := L2H.inv_startH (CX := CX0) (E := E) (cd := cdv) (f := f) (qual := qual) S hpin e0 hl r x
  have fin : ∀ {σ' : L2.St} {H' : Hp} {v : V} {u : Value} {s' : Shared}, Inv (L2H.cxH CX0 P w K mg base N qual scope f cdv A outer s H E p) [] σ' H' s' → RelV v u → Q v H' → CE outer P w H s Q u s' :=
    fun {σ' H' v u s'} J rv q => ⟨v, H', J.os, J.bare, J.base, J.hok, rv, q⟩
  refine wpAny_mono (ht.run [] s1 (L2.start N vs) H _ I hq) (fun fl s' hs => ?_) fun e s' hs => hs
  cases fl with
  | ret u =>
    obtain ⟨v, σ', H', J, rv, q⟩ := hs
    exact fin J rv q
  | next =>
    obtain ⟨σ', H', J, q⟩ := hs
    exact fin (v := V.non) (u := Value.none) J rfl q
  | brk =>
    obtain ⟨_, _, _, q⟩ := hs
    exact False.elim q
  | cont =>
    obtain ⟨_, _, _, q⟩ := hs
    exact False.elim q
theorem _root_.L2.Fun.okP {x qual : Str} {st : Stmt} {f : Addr} {fd : FuncData} {N ps : List Str} {k : Nat} {sp : Addr → Value → Option Addr → Sp} (F : Fun K x qual st f fd) (S : FnScope N ps (defScope st)) (len : ∀ a cls d vs H Q E, sp a cls d vs H Q E → vs.length = ps.length)
    (hbody : ∀ (cdv : Value) (A : Around) (outer : List Env) (s : Shared) (H : Hp) (vs : List V) (Q : VK) (E : XK) (p : Addr × Obj) (cls : Value) (d : Option Addr), Zc cls d p.2 → (∃ vs, p.2.data = .fields vs) → sp p.1 cls d vs H Q E →
      ∃ t, PSs (L2H.cxH CX0 P w K mg base N qual (defScope st) f cdv A outer s H E p) (defBody st) t ∧ t { nx := fun _ H' => Q .non H', rt := Q } (L2.start N vs) H) : FnP P w K mg base (k + 1) f fd ps sp := by
  obtain ⟨oc, od, kV, doc, pm, an, cdv, ct, osl, rfl, lk, hcd⟩ := F.ex
  exact fnp_of lk hcd S len fun A outer s H vs Q E p cls d hz hf hsp => hbody cdv A outer s H vs Q E p cls d hz hf hsp
end
theorem roomH_mark {k : Nat} {A : Around} {h : Option Value} (r : Room k A) : L2H.RoomH k (A.mark h) := ⟨r.dp, r.un⟩
section
variable {X : Cx} {k : Nat} {f : Addr} {fd : FuncData} {ps : List Str} {sp : Addr → Value → Option Addr → Sp} {x : Str} {q pos : Pos} {e : Expr} {es : List Expr} {t : TA} {p : Addr × Obj} {cls : Value} {d : Option Addr}
def tCallP (sp : Sp) (t : TA) : TE := fun σ H Q => t σ H fun vs H1 => sp vs H1 Q E0
theorem pe_callP (F : FnP X.prog X.w X.K X.mg X.base k f fd ps sp) (hr : L2H.RoomH k X.A) (hp : p ∈ X.pn) (hz : Zc cls d p.2) (hf : ∃ vs, p.2.data = .fields vs) (hg : Gl X x) (hm : X.mg x = some (.ref f)) (hk : PySem.W.keepIn X.K (.ref f) = true) (hb : Binds X.K fd ps [])
    (ha : PA X (e :: es) t) (hdb : (x == ("__debug__" : Str)) = false := by decide) (he : starEach (e :: es) X.env = (false, eval e X.env) :: starEach es X.env := by rfl) (hpl : (backTo pos (starEach es X.env)).any (·.1) = false := by rfl) :
    PE X (.Call (.Name x q) (e :: es) [] pos) (tCallP (sp p.1 cls d) t) := by
  refine ⟨fun pins s σ H Q I h => ?_⟩
  refine wpAny_Call_Name_kw (ld_glob I hg hm ?_ hdb)
  refine PySem.W.callWith_K (h₀ := X.base) I.ok.mod.kin hk (thn (ha.run pos pins s σ H _ I h) fun us s1 ⟨vs, H1, I1, r, q⟩ => ⟨I1.kIn, ?_⟩) he hpl
  have hl : us.length = ps.length := by rw [← r.length]; exact F.len _ _ _ _ _ _ _ q
  have b := hb s1 us I1.kIn (by rw [List.append_nil]; exact hl)
  rw [List.append_nil] at b
  have P1 := I1.pin p (List.mem_append_left _ hp)
  have hpin : L2H.PinOk X.stack H1 s1 p := ⟨P1.1, P1.2.1, fun hm => (List.mem_cons.mp (I1.stkSub p.1 hm)).elim P1.2.2.1 P1.2.2.2.1, P1.2.2.2.2⟩
  refine wpAny_call (codeAny_mono (F.run X.A X.stack s1 H1 ⟨us, []⟩ us vs Q E0 p cls d hr hz hf hpin I1.env0 b r q) fun r s' hq => ?_)
  cases r with
  | error e => exact False.elim hq
  | ok fl =>
    cases fl with
    | ret u => exact I1.after hq
    | next => exact False.elim hq
    | brk => exact False.elim hq
    | cont => exact False.elim hq
end
theorem pe_callPS {X : Cx} {k : Nat} {f : Addr} {fd : FuncData} {ps : List Str} {sp : Addr → Value → Option Addr → Sp} {x : Str} {q pos : Pos} {e : Expr} {es : List Expr} {t : TA} {a : Addr} {oe : Obj} {pn : List (Addr × Obj)} {cls : Value} {d : Option Addr}
    (F : FnP X.prog X.w X.K X.mg X.base k f fd ps sp) (hr : L2H.RoomH k (X.suite a ((a, oe) :: pn)).A) (hz : Zc cls d oe) (hf : ∃ vs, oe.data = .fields vs) (hg : Gl (X.suite a ((a, oe) :: pn)) x) (hm : X.mg x = some (.ref f)) (hk : PySem.W.keepIn X.K (.ref f) = true) (hb : Binds X.K fd ps [])
    (ha : PA (X.suite a ((a, oe) :: pn)) (e :: es) t) (hdb : (x == ("__debug__" : Str)) = false := by decide) (he : starEach (e :: es) X.env = (false, eval e X.env) :: starEach es X.env := by rfl) (hpl : (backTo pos (starEach es X.env)).any (·.1) = false := by rfl) :
    PE (X.suite a ((a, oe) :: pn)) (.Call (.Name x q) (e :: es) [] pos) (tCallP (sp a cls d) t) :=
  pe_callP (X := X.suite a ((a, oe) :: pn)) (p := (a, oe)) F hr List.mem_cons_self hz hf hg hm hk hb ha hdb he hpl
section
variable {σ : L2.St} {H : Hp} {Q : VK} {t : TA} {sp : Sp}
theorem w_callP (q : t σ H fun vs H1 => sp vs H1 Q E0) : tCallP sp t σ H Q := q
/-- an except clause for a base of the exception's class -/
theorem w_isXT {K : PySem.W.Frag} {mg : Str → Option Value} {a tp D dd : Addr} {cs : List V} {us : List Value} {x : Str} {b : Bool} {fs : List (Str × V)} (E : ExK K mg x D) (hT : H tp = some (.tup cs)) (k : Paired ClsV cs us) (e : PySem.W.kitAny K (.ref D) us = some b)
    (h : H dd = some (.xd fs)) (q : Q (.bl b) H) : rIsXT K mg a (.ref D) (some dd) [.ref a, .ref tp] H Q := ⟨tp, cs, us, x, D, b, rfl, hT, k, rfl, E, e, .inr ⟨dd, fs, rfl, h⟩, q⟩
end
end Wb

set_option Elab.async false
set_option linter.all false
set_option maxRecDepth 100000
/-! defs that run where no repr is under way: repr of data -/
namespace Wb
open PySem PySem.Spec PyProof.Rows L2
open TL (tl)
structure FnG (P : Program) (w : World) (K : PySem.W.Frag) (mg : Str → Option Value) (base : Heap) (k : Nat) (f : Addr) (fd : FuncData) (ps : List Str) (sp : Sp) : Prop where
  len : ∀ vs H Q E, sp vs H Q E → vs.length = ps.length
  run : ∀ (A : Around) (outer : List Env) (s : Shared) (H : Hp) (args : Args) (us : List Value) (vs : List V) (Q : VK) (E : XK), A.guards = some [] → Room k A → Env0 P w K mg base A outer s H → BindsTo s fd args (ps.zip us) → Vals vs us → sp vs H Q E →
    codeAny (model P w) A (.call (.ref f) args) (CR CX0 outer P w H s Q E) s
section
variable {P : Program} {w : World} {K : PySem.W.Frag} {mg : Str → Option Value} {base : Heap}
theorem fng_of {k : Nat} {f : Addr} {name qual : Str} {params : Arguments} {body : List Stmt} {scope : Scope} {dV kV doc pm cdv ct oc : Value} {an od : Option Addr}
    {osl : Array (Option Value)} {N ps : List Str} {sp : Sp} (lk : K.lookup f = some ⟨oc, od, .func (PySem.W.fnOf name qual params body scope dV kV doc pm an cdv ct), osl⟩) (hcd : PySem.W.codeIn K cdv qual = true) (S : FnScope N ps scope)
    (len : ∀ vs H Q E, sp vs H Q E → vs.length = ps.length)
    (hbody : ∀ (A : Around) (outer : List Env) (s : Shared) (H : Hp) (vs : List V) (Q : VK) (E : XK), A.guards = some [] → Room k (A.deeper (envOfC qual scope s.heap.objs.size f cdv)) → sp vs H Q E →
      ∃ t, PSs (cxOf CX0 P w K mg base N qual scope f cdv A outer s H E).nox body t ∧ t { nx := fun _ H' => Q .non H', rt := Q } (start N vs) H) :
    FnG P w K mg base (k + 1) f (PySem.W.fnOf name qual params body scope dV kV doc pm an cdv ct) ps sp := by
  refine ⟨len, fun A outer s H args us vs Q E hg hr e0 hb r hsp => ?_⟩
  have hl := len _ _ _ _ hsp
  have KX : K.In s.heap := e0.mod.kin.keeps fun b o e => (e0.bs b o e).1
  have lim : s.heap.NoLimit := e0.mod.nolimit.keeps fun b o e => (e0.bs b o e).1
  have hkind : ∀ y ∈ ps.zip us, scope.names.lookup y.1 = some .local ∨ (scope.names.lookup y.1 = some .cell ∧ ((cellsFrom (s.heap.objs.size + 1) scope.names []).lookup y.1).isSome = true) := fun ⟨n, v⟩ hy => by
    rcases S.par n (List.of_mem_zip hy).1 with q | q
    · exact .inl q
    · exact .inr ⟨q, PySem.W.cellsFrom_some _ _ _ (.inl q)⟩
  refine codeAny_call_function hr.depth (KX _ _ lk) rfl S.co S.gen rfl (PySem.W.codeRec_of KX hcd) (hb _ _ _ _ ?_)
  refine wpAny_newFunctionEnv_cells S.kind hkind fun env he s1 x => ?_
  subst he
  refine ⟨lim.keeps x.toInCall.keep, codeAny_func ?_⟩
  obtain ⟨t, ht, hq⟩ := hbody A outer s H vs Q E hg (hr.deeper _) hsp
  have I : Inv (cxOf CX0 P w K mg base N qual scope f cdv A outer s H E) [] (start N vs) H s1 := inv_start S hr.hd e0 hl r x
  have fin : ∀ {σ' : L2.St} {H' : Hp} {v : V} {u : Value} {s' : Shared}, Inv (cxOf CX0 P w K mg base N qual scope f cdv A outer s H E) [] σ' H' s' → RelV v u → Q v H' → CE outer P w H s Q u s' :=
    fun {σ' H' v u s'} J rv q => ⟨v, H', J.os, J.bare, J.base, J.hok, rv, q⟩
  refine wpAny_mono ((ht.nox).run [] s1 (start N vs) H _ I hq) (fun fl s' hs => ?_) fun e s' hs => hs
  cases fl with
  | ret u =>
    obtain ⟨v, σ', H', J, rv, q⟩ := hs
    exact fin J rv q
  | next =>
    obtain ⟨σ', H', J, q⟩ := hs
    exact fin (v := V.non) (u := Value.none) J rfl q
  | brk =>
    obtain ⟨_, _, _, q⟩ := hs
    exact False.elim q
  | cont =>
    obtain ⟨_, _, _, q⟩ := hs
    exact False.elim q
theorem _root_.L2.Fun.okG {x qual : Str} {st : Stmt} {f : Addr} {fd : FuncData} {N ps : List Str} {k : Nat} {sp : Sp} (F : Fun K x qual st f fd) (S : FnScope N ps (defScope st)) (len : ∀ vs H Q E, sp vs H Q E → vs.length = ps.length)
    (hbody : ∀ (cdv : Value) (A : Around) (outer : List Env) (s : Shared) (H : Hp) (vs : List V) (Q : VK) (E : XK), A.guards = some [] → Room k (A.deeper (envOfC qual (defScope st) s.heap.objs.size f cdv)) → sp vs H Q E →
      ∃ t, PSs (cxOf CX0 P w K mg base N qual (defScope st) f cdv A outer s H E).nox (defBody st) t ∧ t { nx := fun _ H' => Q .non H', rt := Q } (start N vs) H) : FnG P w K mg base (k + 1) f fd ps sp := by
  obtain ⟨oc, od, kV, doc, pm, an, cdv, ct, osl, rfl, lk, hcd⟩ := F.ex
  exact fng_of lk hcd S len fun A outer s H vs Q E hg hr hsp => hbody cdv A outer s H vs Q E hg hr hsp
end
section
variable {X : Cx} {k : Nat} {f : Addr} {fd : FuncData} {ps : List Str} {sp : Sp} {x : Str} {p pos : Pos} {e : Expr} {es : List Expr} {t : TA} {ds : List Value} {dvs : List V}
theorem pe_callG (F : FnG X.prog X.w X.K X.mg X.base k f fd ps sp) (hG : X.A.guards = some []) (hr : Room k X.A) (hg : Gl X x) (hm : X.mg x = some (.ref f)) (hk : PySem.W.keepIn X.K (.ref f) = true) (hb : Binds X.K fd ps ds) (hd : Vals dvs ds)
    (ha : PA X (e :: es) t) (hdb : (x == ("__debug__" : Str)) = false := by decide) (he : starEach (e :: es) X.env = (false, eval e X.env) :: starEach es X.env := by rfl) (hpl : (backTo pos (starEach es X.env)).any (·.1) = false := by rfl) :
    PE X (.Call (.Name x p) (e :: es) [] pos) (tCall sp dvs E0 t) := by
  refine ⟨fun pins s σ H Q I h => ?_⟩
  refine wpAny_Call_Name_kw (ld_glob I hg hm ?_ hdb)
  refine PySem.W.callWith_K (h₀ := X.base) I.ok.mod.kin hk (thn (ha.run pos pins s σ H _ I h) fun us s1 ⟨vs, H1, I1, r, q⟩ => ⟨I1.kIn, ?_⟩) he hpl
  have r2 : Vals (vs ++ dvs) (us ++ ds) := r.append hd
  have hl : (us ++ ds).length = ps.length := by rw [← r2.length]; exact F.len _ _ _ _ q
  refine wpAny_call (codeAny_mono (F.run X.A X.stack s1 H1 ⟨us, []⟩ (us ++ ds) (vs ++ dvs) Q E0 hG hr I1.env0 (hb s1 us I1.kIn hl) r2 q) fun r s' hq => ?_)
  cases r with
  | error e => exact False.elim hq
  | ok fl =>
    cases fl with
    | ret u => exact I1.after hq
    | next => exact False.elim hq
    | brk => exact False.elim hq
    | cont => exact False.elim hq
end
/-- repr of a written display of data without dicts -/
def rReprP (K : PySem.W.Frag) : List V → Hp → VK → Prop := fun xs H Q => ∃ (a : Addr) (d : PyData), xs = [.ref a] ∧ Dp K H (.ref a) d ∧ d.showable = true ∧ d.hasDict = false ∧ d.depth ≤ 64 ∧ d.shown.length ≤ sizeLine ∧ Q (.str d.shown) H
theorem call_reprP {X : Cx} {K : PySem.W.Frag} (hK : X.K = K) (hG : X.A.guards = some []) (hu : X.A.units + 66 < cLine) : CallR X (.builtin "repr") (rReprP K) := by
  subst hK
  intro pins s σ H xs us Q I r h
  obtain ⟨a, d, rfl, hd, h1, h2, h3, h4, q⟩ := h
  cases r with
  | cons rx rr =>
    cases rr
    cases rx
    obtain ⟨as, hr⟩ := Dp.reads I d _ _ hd rfl
    exact repr_of_reads' hr h1 (PyData.noDict_hsm h2) hG (by omega) (fun _ _ e => e) (fun h' u tk hk => ⟨.str d.shown, H, I.kept (t' := tk) hk, ⟨_, rfl⟩, q⟩) h4
end Wb

set_option Elab.async false
set_option linter.all false
set_option maxRecDepth 100000
/-! the end, for a law's def that is told that no repr is under way -/
namespace Wb
open PySem PySem.Spec PyProof.Rows L2
/-- the heap of the script alone: nothing tracked but the script's list, known to the object -/
structure Alone (P : Program) (w : World) (K : PySem.W.Frag) (a : Addr) (ns : List Int) (h : Heap) (H : Hp) : Prop where
  only : Only H
  sq : SqL K H a (ns.map V.int)
  ok : HOk P w H h
  at_ : ∀ b, H b ≠ none → b = a
  out : H a ≠ none → K.lookup a = none
theorem alone_ex {P : Program} {w : World} {K : PySem.W.Frag} {a : Addr} {ns : List Int} {h : Heap} {vs : List Value} (KX : K.In h) (ha : h.get? a = some { cls := .type "list", data := .seq vs.toArray }) (hi : IntsAre vs ns) (hl : ns.length ≤ sizeLine) : ∃ H, Alone P w K a ns h H := by
  have rv := vals_ints hi
  have lenV := hi.length
  cases hk : K.lookup a with
  | some o =>
    have e := KX a o hk
    rw [ha] at e
    cases e
    exact ⟨fun _ => none, fun _ => .inl rfl, .inr ⟨_, vs.toArray, _, hk, rfl, rfl, rfl, by rw [List.size_toArray, lenV]; exact hl, by simpa using rv⟩, fun b u z => (by cases (show (none : Option HO) = some u from z)), fun b z => absurd rfl z, fun z => absurd rfl z⟩
  | none =>
    let O : HO := .frz { cls := .type "list", data := .seq vs.toArray } (.lst (ns.map V.int))
    have hs : upd (fun _ => none) a O a = some O := upd_same
    have hn : ∀ b, b ≠ a → upd (fun _ => none) a O b = none := fun b hb => upd_ne hb
    refine ⟨upd (fun _ => none) a O, fun b => ?_, .inl (.inr ⟨_, hs⟩), fun b u z => ?_, fun b z => ?_, fun _ => hk⟩
    · by_cases hb : b = a
      · subst hb; exact .inr ⟨_, _, hs⟩
      · exact .inl (hn b hb)
    · by_cases hb : b = a
      · subst hb
        rw [hs] at z
        cases z
        exact ⟨ha, by rw [List.length_map]; exact hl, vs, _, rv, ha⟩
      · rw [hn b hb] at z; cases z
    · by_cases hb : b = a
      · exact hb
      · exact absurd (hn b hb) z
/-- the environment at the law's call -/
theorem alone_env {P : Program} {w : World} {K : PySem.W.Frag} {mg mb : Str → Option Value} {a : Addr} {ns : List Int} {H : Hp} {s : Shared} {vs : List Value} (S : Alone P w K a ns s.heap H) (KX : K.In s.heap) (hns : s.heap.Ns mainGlobals mg) (hb : s.heap.Ns builtinsNs mb)
    (hbb : ∀ x : Str, x ≠ "__name__" → mb x = bootBuiltins x) (hlim : s.heap.NoLimit) (hg : s.gens = #[]) (ha : s.heap.get? a = some { cls := .type "list", data := .seq vs.toArray }) :
    K.In (hidT s.heap H) ∧ (hidT s.heap H).Ns mainGlobals mg ∧ Env0 P w K mg (hidT s.heap H) callerA [] s H := by
  have ns2 : ∀ {b : Addr} {m : Str → Option Value}, s.heap.Ns b m → (hidT s.heap H).Ns b m := fun {b m} ⟨o, es, ep, e, d, r⟩ => by
    refine ⟨o, es, ep, hidT_get e ?_, d, r⟩
    by_cases q : H b = none
    · exact q
    · have z := S.at_ b q
      subst z
      rw [ha] at e; cases e
      cases d
  have k2 : K.In (hidT s.heap H) := fun b o e => by
    refine hidT_get (KX b o e) ?_
    by_cases q : H b = none
    · exact q
    · have z := S.at_ b q
      subst z
      rw [S.out q] at e; cases e
  obtain ⟨mc, l1, l2⟩ := hlim
  exact ⟨k2, ns2 hns, ⟨rfl, ⟨k2, ns2 hns, ⟨mb, ns2 hb, hbb⟩, ⟨mc, ns2 l1, l2⟩⟩, fun b o e => of_hidT e, Nat.le_of_eq (hidT_size _ _), trivial, fun b z => (by cases z), S.ok, AllBare.of_eq hg⟩⟩
theorem law_callG {P : Program} {w : World} {K : PySem.W.Frag} {mg mb : Str → Option Value} {k : Nat} {fa a : Addr} {fd : FuncData} {x : Str} {sp : Sp} {s₁ : Shared} {vs : List Value} {ns : List Int}
    (KX : K.In s₁.heap) (hns : s₁.heap.Ns mainGlobals mg) (hb : s₁.heap.Ns builtinsNs mb) (hbb : ∀ x : Str, x ≠ "__name__" → mb x = bootBuiltins x) (hlim : s₁.heap.NoLimit) (hg : s₁.gens = #[])
    (ha : s₁.heap.get? a = some { cls := .type "list", data := .seq vs.toArray }) (hi : IntsAre vs ns) (hl : ns.length ≤ sizeLine) (hr : Room k callerA)
    (F : ∀ base : Heap, K.In base → base.Ns mainGlobals mg → FnG P w K mg base k fa fd [x] sp) (hbind : ∀ (s : Shared) (u : Value), BindsTo s fd ⟨[u], []⟩ [(x, u)])
    (hsp : ∀ H : Hp, Only H → SqL K H a (ns.map V.int) → sp [.ref a] H (fun v _ => v = .bl true) fun _ _ _ => False) :
    codeAny (model P w) callerA (.call (.ref fa) ⟨[.ref a], []⟩) (fun r s' => r = .ok (.ret (.bool true)) ∧ OldK s₁.heap s'.heap ∧ s'.os = s₁.os ∧ AllBare s'.gens) s₁ := by
  obtain ⟨H, S⟩ := alone_ex (P := P) (w := w) KX ha hi hl
  obtain ⟨k2, n2, e0⟩ := alone_env (mg := mg) S KX hns hb hbb hlim hg ha
  refine codeAny_mono ((F _ k2 n2).run callerA [] s₁ H ⟨[.ref a], []⟩ [.ref a] [.ref a] _ _ rfl hr e0 (hbind s₁ (.ref a)) (.cons rfl .nil) (hsp H S.only S.sq)) fun r s' h => ?_
  cases r with
  | error e => exact False.elim h
  | ok fl =>
    cases fl with
    | next => exact False.elim h
    | brk => exact False.elim h
    | cont => exact False.elim h
    | ret u =>
      obtain ⟨v, H', os, bare, un, hok', r', q⟩ := h
      have q' : v = .bl true := q
      subst q'
      obtain rfl : u = Value.bool true := r'
      refine ⟨rfl, OldK.of_keep fun b o e => ?_, os, bare⟩
      by_cases q : H b = none
      · exact un.keep b o e q (fun z => by cases z) (by simp)
      · rcases S.only b with z | ⟨ob, xs, z⟩
        · exact absurd z q
        · have e1 := (S.ok b _ z).1
          have e2 := (hok' b _ (un.frzs b ob _ z)).1
          rw [e] at e1; cases e1
          exact e2
theorem walk_ofG {l : PySem.W.OpenLaw} {n k : Nat} {q : Program} {loose : List Str} {XP : (Str → Option Value) → Heap → Prop} {YP : World → Heap → Prop} {d : DefRec} {K : Params → PySem.W.Frag} {sp : World → Sp} {x : Str}
    (hn : l.most = some n) (hn2 : n ≤ sizeLine) (hdf : d.params.defaults = []) (hr : Room k callerA)
    (hY : ∀ (w : World) (h : Heap), YP w h → (K w.params).In h)
    (F : ∀ (w : World) (mg : Str → Option Value) (fa : Addr) (h : Heap), (K w.params).In h → h.Ns mainGlobals mg → mg d.name = some (.ref fa) →
      ∃ fd : FuncData, (∀ (s : Shared) (u : Value), BindsTo s fd ⟨[u], []⟩ [(x, u)]) ∧
        ∀ base : Heap, (K w.params).In base → base.Ns mainGlobals mg → FnG l.prog w (K w.params) mg base k fa fd [x] (sp w))
    (hsp : ∀ (w : World) (H : Hp) (a : Addr) (ns : List Int), ns.length ≤ n → Only H → SqL (K w.params) H a (ns.map V.int) → sp w [.ref a] H (fun v _ => v = .bl true) fun _ _ _ => False) :
    PySem.W.WalkO q loose XP YP l.row.toRowW d [] (fun f vs => PySem.call f vs) := by
  refine Att.attach_call hn hdf fun w s₀ s₁ mg mb fa o pm cd doc a vs ns G Y ho hd hcd hmg hobj hints hlen hg => ?_
  have KX := hY w _ Y
  obtain ⟨fd, hb, hF⟩ := F w mg fa _ KX G.T.g hmg
  exact law_callG KX G.T.g G.T.b G.T.builtins G.T.nolimit hg hobj hints (Nat.le_trans hlen hn2) hr hF hb fun H hO hS => hsp w H a ns hlen hO hS
theorem hu66 {A : Around} {k : Nat} (hr : Room k A) : A.units + 66 < cLine := by have := hr.un; omega
theorem w_repr {K : PySem.W.Frag} {H : Hp} {Q : VK} {a : Addr} {d : PyData} (hd : Dp K H (.ref a) d) (h1 : d.showable = true) (h2 : d.hasDict = false) (h3 : d.depth ≤ 64) (h4 : d.shown.length ≤ sizeLine) (q : Q (.str d.shown) H) : rReprP K [.ref a] H Q := ⟨a, d, rfl, hd, h1, h2, h3, h4, q⟩
end Wb

set_option Elab.async false
set_option linter.all false
set_option maxRecDepth 100000
namespace Wb
open PySem PySem.Spec PyProof.Rows L2
open TL (tl)
section
variable {X : Cx}
def rRpartP : V → List V → Hp → VK → Prop := fun x xs H Q => match x, xs with
  | .str a, [.str b] => (b.length == 0) = false ∧ a.length ≤ sizeLine ∧ ∀ p, H p = none → Q (.ref p) (upd H p (.tup [.str (Txt.rpartition a b).1, .str (Txt.rpartition a b).2.1, .str (Txt.rpartition a b).2.2]))
  | _, _ => False
theorem mt_rpartitionP : MtR X "str.rpartition" rRpartP := by
  intro pins s σ H x xs v us Q I rx rs h
  unfold rRpartP at h
  split at h
  · rename_i a b
    obtain ⟨hb, hz, h⟩ := h
    obtain ⟨t, rfl⟩ := rx
    cases rs with
    | cons r1 rs =>
      cases rs
      obtain ⟨u, rfl⟩ := r1
      refine call_meets PySem.F.slot_str_rpartition (typeIs_str _ _ _) PySem.F.entry_str_rpartition (PySem.F.args_str_rpartition_2 _ _) (meets_str_rpartition a b t u hb hz) ?_
      unfold Txt.rpartition at h
      revert h
      cases Builtin.Str.lastOccurrence a b 0 a.length with
      | none => intro h; exact laid_parts I h
      | some i => intro h; exact laid_parts I h
  · exact h.elim
/-- tuple(a list) -/
def rTup1P (K : PySem.W.Frag) : List V → Hp → VK → Prop := fun xs H Q => match xs with
  | [.ref p] => ∃ ys, SqL K H p ys ∧ ∀ l, H l = none → Q (.ref l) (upd H l (.tup ys))
  | _ => False
theorem call_tup1P {K : PySem.W.Frag} (hK : X.K = K) : CallR X (.type "tuple") (rTup1P K) := by
  subst hK
  intro pins s σ H xs us Q I r h
  unfold rTup1P at h
  split at h
  · obtain ⟨ys, a, q⟩ := h
    exact call_tuple_of pins s σ H _ us Q I r ⟨_, ys, rfl, .inl ⟨a, q⟩⟩
  · exact h.elim
end
end Wb

set_option Elab.async false
set_option linter.all false
set_option maxRecDepth 100000
/-! a level of data over HandS: values that are told as data, or owned -/
namespace Wb
open PySem PySem.Spec PyProof.Rows L2

/-- the words of a def within a def -/
structure FT where
  name : Str
  qual : Str
  st : Stmt
  fr : List Str
inductive D where
  | v (x : V)
  | o (k : Nat)
  | lst (xs : List D)
  | ls (xs : List D)
  | tup (xs : List D)
  | dic (kvs : List (Key × D))
  | ins (C : Addr) (fs : List (Str × D))
  | fnc (T : FT) (ds : List D)
inductive OC where
  | lst (xs : List D)
  | dic (kvs : List (Key × D))
  | ins (C : Addr) (fs : List (Str × D))
  | inv (P : List V → Prop)
  | tab (P : Addr) (nm : Nat → Nat → Str)
  | dead
def OC.live : OC → Bool
  | .dead => false
  | _ => true
abbrev St3 := List (Option D)
abbrev Mu := List OC
/-- al, mu: the owned objects; hx: objects that nothing may be said of, nor changed -/
structure Wo where
  al : Nat → Addr
  mu : Mu
  hp : Hp
  hx : List Addr
def Wo.hid (w : Wo) (a : Addr) : Prop := (∃ k c, w.mu[k]? = some c ∧ c.live = true ∧ w.al k = a) ∨ a ∈ w.hx
open Classical in
noncomputable def Wo.vis (w : Wo) : Hp := fun a => if w.hid a then none else w.hp a
theorem vis_some {w : Wo} {a : Addr} {o : HO} (h : w.vis a = some o) : w.hp a = some o ∧ ¬ w.hid a := by
  unfold Wo.vis at h
  by_cases e : w.hid a
  · rw [if_pos e] at h; cases h
  · rw [if_neg e] at h; exact ⟨h, e⟩
theorem vis_of {w : Wo} {a : Addr} {o : HO} (h : w.hp a = some o) (e : ¬ w.hid a) : w.vis a = some o := by
  unfold Wo.vis; rw [if_neg e]; exact h
theorem vis_le (w : Wo) : Ex w.vis w.hp := fun _ _ h => (vis_some h).1

/-- what a function captured: its cells, that nothing writes any more, and what they hold -/
def cellU : HO := .ext fun _ => True
structure FrzC (H : Hp) (cl : List (Str × Addr)) (fr : List Str) (us : List V) : Prop where
  len : us.length = fr.length
  all : ∀ y c, cl.lookup y = some c → ∃ o v, H c = some (.frz o cellU) ∧ o.data = .cell v
  inj : ∀ x y c, cl.lookup x = some c → cl.lookup y = some c → x = y
  has : ∀ (i : Nat) (y : Str), fr[i]? = some y → ∃ c o u v, cl.lookup y = some c ∧ us[i]? = some v ∧ H c = some (.frz o cellU) ∧ o.data = .cell (some u) ∧ RelV v u
theorem FrzC.up {H H' : Hp} {cl : List (Str × Addr)} {fr : List Str} {us : List V} (h : FrzC H cl fr us) (e : Ex H H') : FrzC H' cl fr us :=
  ⟨h.len, fun y c q => let ⟨o, v, a, b⟩ := h.all y c q; ⟨o, v, e _ _ a, b⟩, h.inj, fun i y q => let ⟨c, o, u, v, a, b, x, y, z⟩ := h.has i y q; ⟨c, o, u, v, a, b, e _ _ x, y, z⟩⟩
/-- a table of code objects, each with the name that its place has -/
def TabV (H : Hp) (ps : Array Value) (nm : Nat → Nat → Str) : Prop := TriplesOk ps.toList ∧ ∀ (pos : Pos) (cv : Value), codeAmong pos ps.toList = some cv → ∃ c, cv = .ref c ∧ H c = some (LamX.CodeO c (nm pos.line pos.col))
theorem TabV.up {H H' : Hp} {ps : Array Value} {nm : Nat → Nat → Str} (h : TabV H ps nm) (e : Ex H H') : TabV H' ps nm := ⟨h.1, fun pos cv q => let ⟨c, a, b⟩ := h.2 pos cv q; ⟨c, a, e _ _ b⟩⟩
inductive Rv (K : PySem.W.Frag) (al : Nat → Addr) (n : Nat) (H : Hp) : V → D → Prop
  | v (x : V) : Rv K al n H x (.v x)
  | o (k : Nat) : k < n → Rv K al n H (.ref (al k)) (.o k)
  | lst {a : Addr} {xs : List V} {ds : List D} : H a = some (.lst xs) → xs.length = ds.length → (∀ (i : Nat) (v : V) (d : D), xs[i]? = some v → ds[i]? = some d → Rv K al n H v d) → Rv K al n H (.ref a) (.lst ds)
  | ls {a : Addr} {xs : List V} {ds : List D} : SqL K H a xs → xs.length = ds.length → (∀ (i : Nat) (v : V) (d : D), xs[i]? = some v → ds[i]? = some d → Rv K al n H v d) → Rv K al n H (.ref a) (.ls ds)
  | tup {a : Addr} {xs : List V} {ds : List D} : SqT K H a xs → xs.length = ds.length → (∀ (i : Nat) (v : V) (d : D), xs[i]? = some v → ds[i]? = some d → Rv K al n H v d) → Rv K al n H (.ref a) (.tup ds)
  | dic {a : Addr} {kv : List (Key × V)} {ds : List (Key × D)} : H a = some (.dK kv) → kv.map (·.1) = ds.map (·.1) → (∀ (i : Nat) (v : V) (d : D), (kv.map (·.2))[i]? = some v → (ds.map (·.2))[i]? = some d → Rv K al n H v d) → Rv K al n H (.ref a) (.dic ds)
  | ins {a C dx : Addr} {fs : List (Str × V)} {ds : List (Str × D)} : H a = some (.ins C dx fs) → fs.map (·.1) = ds.map (·.1) → (∀ (i : Nat) (v : V) (d : D), (fs.map (·.2))[i]? = some v → (ds.map (·.2))[i]? = some d → Rv K al n H v d) → Rv K al n H (.ref a) (.ins C ds)
  | fnc {f c : Addr} {T : FT} {cl : List (Str × Addr)} {us : List V} {ds : List D} : H f = some (NdefX.FnO f (NdefX.NF.of T.st T.name T.qual cl c)) → H c = some (LamX.CodeO c T.qual) → FrzC H cl T.fr us → us.length = ds.length → (∀ (i : Nat) (v : V) (d : D), us[i]? = some v → ds[i]? = some d → Rv K al n H v d) → Rv K al n H (.ref f) (.fnc T ds)
structure RvL (K : PySem.W.Frag) (al : Nat → Addr) (n : Nat) (H : Hp) (vs : List V) (ds : List D) : Prop where
  len : vs.length = ds.length
  at_ : ∀ (i : Nat) (v : V) (d : D), vs[i]? = some v → ds[i]? = some d → Rv K al n H v d
/-- pairs: names alike, values as told -/
structure RvP {κ : Type} (K : PySem.W.Frag) (al : Nat → Addr) (n : Nat) (H : Hp) (kv : List (κ × V)) (ds : List (κ × D)) : Prop where
  keys : kv.map (·.1) = ds.map (·.1)
  at_ : ∀ (i : Nat) (v : V) (d : D), (kv.map (·.2))[i]? = some v → (ds.map (·.2))[i]? = some d → Rv K al n H v d
section
variable {K : PySem.W.Frag} {al al' : Nat → Addr} {n n' : Nat} {H H' : Hp} {v : V} {d : D} {vs us : List V} {ds es : List D}
theorem Rv.up (h : Rv K al n H v d) (hn : n ≤ n') (ha : ∀ k, k < n → al' k = al k) (e : Ex H H') : Rv K al' n' H' v d := by
  induction h with
  | v x => exact .v x
  | o k hk => rw [← ha k hk]; exact .o k (Nat.lt_of_lt_of_le hk hn)
  | lst hs hl _ ih => exact .lst (e _ _ hs) hl ih
  | ls hs hl _ ih => exact .ls (ex_l e hs) hl ih
  | tup hs hl _ ih => exact .tup (ex_t e hs) hl ih
  | dic hs hl _ ih => exact .dic (e _ _ hs) hl ih
  | ins hs hl _ ih => exact .ins (e _ _ hs) hl ih
  | fnc hf hc hz hl _ ih => exact .fnc (e _ _ hf) (e _ _ hc) (hz.up e) hl ih
theorem RvL.up (h : RvL K al n H vs ds) (hn : n ≤ n') (ha : ∀ k, k < n → al' k = al k) (e : Ex H H') : RvL K al' n' H' vs ds := ⟨h.len, fun i v d a b => (h.at_ i v d a b).up hn ha e⟩
theorem RvP.up {κ : Type} {kv : List (κ × V)} {ds : List (κ × D)} (h : RvP K al n H kv ds) (hn : n ≤ n') (ha : ∀ k, k < n → al' k = al k) (e : Ex H H') : RvP K al' n' H' kv ds := ⟨h.keys, fun i v d a b => (h.at_ i v d a b).up hn ha e⟩
theorem RvL.nil : RvL K al n H [] [] := ⟨rfl, fun i v d h => by simp at h⟩
theorem RvL.cons (h : Rv K al n H v d) (t : RvL K al n H vs ds) : RvL K al n H (v :: vs) (d :: ds) := ⟨by simp [t.len], fun i v' d' a b => by
  cases i with
  | zero => simp at a b; subst a b; exact h
  | succ i => exact t.at_ i v' d' (by simpa using a) (by simpa using b)⟩
theorem RvL.get (h : RvL K al n H vs ds) {i : Nat} (e : ds[i]? = some d) : ∃ v, vs[i]? = some v ∧ Rv K al n H v d := by
  have hl : i < vs.length := by
    rw [h.len]
    exact (List.getElem?_eq_some_iff.mp e).1
  exact ⟨vs[i], List.getElem?_eq_getElem hl, h.at_ i _ d (List.getElem?_eq_getElem hl) e⟩
theorem RvL.getv (h : RvL K al n H vs ds) {i : Nat} (e : vs[i]? = some v) : ∃ d, ds[i]? = some d ∧ Rv K al n H v d := by
  have hl : i < ds.length := by
    rw [← h.len]
    exact (List.getElem?_eq_some_iff.mp e).1
  exact ⟨ds[i], List.getElem?_eq_getElem hl, h.at_ i v _ e (List.getElem?_eq_getElem hl)⟩
theorem RvL.tail {x : V} {y : D} (h : RvL K al n H (x :: vs) (y :: ds)) : RvL K al n H vs ds := ⟨by simpa using h.len, fun i v d a b => h.at_ (i + 1) v d (by simpa using a) (by simpa using b)⟩
theorem RvL.head {x : V} {y : D} (h : RvL K al n H (x :: vs) (y :: ds)) : Rv K al n H x y := h.at_ 0 x y rfl rfl
theorem RvL.uncons {vs : List V} {y : D} {ds : List D} (h : RvL K al n H vs (y :: ds)) : ∃ x r, vs = x :: r ∧ Rv K al n H x y ∧ RvL K al n H r ds := by
  cases vs with
  | nil => have := h.len; simp at this
  | cons x r => exact ⟨x, r, rfl, h.head, h.tail⟩
theorem RvL.unnil {vs : List V} (h : RvL K al n H vs []) : vs = [] := List.length_eq_zero_iff.mp (by have := h.len; simpa using this)
theorem RvL.append (h : RvL K al n H vs ds) (t : RvL K al n H us es) : RvL K al n H (vs ++ us) (ds ++ es) := ⟨by simp [h.len, t.len], fun i v d a b => by
  by_cases hi : i < vs.length
  · rw [List.getElem?_append_left hi] at a
    rw [List.getElem?_append_left (by rw [← h.len]; exact hi)] at b
    exact h.at_ i v d a b
  · have hi := Nat.le_of_not_lt hi
    rw [List.getElem?_append_right hi] at a
    rw [List.getElem?_append_right (by rw [← h.len]; exact hi), ← h.len] at b
    exact t.at_ _ v d a b⟩
theorem RvL.take (m : Nat) (h : RvL K al n H vs ds) : RvL K al n H (vs.take m) (ds.take m) := ⟨by simp [h.len], fun i v d a b => by
  rw [List.getElem?_take] at a b
  split at a
  · exact h.at_ i v d a (by simpa [*] using b)
  · cases a⟩
theorem RvL.drop (m : Nat) (h : RvL K al n H vs ds) : RvL K al n H (vs.drop m) (ds.drop m) := ⟨by simp [h.len], fun i v d a b => by
  rw [List.getElem?_drop] at a b
  exact h.at_ _ v d a b⟩
theorem RvL.set (h : RvL K al n H vs ds) (r : Rv K al n H v d) (j : Nat) : RvL K al n H (vs.set j v) (ds.set j d) := ⟨by simp [h.len], fun i v' d' a b => by
  by_cases e : j = i
  · subst e
    have hl : j < vs.length := by
      have := (List.getElem?_eq_some_iff.mp a).1
      simpa using this
    rw [List.getElem?_set_self hl] at a
    rw [List.getElem?_set_self (by rw [← h.len]; exact hl)] at b
    cases a; cases b; exact r
  · rw [List.getElem?_set_ne e] at a b
    exact h.at_ i v' d' a b⟩
theorem RvL.reverse (h : RvL K al n H vs ds) : RvL K al n H vs.reverse ds.reverse := ⟨by simp [h.len], fun i v d a b => by
  have hi : i < vs.length := by have := (List.getElem?_eq_some_iff.mp a).1; simpa using this
  rw [List.getElem?_reverse hi] at a
  rw [List.getElem?_reverse (by rw [← h.len]; exact hi), ← h.len] at b
  exact h.at_ _ v d a b⟩
theorem RvL.strs (xs : List Str) : RvL K al n H (xs.map V.str) (xs.map fun s => D.v (.str s)) := ⟨by simp, fun i v d a b => by
  rw [List.getElem?_map] at a b
  cases e : xs[i]? with
  | none => rw [e] at a; cases a
  | some x => rw [e] at a b; cases a; cases b; exact .v _⟩
theorem RvL.vals (xs : List V) : RvL K al n H xs (xs.map D.v) := ⟨by simp, fun i v d a b => by
  rw [List.getElem?_map, a] at b
  cases b; exact .v _⟩
theorem RvL.vals_inv {xs : List V} (h : RvL K al n H vs (xs.map D.v)) : vs = xs := by
  induction xs generalizing vs with
  | nil => exact h.unnil
  | cons x r ih =>
    obtain ⟨y, q, rfl, h1, h2⟩ := RvL.uncons h
    cases h1
    rw [ih h2]
theorem RvL.eraseIdx (h : RvL K al n H vs ds) (j : Nat) : RvL K al n H (vs.eraseIdx j) (ds.eraseIdx j) := ⟨by simp [List.length_eraseIdx, h.len], fun i v d a b => by
  rw [List.getElem?_eraseIdx] at a b
  split at a
  · rename_i hi; rw [if_pos hi] at b; exact h.at_ _ v d a b
  · rename_i hi; rw [if_neg hi] at b; exact h.at_ _ v d a b⟩
end
abbrev Wo.rv (w : Wo) (K : PySem.W.Frag) (v : V) (d : D) : Prop := Rv K w.al w.mu.length w.vis v d
abbrev Wo.rl (w : Wo) (K : PySem.W.Frag) (vs : List V) (ds : List D) : Prop := RvL K w.al w.mu.length w.vis vs ds
def Cell (K : PySem.W.Frag) (w : Wo) (k : Nat) : OC → Prop
  | .lst ds => ∃ vs, w.hp (w.al k) = some (.lst vs) ∧ w.rl K vs ds
  | .dic ds => ∃ kv, w.hp (w.al k) = some (.dK kv) ∧ RvP K w.al w.mu.length w.vis kv ds
  | .ins C ds => ∃ dx fs, w.hp (w.al k) = some (.ins C dx fs) ∧ RvP K w.al w.mu.length w.vis fs ds
  | .inv P => ∃ vs, w.hp (w.al k) = some (.lst vs) ∧ P vs
  | .tab P nm => w.al k = P ∧ ∃ ps, w.hp (w.al k) = some (.tbl ps) ∧ TabV w.vis ps nm
  | .dead => True
structure Rep (K : PySem.W.Frag) (w : Wo) : Prop where
  inj : ∀ i j, i < w.mu.length → j < w.mu.length → w.al i = w.al j → i = j
  there : ∀ k, k < w.mu.length → w.hp (w.al k) ≠ none
  hxn : ∀ a, a ∈ w.hx → w.hp a ≠ none
  hxa : ∀ k, k < w.mu.length → w.al k ∉ w.hx
  sys : sysModules ∈ w.hx
  cell : ∀ k c, w.mu[k]? = some c → Cell K w k c
structure Lt (w w' : Wo) : Prop where
  le : w.mu.length ≤ w'.mu.length
  al : ∀ k, k < w.mu.length → w'.al k = w.al k
  ex : Ex w.vis w'.vis
  hx : w'.hx = w.hx
  hk : ∀ a, a ∈ w.hx → w'.hp a = w.hp a
theorem Lt.refl (w : Wo) : Lt w w := ⟨Nat.le_refl _, fun _ _ => rfl, Ex.refl _, rfl, fun _ _ => rfl⟩
theorem Lt.trans {a b c : Wo} (h : Lt a b) (g : Lt b c) : Lt a c := ⟨Nat.le_trans h.le g.le, fun k hk => (g.al k (Nat.lt_of_lt_of_le hk h.le)).trans (h.al k hk), h.ex.trans g.ex, g.hx.trans h.hx, fun x hx => (g.hk x (by rw [h.hx]; exact hx)).trans (h.hk x hx)⟩
theorem ex_eq {H H' : Hp} {a : Addr} (e : Ex H H') (n : H a ≠ none) : H' a = H a := by
  cases q : H a with
  | none => exact absurd q n
  | some o => exact e a o q
section
variable {K : PySem.W.Frag} {w w' : Wo} {v : V} {d : D} {vs : List V} {ds : List D}
theorem Lt.rv (L : Lt w w') (h : w.rv K v d) : w'.rv K v d := h.up L.le L.al L.ex
theorem Lt.rl (L : Lt w w') (h : w.rl K vs ds) : w'.rl K vs ds := h.up L.le L.al L.ex
theorem Lt.rp {κ : Type} {kv : List (κ × V)} {ds : List (κ × D)} (L : Lt w w') (h : RvP K w.al w.mu.length w.vis kv ds) : RvP K w'.al w'.mu.length w'.vis kv ds := h.up L.le L.al L.ex
theorem lt_of_get {k : Nat} {c : OC} (h : w.mu[k]? = some c) : k < w.mu.length := (List.getElem?_eq_some_iff.mp h).1
theorem hid_ne {p : Addr} (R : Rep K w) (h : w.hp p = none) : ¬ w.hid p := fun z => by
  rcases z with ⟨k, c, e, _, ea⟩ | z
  · exact R.there k (lt_of_get e) (by rw [ea]; exact h)
  · exact R.hxn p z h
/-- only new objects -/
theorem Rep.more (R : Rep K w) {H' : Hp} (e : Ex w.hp H') : Rep K { w with hp := H' } ∧ Lt w { w with hp := H' } := by
  have L : Lt w { w with hp := H' } := ⟨Nat.le_refl _, fun _ _ => rfl, fun a o h => vis_of (w := { w with hp := H' }) (e a o (vis_some h).1) (vis_some h).2, rfl, fun a ha => ex_eq e (R.hxn a ha)⟩
  refine ⟨⟨R.inj, fun k hk z => ?_, fun a ha => by rw [show ({ w with hp := H' } : Wo).hp a = w.hp a from ex_eq e (R.hxn a ha)]; exact R.hxn a ha, R.hxa, R.sys, fun k c hc => ?_⟩, L⟩
  · cases q : w.hp (w.al k) with
    | none => exact R.there k hk q
    | some o => exact nomatch (e _ _ q).symm.trans (show H' (w.al k) = none from z)
  · have h := R.cell k c hc
    cases c with
    | lst ds => obtain ⟨vs, a, b⟩ := h; exact ⟨vs, e _ _ a, L.rl b⟩
    | dic ds => obtain ⟨kv, a, b⟩ := h; exact ⟨kv, e _ _ a, L.rp b⟩
    | ins C ds => obtain ⟨dx, fs, a, b⟩ := h; exact ⟨dx, fs, e _ _ a, L.rp b⟩
    | inv P => obtain ⟨vs, a, b⟩ := h; exact ⟨vs, e _ _ a, b⟩
    | tab P nm => obtain ⟨a0, ps, a, b⟩ := h; exact ⟨a0, ps, e _ _ a, b.up L.ex⟩
    | dead => trivial
def Wo.push (w : Wo) (p : Addr) (c : OC) (H' : Hp) : Wo := ⟨fun k => if k = w.mu.length then p else w.al k, w.mu ++ [c], H', w.hx⟩
theorem Cell.up {k : Nat} {c : OC} (h : Cell K w k c) (L : Lt w w') (hk : k < w.mu.length) (e : w'.hp (w.al k) = w.hp (w.al k)) : Cell K w' k c := by
  have ea := L.al k hk
  cases c with
  | lst ds => obtain ⟨vs, a, b⟩ := h; exact ⟨vs, by rw [ea, e]; exact a, L.rl b⟩
  | dic ds => obtain ⟨kv, a, b⟩ := h; exact ⟨kv, by rw [ea, e]; exact a, L.rp b⟩
  | ins C ds => obtain ⟨dx, fs, a, b⟩ := h; exact ⟨dx, fs, by rw [ea, e]; exact a, L.rp b⟩
  | inv P => obtain ⟨vs, a, b⟩ := h; exact ⟨vs, by rw [ea, e]; exact a, b⟩
  | tab P nm => obtain ⟨a0, ps, a, b⟩ := h; exact ⟨by rw [ea]; exact a0, ps, by rw [ea, e]; exact a, b.up L.ex⟩
  | dead => trivial
/-- a new owned object -/
theorem Rep.push (R : Rep K w) {H' : Hp} {p : Addr} {c : OC} (e : Ex w.hp H') (hp : w.hp p = none) (hp' : H' p ≠ none) (hc : Lt w (w.push p c H') → Cell K (w.push p c H') w.mu.length c) : Rep K (w.push p c H') ∧ Lt w (w.push p c H') := by
  have hl : (w.push p c H').mu.length = w.mu.length + 1 := by show (w.mu ++ [c]).length = _; simp
  have ha : ∀ k, k < w.mu.length → (w.push p c H').al k = w.al k := fun k hk => if_neg (Nat.ne_of_lt hk)
  have hn : ∀ k, k < w.mu.length → w.al k ≠ p := fun k hk z => R.there k hk (by rw [z]; exact hp)
  have L : Lt w (w.push p c H') := ⟨by omega, ha, fun a o h => by
    obtain ⟨h1, h2⟩ := vis_some h
    refine vis_of (e _ _ h1) fun z => ?_
    refine z.elim (fun z => ?_) fun z => h2 (.inr z)
    obtain ⟨k, c', e1, e2, e3⟩ := z
    by_cases hk : k < w.mu.length
    · refine h2 (.inl ⟨k, c', ?_, e2, by rw [← ha k hk]; exact e3⟩)
      have e1 : (w.mu ++ [c])[k]? = some c' := e1
      rwa [List.getElem?_append_left hk] at e1
    · have h3 : k < w.mu.length + 1 := by rw [← hl]; exact lt_of_get e1
      have h4 : k = w.mu.length := by omega
      have e3 : (if k = w.mu.length then p else w.al k) = a := e3
      rw [if_pos h4] at e3
      rw [← e3, hp] at h1; exact absurd h1 (by simp), rfl, fun a ha => ex_eq e (R.hxn a ha)⟩
  refine ⟨⟨fun i j hi hj hij => ?_, fun k hk z => ?_, fun a ha => by rw [show (w.push p c H').hp a = w.hp a from ex_eq e (R.hxn a ha)]; exact R.hxn a ha, fun k hk => ?_, R.sys, fun k c' hc' => ?_⟩, L⟩
  · rw [hl] at hi hj
    have hij : (if i = w.mu.length then p else w.al i) = (if j = w.mu.length then p else w.al j) := hij
    by_cases h1 : i = w.mu.length
    · by_cases h2 : j = w.mu.length
      · omega
      · rw [if_pos h1, if_neg h2] at hij
        exact absurd hij.symm (hn j (by omega))
    · by_cases h2 : j = w.mu.length
      · rw [if_neg h1, if_pos h2] at hij
        exact absurd hij (hn i (by omega))
      · rw [if_neg h1, if_neg h2] at hij
        exact R.inj i j (by omega) (by omega) hij
  · rw [hl] at hk
    by_cases h1 : k = w.mu.length
    · have z : H' (if k = w.mu.length then p else w.al k) = none := z
      rw [if_pos h1] at z; exact hp' z
    · have hk2 : k < w.mu.length := by omega
      rw [ha k hk2] at z
      cases q : w.hp (w.al k) with
      | none => exact R.there k hk2 q
      | some o => rw [show (w.push p c H').hp (w.al k) = some o from e _ _ q] at z; cases z
  · show (if k = w.mu.length then p else w.al k) ∉ w.hx
    by_cases h1 : k = w.mu.length
    · rw [if_pos h1]; exact fun z => R.hxn p z hp
    · rw [if_neg h1]; exact R.hxa k (by omega)
  · by_cases hk : k < w.mu.length
    · have e1 : (w.mu ++ [c])[k]? = some c' := hc'
      rw [List.getElem?_append_left hk] at e1
      refine (R.cell k c' e1).up L hk ?_
      cases q : w.hp (w.al k) with
      | none => exact absurd q (R.there k hk)
      | some o => exact e _ _ q
    · have h3 : k < w.mu.length + 1 := by rw [← hl]; exact lt_of_get hc'
      have h4 : k = w.mu.length := by omega
      subst h4
      have e1 : (w.mu ++ [c])[w.mu.length]? = some c' := hc'
      rw [List.getElem?_concat_length] at e1
      cases e1
      exact hc L
def Wo.put (w : Wo) (k : Nat) (c : OC) (o : HO) : Wo := ⟨w.al, w.mu.set k c, upd w.hp (w.al k) o, w.hx⟩
/-- an owned object is written -/
theorem Rep.put (R : Rep K w) {k : Nat} {c0 c : OC} {o : HO} (h : w.mu[k]? = some c0) (l0 : c0.live = true) (l : c.live = true) (hc : Lt w (w.put k c o) → Cell K (w.put k c o) k c) : Rep K (w.put k c o) ∧ Lt w (w.put k c o) := by
  have hk := lt_of_get h
  have hl : (w.put k c o).mu.length = w.mu.length := by show (w.mu.set k c).length = _; simp
  have L : Lt w (w.put k c o) := ⟨by omega, fun _ _ => rfl, fun a u z => by
    obtain ⟨h1, h2⟩ := vis_some z
    have ne : a ≠ w.al k := fun e => h2 (.inl ⟨k, c0, h, l0, e.symm⟩)
    refine vis_of (by show upd w.hp (w.al k) o a = some u; rw [upd_ne ne]; exact h1) fun z => ?_
    refine z.elim (fun z => ?_) fun z => h2 (.inr z)
    obtain ⟨j, c', e1, e2, e3⟩ := z
    by_cases hj : k = j
    · subst hj; exact ne e3.symm
    · have e1 : (w.mu.set k c)[j]? = some c' := e1
      rw [List.getElem?_set_ne hj] at e1
      exact h2 (.inl ⟨j, c', e1, e2, e3⟩), rfl, fun a ha => upd_ne fun z => R.hxa k hk (by rw [← z]; exact ha)⟩
  refine ⟨⟨fun i j hi hj => R.inj i j (by omega) (by omega), fun j hj z => ?_, fun a ha => by rw [show (w.put k c o).hp a = w.hp a from upd_ne fun z => R.hxa k hk (by rw [← z]; exact ha)]; exact R.hxn a ha, fun j hj => R.hxa j (by omega), R.sys, fun j c' hc' => ?_⟩, L⟩
  · have z : upd w.hp (w.al k) o (w.al j) = none := z
    by_cases e : w.al j = w.al k
    · rw [e, upd_same] at z; cases z
    · rw [upd_ne e] at z; exact R.there j (by omega) z
  · by_cases hj : k = j
    · subst hj
      have e1 : (w.mu.set k c)[k]? = some c' := hc'
      rw [List.getElem?_set_self hk] at e1
      cases e1; exact hc L
    · have e1 : (w.mu.set k c)[j]? = some c' := hc'
      rw [List.getElem?_set_ne hj] at e1
      refine (R.cell j c' e1).up L (lt_of_get e1) ?_
      exact upd_ne fun e => hj (R.inj j k (lt_of_get e1) hk e).symm
def Wo.kill (w : Wo) (k : Nat) : Wo := ⟨w.al, w.mu.set k .dead, w.hp, w.hx⟩
theorem Rep.kill (R : Rep K w) (k : Nat) : Rep K (w.kill k) ∧ Lt w (w.kill k) := by
  have hl : (w.kill k).mu.length = w.mu.length := by show (w.mu.set k .dead).length = _; simp
  have L : Lt w (w.kill k) := ⟨by omega, fun _ _ => rfl, fun a u z => by
    obtain ⟨h1, h2⟩ := vis_some z
    refine vis_of h1 fun z => ?_
    refine z.elim (fun z => ?_) fun z => h2 (.inr z)
    obtain ⟨j, c', e1, e2, e3⟩ := z
    have e1 : (w.mu.set k .dead)[j]? = some c' := e1
    by_cases hj : k = j
    · subst hj
      rw [List.getElem?_set_self (by have := lt_of_get (w := w.kill k) e1; omega)] at e1
      cases e1; cases e2
    · rw [List.getElem?_set_ne hj] at e1
      exact h2 (.inl ⟨j, c', e1, e2, e3⟩), rfl, fun _ _ => rfl⟩
  refine ⟨⟨fun i j hi hj => R.inj i j (by omega) (by omega), fun j hj z => R.there j (by omega) z, R.hxn, fun j hj => R.hxa j (by omega), R.sys, fun j c' hc' => ?_⟩, L⟩
  have e1 : (w.mu.set k .dead)[j]? = some c' := hc'
  by_cases hj : k = j
  · subst hj
    rw [List.getElem?_set_self (by have := lt_of_get (w := w.kill k) hc'; omega)] at e1
    cases e1; trivial
  · rw [List.getElem?_set_ne hj] at e1
    exact (R.cell j c' e1).up L (lt_of_get e1) rfl
end
/-- names no owned thing from m on -/
inductive Bl (m : Nat) : D → Prop
  | v (x : V) : Bl m (.v x)
  | o (k : Nat) : k < m → Bl m (.o k)
  | lst {xs : List D} : (∀ x ∈ xs, Bl m x) → Bl m (.lst xs)
  | ls {xs : List D} : (∀ x ∈ xs, Bl m x) → Bl m (.ls xs)
  | tup {xs : List D} : (∀ x ∈ xs, Bl m x) → Bl m (.tup xs)
  | dic {xs : List (Key × D)} : (∀ x ∈ xs.map (·.2), Bl m x) → Bl m (.dic xs)
  | ins {C : Addr} {xs : List (Str × D)} : (∀ x ∈ xs.map (·.2), Bl m x) → Bl m (.ins C xs)
  | fnc {T : FT} {xs : List D} : (∀ x ∈ xs, Bl m x) → Bl m (.fnc T xs)
def BlC (m : Nat) : OC → Prop
  | .lst ds => ∀ x ∈ ds, Bl m x
  | .dic ds => ∀ x ∈ ds.map (·.2), Bl m x
  | .ins _ ds => ∀ x ∈ ds.map (·.2), Bl m x
  | _ => True
section
variable {K : PySem.W.Frag} {al al' : Nat → Addr} {n m : Nat} {H H' : Hp} {v : V} {d : D} {vs : List V} {ds : List D}
theorem Bl.of_rv (h : Rv K al n H v d) : Bl n d := by
  have aux : ∀ {xs : List V} {ds : List D}, xs.length = ds.length → (∀ (i : Nat) (v : V) (d : D), xs[i]? = some v → ds[i]? = some d → Bl n d) → ∀ x ∈ ds, Bl n x := fun {xs ds} hl ih x hx => by
    obtain ⟨i, hi, e⟩ := List.mem_iff_getElem.mp hx
    exact ih i (xs[i]'(by omega)) x (List.getElem?_eq_getElem (by omega)) (by rw [List.getElem?_eq_getElem hi, e])
  induction h with
  | v x => exact .v x
  | o k hk => exact .o k hk
  | lst hs hl _ ih => exact .lst (aux hl ih)
  | ls hs hl _ ih => exact .ls (aux hl ih)
  | tup hs hl _ ih => exact .tup (aux hl ih)
  | dic hs hl _ ih => exact .dic (aux (by have := congrArg List.length hl; simpa using this) ih)
  | ins hs hl _ ih => exact .ins (aux (by have := congrArg List.length hl; simpa using this) ih)
  | fnc hf hc hz hl _ ih => exact .fnc (aux hl ih)
theorem Rv.down (h : Rv K al n H v d) (b : Bl m d) (e : Ex H H') : Rv K al m H' v d := by
  induction h with
  | v x => exact .v x
  | o k hk => cases b with | o _ h => exact .o k h
  | lst hs hl _ ih => cases b with | lst h => exact .lst (e _ _ hs) hl fun i v d p q => ih i v d p q (h d (List.mem_of_getElem? q))
  | ls hs hl _ ih => cases b with | ls h => exact .ls (ex_l e hs) hl fun i v d p q => ih i v d p q (h d (List.mem_of_getElem? q))
  | tup hs hl _ ih => cases b with | tup h => exact .tup (ex_t e hs) hl fun i v d p q => ih i v d p q (h d (List.mem_of_getElem? q))
  | dic hs hl _ ih => cases b with | dic h => exact .dic (e _ _ hs) hl fun i v d p q => ih i v d p q (h d (List.mem_of_getElem? q))
  | ins hs hl _ ih => cases b with | ins h => exact .ins (e _ _ hs) hl fun i v d p q => ih i v d p q (h d (List.mem_of_getElem? q))
  | fnc hf hc hz hl _ ih => cases b with | fnc h => exact .fnc (e _ _ hf) (e _ _ hc) (hz.up e) hl fun i v d p q => ih i v d p q (h d (List.mem_of_getElem? q))
theorem RvL.down (h : RvL K al n H vs ds) (b : ∀ x ∈ ds, Bl m x) (e : Ex H H') : RvL K al m H' vs ds := ⟨h.len, fun i v d p q => (h.at_ i v d p q).down (b d (List.mem_of_getElem? q)) e⟩
theorem RvP.down {κ : Type} {kv : List (κ × V)} {ds : List (κ × D)} (h : RvP K al n H kv ds) (b : ∀ x ∈ ds.map (·.2), Bl m x) (e : Ex H H') : RvP K al m H' kv ds := ⟨h.keys, fun i v d p q => (h.at_ i v d p q).down (b d (List.mem_of_getElem? q)) e⟩
theorem BlC.of_cell {w : Wo} {k : Nat} {c : OC} (h : Cell K w k c) : BlC w.mu.length c := by
  have aux : ∀ {xs : List V} {ds : List D}, w.rl K xs ds → ∀ x ∈ ds, Bl w.mu.length x := fun {xs ds} r x hx => by
    obtain ⟨i, hi, e⟩ := List.mem_iff_getElem.mp hx
    obtain ⟨v, _, q⟩ := r.get (d := x) (i := i) (by rw [List.getElem?_eq_getElem hi, e])
    exact .of_rv q
  cases c with
  | lst ds => obtain ⟨vs, _, b⟩ := h; exact aux b
  | dic ds => obtain ⟨kv, _, b⟩ := h; exact aux ⟨by have := congrArg List.length b.keys; simpa using this, b.at_⟩
  | ins C ds => obtain ⟨dx, fs, _, b⟩ := h; exact aux ⟨by have := congrArg List.length b.keys; simpa using this, b.at_⟩
  | inv P => trivial
  | tab P nm => trivial
  | dead => trivial
end
/-- the newest owned things are forgotten -/
def Wo.cut (w : Wo) (m : Nat) : Wo := ⟨w.al, w.mu.take m, w.hp, w.hx⟩
section
variable {K : PySem.W.Frag} {w w0 : Wo} {m : Nat}
theorem cut_ex (w : Wo) (m : Nat) : Ex w.vis (w.cut m).vis := fun a o h => by
  obtain ⟨h1, h2⟩ := vis_some h
  refine vis_of h1 fun z => ?_
  refine z.elim (fun z => ?_) fun z => h2 (.inr z)
  obtain ⟨k, c, e1, e2, e3⟩ := z
  refine h2 (.inl ⟨k, c, ?_, e2, e3⟩)
  have e1 : (w.mu.take m)[k]? = some c := e1
  rw [List.getElem?_take] at e1
  split at e1
  · exact e1
  · cases e1
theorem Rep.cut (R : Rep K w) (L : Lt w0 w) (hm : m ≤ w.mu.length) (h0 : w0.mu.length ≤ m) (hb : ∀ k c, k < m → w.mu[k]? = some c → BlC m c) : Rep K (w.cut m) ∧ Lt w0 (w.cut m) := by
  have hl : (w.cut m).mu.length = m := by show (w.mu.take m).length = _; simp; omega
  refine ⟨⟨fun i j hi hj => R.inj i j (by omega) (by omega), fun k hk => R.there k (by omega), R.hxn, fun k hk => R.hxa k (by omega), R.sys, fun k c hc => ?_⟩, ⟨by omega, L.al, L.ex.trans (cut_ex w m), L.hx, L.hk⟩⟩
  have hk := lt_of_get hc
  have e1 : (w.mu.take m)[k]? = some c := hc
  rw [List.getElem?_take, if_pos (by omega)] at e1
  have q := R.cell k c e1
  have b := hb k c (by omega) e1
  have E := cut_ex w m
  cases c with
  | lst ds => obtain ⟨vs, x, y⟩ := q; exact ⟨vs, x, by show RvL K w.al (w.cut m).mu.length _ _ _; rw [hl]; exact y.down b E⟩
  | dic ds => obtain ⟨vs, x, y⟩ := q; exact ⟨vs, x, by show RvP K w.al (w.cut m).mu.length _ _ _; rw [hl]; exact y.down b E⟩
  | ins C ds => obtain ⟨dx, fs, x, y⟩ := q; exact ⟨dx, fs, x, by show RvP K w.al (w.cut m).mu.length _ _ _; rw [hl]; exact y.down b E⟩
  | inv P => obtain ⟨vs, x, y⟩ := q; exact ⟨vs, x, y⟩
  | tab P nm => obtain ⟨a0, ps, x, y⟩ := q; exact ⟨a0, ps, x, y.up E⟩
  | dead => trivial
end
end Wb

set_option Elab.async false
set_option linter.all false
set_option maxRecDepth 100000
/-! readings at the level of data, and that they serve -/
namespace Wb
open PySem PySem.Spec PyProof.Rows L2

abbrev K3 := D → Mu → Prop
abbrev E3 := St3 → Mu → K3 → Prop
abbrev T3 := St3 → Mu → (Bool → Mu → Prop) → Prop
abbrev A3 := St3 → Mu → (List D → Mu → Prop) → Prop
abbrev O3 := St3 → Mu → (Option Int → Mu → Prop) → Prop
abbrev G3 := D → St3 → Mu → (St3 → Mu → Prop) → Prop
abbrev Gs3 := List D → St3 → Mu → (St3 → Mu → Prop) → Prop
abbrev R3 := D → D → Mu → K3 → Prop
abbrev C3 := List D → Mu → K3 → Prop
structure Ends3 where
  nx : St3 → Mu → Prop
  rt : K3
  bk : St3 → Mu → Prop := fun _ _ => False
  ct : St3 → Mu → Prop := fun _ _ => False
abbrev S3 := Ends3 → St3 → Mu → Prop

/-- what stays known -/
structure Pre where
  ok : Wo → Prop
  up : ∀ {w w'}, Lt w w' → ok w → ok w'
def Pre.top : Pre := ⟨fun _ => True, fun _ _ => trivial⟩
structure RvS (K : PySem.W.Frag) (w : Wo) (σ : L2.St) (s : St3) : Prop where
  len : s.length = σ.length
  at_ : ∀ (i : Nat) (d : D), s[i]? = some (some d) → ∃ v : V, σ[i]? = some (some v) ∧ w.rv K v d
structure Sr (K : PySem.W.Frag) (I : Pre) (w : Wo) (σ : L2.St) (s : St3) : Prop where
  rep : Rep K w
  rvs : RvS K w σ s
  ok : I.ok w
section
variable {K : PySem.W.Frag} {I : Pre} {w w' : Wo} {σ : L2.St} {s : St3} {v : V} {d : D} {i : Nat}
theorem RvS.up (h : RvS K w σ s) (L : Lt w w') : RvS K w' σ s := ⟨h.len, fun i d e => by obtain ⟨v, a, b⟩ := h.at_ i d e; exact ⟨v, a, L.rv b⟩⟩
theorem Sr.to (S : Sr K I w σ s) (L : Lt w w') (R : Rep K w') : Sr K I w' σ s := ⟨R, S.rvs.up L, I.up L S.ok⟩
theorem RvS.set (h : RvS K w σ s) (r : w.rv K v d) : RvS K w (σ.set i (some v)) (s.set i (some d)) := ⟨by simp [h.len], fun j d' e => by
  by_cases q : i = j
  · subst q
    have hl : i < s.length := by have := (List.getElem?_eq_some_iff.mp e).1; simpa using this
    rw [List.getElem?_set_self hl] at e
    cases e
    exact ⟨v, by rw [List.getElem?_set_self (by rw [← h.len]; exact hl)], r⟩
  · rw [List.getElem?_set_ne q] at e
    obtain ⟨v', a, b⟩ := h.at_ j d' e
    exact ⟨v', by rw [List.getElem?_set_ne q]; exact a, b⟩⟩
theorem RvS.unset (h : RvS K w σ s) (x : Option V) : RvS K w (σ.set i x) (s.set i none) := ⟨by simp [h.len], fun j d' e => by
  by_cases q : i = j
  · subst q
    have hl : i < s.length := by have := (List.getElem?_eq_some_iff.mp e).1; simpa using this
    rw [List.getElem?_set_self hl] at e
    cases e
  · rw [List.getElem?_set_ne q] at e
    obtain ⟨v', a, b⟩ := h.at_ j d' e
    exact ⟨v', by rw [List.getElem?_set_ne q]; exact a, b⟩⟩
def wipe3 (s : St3) : List Nat → St3
  | [] => s
  | v :: vs => (wipe3 s vs).set v none
theorem RvS.wipe (h : RvS K w σ s) : ∀ vs, RvS K w (L2.wipe σ vs) (wipe3 s vs)
  | [] => h
  | v :: vs => (RvS.wipe h vs).unset none
end
def Post (K : PySem.W.Frag) (w : Wo) (Q : VK) (Q3 : K3) : Prop := ∀ w' v d, Lt w w' → Rep K w' → w'.rv K v d → Q3 d w'.mu → Q v w'.hp
theorem Post.up {K : PySem.W.Frag} {w w' : Wo} {Q : VK} {Q3 : K3} (h : Post K w Q Q3) (L : Lt w w') : Post K w' Q Q3 := fun w2 v d L2 => h w2 v d (L.trans L2)
def PostS (K : PySem.W.Frag) (w : Wo) (Q : L2.St → Hp → Prop) (Q3 : St3 → Mu → Prop) : Prop := ∀ w' σ s, Lt w w' → Rep K w' → RvS K w' σ s → Q3 s w'.mu → Q σ w'.hp
theorem PostS.up {K : PySem.W.Frag} {w w' : Wo} {Q : L2.St → Hp → Prop} {Q3 : St3 → Mu → Prop} (h : PostS K w Q Q3) (L : Lt w w') : PostS K w' Q Q3 := fun w2 v d L2 => h w2 v d (L.trans L2)
structure PostD (K : PySem.W.Frag) (w : Wo) (D : Ends) (D3 : Ends3) : Prop where
  nx : PostS K w D.nx D3.nx
  rt : Post K w D.rt D3.rt
  bk : PostS K w D.bk D3.bk
  ct : PostS K w D.ct D3.ct
theorem PostD.up {K : PySem.W.Frag} {w w' : Wo} {D : Ends} {D3 : Ends3} (h : PostD K w D D3) (L : Lt w w') : PostD K w' D D3 := ⟨h.nx.up L, h.rt.up L, h.bk.up L, h.ct.up L⟩
theorem PostD.nx' {K : PySem.W.Frag} {w : Wo} {D : Ends} {D3 : Ends3} {Q : L2.St → Hp → Prop} {Q3 : St3 → Mu → Prop} (h : PostD K w D D3) (q : PostS K w Q Q3) : PostD K w { D with nx := Q } { D3 with nx := Q3 } := ⟨q, h.rt, h.bk, h.ct⟩

section
variable (K : PySem.W.Frag) (I : Pre)
def SE (t : TE) (e : E3) : Prop := ∀ w σ s Q Q3, Sr K I w σ s → e s w.mu Q3 → Post K w Q Q3 → t σ w.hp Q
def ST (t : TT) (e : T3) : Prop := ∀ w σ s (Q : Bool → Hp → Prop) (Q3 : Bool → Mu → Prop), Sr K I w σ s → e s w.mu Q3 → (∀ w' b, Lt w w' → Rep K w' → Q3 b w'.mu → Q b w'.hp) → t σ w.hp Q
def SA (t : TA) (e : A3) : Prop := ∀ w σ s (Q : List V → Hp → Prop) (Q3 : List D → Mu → Prop), Sr K I w σ s → e s w.mu Q3 → (∀ w' vs ds, Lt w w' → Rep K w' → w'.rl K vs ds → Q3 ds w'.mu → Q vs w'.hp) → t σ w.hp Q
def SO (t : TO) (e : O3) : Prop := ∀ w σ s (Q : Option Int → Hp → Prop) (Q3 : Option Int → Mu → Prop), Sr K I w σ s → e s w.mu Q3 → (∀ w' o, Lt w w' → Rep K w' → Q3 o w'.mu → Q o w'.hp) → t σ w.hp Q
def SS (t : TS) (e : S3) : Prop := ∀ w σ s D D3, Sr K I w σ s → e D3 s w.mu → PostD K w D D3 → t D σ w.hp
def SG (t : TG) (e : G3) : Prop := ∀ w σ s v d Q Q3, Sr K I w σ s → w.rv K v d → e d s w.mu Q3 → PostS K w Q Q3 → t v σ w.hp Q
def SGs (t : TGs) (e : Gs3) : Prop := ∀ w σ s vs ds Q Q3, Sr K I w σ s → w.rl K vs ds → e ds s w.mu Q3 → PostS K w Q Q3 → t vs σ w.hp Q
def SR (r : R2) (e : R3) : Prop := ∀ w x y dx dy Q Q3, Rep K w → I.ok w → w.rv K x dx → w.rv K y dy → e dx dy w.mu Q3 → Post K w Q Q3 → r x y w.hp Q
def SC (r : List V → Hp → VK → Prop) (e : C3) : Prop := ∀ w vs ds Q Q3, Rep K w → I.ok w → w.rl K vs ds → e ds w.mu Q3 → Post K w Q Q3 → r vs w.hp Q
/-- a method's rule -/
def SM (r : V → List V → Hp → VK → Prop) (e : D → C3) : Prop := ∀ w x vs d ds Q Q3, Rep K w → I.ok w → w.rv K x d → w.rl K vs ds → e d ds w.mu Q3 → Post K w Q Q3 → r x vs w.hp Q
/-- the type that a method asks of its receiver -/
def STy (T : String) (e : D → Mu → Prop) : Prop := ∀ w x d, Rep K w → w.rv K x d → e d w.mu → tyV K T x w.hp
def SU (r : V → Hp → VK → Prop) (e : D → Mu → K3 → Prop) : Prop := ∀ w x dx Q Q3, Rep K w → I.ok w → w.rv K x dx → e dx w.mu Q3 → Post K w Q Q3 → r x w.hp Q
def SSl (r : V → Option Int → Option Int → Hp → VK → Prop) (e : D → Option Int → Option Int → Mu → K3 → Prop) : Prop := ∀ w x dx l h Q Q3, Rep K w → I.ok w → w.rv K x dx → e dx l h w.mu Q3 → Post K w Q Q3 → r x l h w.hp Q
def SSet (r : TSet) (e : D → D → D → Mu → (Mu → Prop) → Prop) : Prop := ∀ w x y z dx dy dz (Q : Hp → Prop) Q3, Rep K w → I.ok w → w.rv K x dx → w.rv K y dy → w.rv K z dz → e dx dy dz w.mu Q3 → (∀ w', Lt w w' → Rep K w' → Q3 w'.mu → Q w'.hp) → r x y z w.hp Q
end

/-! the terms -/
def eVar (i : Nat) : E3 := fun s μ Q => match s[i]? with | some (some d) => Q d μ | _ => False
def eC (x : V) : E3 := fun _ μ Q => Q (.v x) μ
def eOp (r : R3) (ea eb : E3) : E3 := fun s μ Q => ea s μ fun x μ1 => eb s μ1 fun y μ2 => r x y μ2 Q
def eUn (r : D → Mu → K3 → Prop) (ea : E3) : E3 := fun s μ Q => ea s μ fun x μ1 => r x μ1 Q
/-- a truth is wanted -/
def wB (d : D) (k : Bool → Prop) : Prop := match d with | .v (.bl b) => k b | _ => False
def wI (d : D) (k : Int → Prop) : Prop := match d with | .v (.int b) => k b | _ => False
def eTest (ea : E3) : T3 := fun s μ Q => ea s μ fun x μ1 => wB x fun b => Q b μ1
def eAnd (a b : T3) : T3 := fun s μ Q => a s μ fun c μ1 => if c = true then b s μ1 Q else Q false μ1
def eOr (a b : T3) : T3 := fun s μ Q => a s μ fun c μ1 => if c = true then Q true μ1 else b s μ1 Q
def eNot (a : T3) : T3 := fun s μ Q => a s μ fun c μ1 => Q (!c) μ1
def eAndV (a b : E3) : E3 := fun s μ Q => a s μ fun x μ1 => wB x fun c => if c = true then b s μ1 Q else Q (.v (.bl false)) μ1
def eOrV (a b : E3) : E3 := fun s μ Q => a s μ fun x μ1 => wB x fun c => if c = true then Q (.v (.bl true)) μ1 else b s μ1 Q
def eNotV (a : E3) : E3 := fun s μ Q => a s μ fun x μ1 => wB x fun c => Q (.v (.bl (!c))) μ1
def eIf (c : T3) (a b : E3) : E3 := fun s μ Q => c s μ fun b' μ1 => if b' = true then a s μ1 Q else b s μ1 Q
def eChain (r r' : R3) (a b c : E3) : E3 := fun s μ Q => a s μ fun x μ1 => b s μ1 fun y μ2 => r x y μ2 fun z μ3 => wB z fun k => if k = true then c s μ3 fun w μ4 => r' y w μ4 Q else Q (.v (.bl false)) μ3
def eNil : A3 := fun _ μ Q => Q [] μ
def eCons (a : E3) (r : A3) : A3 := fun s μ Q => a s μ fun x μ1 => r s μ1 fun xs μ2 => Q (x :: xs) μ2
def eTup (a : A3) : E3 := fun s μ Q => a s μ fun xs μ1 => xs.length ≤ sizeLine ∧ Q (.tup xs) μ1
def eLst (a : A3) : E3 := fun s μ Q => a s μ fun xs μ1 => xs.length ≤ sizeLine ∧ Q (.lst xs) μ1
/-- a new list, owned -/
def eLstO (a : A3) : E3 := fun s μ Q => a s μ fun xs μ1 => xs.length ≤ sizeLine ∧ Q (.o μ1.length) (μ1 ++ [.lst xs])
def eCB (r : C3) (a : A3) : E3 := fun s μ Q => a s μ fun vs μ1 => r vs μ1 Q
def eNoPart : O3 := fun _ μ Q => Q none μ
def ePart (a : E3) : O3 := fun s μ Q => a s μ fun x μ1 => wI x fun i => Q (some i) μ1
def eSl (r : D → Option Int → Option Int → Mu → K3 → Prop) (a : E3) (l h : O3) : E3 := fun s μ Q => a s μ fun x μ1 => l s μ1 fun i μ2 => h s μ2 fun j μ3 => r x i j μ3 Q
def eM0 (r : D → C3) (a : E3) : E3 := fun s μ Q => a s μ fun x μ1 => (∃ z, x = .v (.str z)) ∧ r x [] μ1 Q
def eM1 (r : D → C3) (a b : E3) : E3 := fun s μ Q => a s μ fun x μ1 => (∃ z, x = .v (.str z)) ∧ b s μ1 fun y μ2 => r x [y] μ2 Q
def eBM (ty : D → Mu → Prop) (r : D → C3) (a : E3) (b : A3) : E3 := fun s μ Q => a s μ fun x μ1 => ty x μ1 ∧ b s μ1 fun ys μ2 => r x ys μ2 Q
def eBM0 (ty : D → Mu → Prop) (r : D → C3) (a : E3) : E3 := fun s μ Q => a s μ fun x μ1 => ty x μ1 ∧ r x [] μ1 Q
/-! statements -/
def xSeq (t u : S3) : S3 := fun D s μ => t { D with nx := u D } s μ
def xNext : S3 := fun D s μ => D.nx s μ
def xBrk : S3 := fun D s μ => D.bk s μ
def xCont : S3 := fun D s μ => D.ct s μ
def xDrop (e : E3) : S3 := fun D s μ => e s μ fun _ μ1 => D.nx s μ1
def xRet (e : E3) : S3 := fun D s μ => e s μ D.rt
def xRetN : S3 := fun D _ μ => D.rt (.v .non) μ
def xIf (c : T3) (t u : S3) : S3 := fun D s μ => c s μ fun b μ1 => if b = true then t D s μ1 else u D s μ1
def xAsg (e : E3) (g : G3) : S3 := fun D s μ => e s μ fun x μ1 => g x s μ1 D.nx
def kName (i : Nat) : G3 := fun d s μ Q => Q (s.set i (some d)) μ
def kNil : Gs3 := fun ds s μ Q => ds = [] ∧ Q s μ
def kCons (g : G3) (r : Gs3) : Gs3 := fun ds s μ Q => match ds with | d :: t => g d s μ fun s1 μ1 => r t s1 μ1 Q | [] => False
def seqL (μ : Mu) : D → Option (List D)
  | .lst xs => some xs
  | .ls xs => some xs
  | .o k => match μ[k]? with
    | some (.lst xs) => some xs
    | _ => none
  | _ => none
def seqT : D → Option (List D)
  | .tup xs => some xs
  | _ => none
def kTup (n : Nat) (g : Gs3) : G3 := fun d s μ Q => match seqT d with | some xs => xs.length = n ∧ g xs s μ Q | none => False
def kSub (o i : E3) (r : D → D → D → Mu → (Mu → Prop) → Prop) : G3 := fun d s μ Q => o s μ fun x μ1 => i s μ1 fun y μ2 => r x y d μ2 fun μ3 => Q s μ3
def xAug (i : Nat) (e : E3) (r : R3) : S3 := fun D s μ => match s[i]? with | some (some x) => e s μ fun y μ1 => r x y μ1 fun z μ2 => D.nx (s.set i (some z)) μ2 | _ => False
/-- ghost: the owned list that slot i names is data from now on -/
def xFrz (i : Nat) (t : S3) : S3 := fun D s μ => match s[i]? with
  | some (some (.o k)) => (match μ[k]? with
    | some (.lst xs) => t D (s.set i (some (.lst xs))) (μ.set k .dead)
    | _ => False)
  | _ => False
def eFrz (e : E3) : E3 := fun s μ Q => e s μ fun d μ1 => match d with
  | .o k => (match μ1[k]? with
    | some (.lst xs) => Q (.lst xs) (μ1.set k .dead)
    | some (.dic xs) => Q (.dic xs) (μ1.set k .dead)
    | some (.ins C xs) => Q (.ins C xs) (μ1.set k .dead)
    | _ => False)
  | d => Q d μ1

section
variable {K : PySem.W.Frag} {I : Pre}
theorem s_var (i : Nat) : SE K I (tVar i) (eVar i) := fun w σ s Q Q3 S h q => by
  unfold eVar at h
  split at h
  · rename_i d e
    obtain ⟨v, a, b⟩ := S.rvs.at_ i d e
    exact ⟨v, a, q w v d (.refl w) S.rep b h⟩
  · exact h.elim
theorem s_c (x : V) : SE K I (tC x) (eC x) := fun w σ s Q Q3 S h q => q w x _ (.refl w) S.rep (.v x) h
theorem s_op {r : R2} {e : R3} {ta tb : TE} {ea eb : E3} (hr : SR K I r e) (ha : SE K I ta ea) (hb : SE K I tb eb) : SE K I (tOp r ta tb) (eOp e ea eb) := fun w σ s Q Q3 S h q =>
  ha w σ s _ _ S h fun w1 v1 d1 L1 R1 V1 h1 => hb w1 σ s _ _ (S.to L1 R1) h1 fun w2 v2 d2 L2 R2 V2 h2 =>
    hr w2 v1 v2 d1 d2 Q Q3 R2 (I.up (L1.trans L2) S.ok) (L2.rv V1) V2 h2 (q.up (L1.trans L2))
theorem s_un {r : V → Hp → VK → Prop} {e : D → Mu → K3 → Prop} {ta : TE} {ea : E3} (hr : SU K I r e) (ha : SE K I ta ea) : SE K I (tUn r ta) (eUn e ea) := fun w σ s Q Q3 S h q =>
  ha w σ s _ _ S h fun w1 v1 d1 L1 R1 V1 h1 => hr w1 v1 d1 Q Q3 R1 (I.up L1 S.ok) V1 h1 (q.up L1)
theorem wB_at {al : Nat → Addr} {n : Nat} {H : Hp} {v : V} {d : D} {k : Bool → Prop} {P : Bool → Prop} (r : Rv K al n H v d) (h : wB d k) (q : ∀ b, k b → P b) : ∃ b, v = .bl b ∧ P b := by
  unfold wB at h
  split at h
  · cases r; exact ⟨_, rfl, q _ h⟩
  · exact h.elim
theorem wI_at {al : Nat → Addr} {n : Nat} {H : Hp} {v : V} {d : D} {k : Int → Prop} {P : Int → Prop} (r : Rv K al n H v d) (h : wI d k) (q : ∀ b, k b → P b) : ∃ b, v = .int b ∧ P b := by
  unfold wI at h
  split at h
  · cases r; exact ⟨_, rfl, q _ h⟩
  · exact h.elim
theorem s_test {ta : TE} {ea : E3} (ha : SE K I ta ea) : ST K I (tTest ta) (eTest ea) := fun w σ s Q Q3 S h q =>
  ha w σ s _ _ S h fun w1 v1 d1 L1 R1 V1 h1 => wB_at V1 h1 fun b h2 => q w1 b L1 R1 h2
theorem s_tb {ta : TE} {ea : E3} (ha : SE K I ta ea) : ST K I (tB ta) (eTest ea) := s_test ha
theorem s_and {ta tb : TT} {ea eb : T3} (ha : ST K I ta ea) (hb : ST K I tb eb) : ST K I (tAnd ta tb) (eAnd ea eb) := fun w σ s Q Q3 S h q =>
  ha w σ s _ _ S h fun w1 c L1 R1 h1 => by
    cases c with
    | true => exact iteT (hb w1 σ s _ _ (S.to L1 R1) (by simpa using h1) fun w2 b L2 R2 h2 => q w2 b (L1.trans L2) R2 h2)
    | false => exact iteF (q w1 false L1 R1 (by simpa using h1))
theorem s_or {ta tb : TT} {ea eb : T3} (ha : ST K I ta ea) (hb : ST K I tb eb) : ST K I (tOr ta tb) (eOr ea eb) := fun w σ s Q Q3 S h q =>
  ha w σ s _ _ S h fun w1 c L1 R1 h1 => by
    cases c with
    | false => exact iteF (hb w1 σ s _ _ (S.to L1 R1) (by simpa using h1) fun w2 b L2 R2 h2 => q w2 b (L1.trans L2) R2 h2)
    | true => exact iteT (q w1 true L1 R1 (by simpa using h1))
theorem s_not {ta : TT} {ea : T3} (ha : ST K I ta ea) : ST K I (tNot ta) (eNot ea) := fun w σ s Q Q3 S h q =>
  ha w σ s _ _ S h fun w1 c L1 R1 h1 => q w1 _ L1 R1 h1
theorem s_andV {ta tb : TE} {ea eb : E3} (ha : SE K I ta ea) (hb : SE K I tb eb) : SE K I (tAndV ta tb) (eAndV ea eb) := fun w σ s Q Q3 S h q =>
  ha w σ s _ _ S h fun w1 v1 d1 L1 R1 V1 h1 => wB_at V1 h1 fun c h2 => by
    cases c with
    | true => exact iteT (hb w1 σ s _ _ (S.to L1 R1) (by simpa using h2) (q.up L1))
    | false => exact iteF (q w1 _ _ L1 R1 (.v _) (by simpa using h2))
theorem s_orV {ta tb : TE} {ea eb : E3} (ha : SE K I ta ea) (hb : SE K I tb eb) : SE K I (tOrV ta tb) (eOrV ea eb) := fun w σ s Q Q3 S h q =>
  ha w σ s _ _ S h fun w1 v1 d1 L1 R1 V1 h1 => wB_at V1 h1 fun c h2 => by
    cases c with
    | false => exact iteF (hb w1 σ s _ _ (S.to L1 R1) (by simpa using h2) (q.up L1))
    | true => exact iteT (q w1 _ _ L1 R1 (.v _) (by simpa using h2))
theorem s_notV {ta : TE} {ea : E3} (ha : SE K I ta ea) : SE K I (tNotV ta) (eNotV ea) := fun w σ s Q Q3 S h q =>
  ha w σ s _ _ S h fun w1 v1 d1 L1 R1 V1 h1 => wB_at V1 h1 fun c h2 => q w1 _ _ L1 R1 (.v _) h2
theorem s_if {tc : TT} {ta tb : TE} {ec : T3} {ea eb : E3} (hc : ST K I tc ec) (ha : SE K I ta ea) (hb : SE K I tb eb) : SE K I (tIf tc ta tb) (eIf ec ea eb) := fun w σ s Q Q3 S h q =>
  hc w σ s _ _ S h fun w1 c L1 R1 h1 => by
    cases c with
    | true => exact iteT (ha w1 σ s _ _ (S.to L1 R1) (by simpa using h1) (q.up L1))
    | false => exact iteF (hb w1 σ s _ _ (S.to L1 R1) (by simpa using h1) (q.up L1))
theorem s_chain {r r' : R2} {e e' : R3} {ta tb tc : TE} {ea eb ec : E3} (hr : SR K I r e) (hr' : SR K I r' e') (ha : SE K I ta ea) (hb : SE K I tb eb) (hc : SE K I tc ec) : SE K I (tChain r r' ta tb tc) (eChain e e' ea eb ec) := fun w σ s Q Q3 S h q =>
  ha w σ s _ _ S h fun w1 v1 d1 L1 R1 V1 h1 => hb w1 σ s _ _ (S.to L1 R1) h1 fun w2 v2 d2 L2 R2 V2 h2 =>
    hr w2 v1 v2 d1 d2 _ _ R2 (I.up (L1.trans L2) S.ok) (L2.rv V1) V2 h2 fun w3 v3 d3 L3 R3 V3 h3 => wB_at V3 h3 fun k h4 => by
      have L := L1.trans (L2.trans L3)
      cases k with
      | true => exact iteT (hc w3 σ s _ _ (S.to L R3) (by simpa using h4) fun w4 v4 d4 L4 R4 V4 h5 => hr' w4 v2 v4 d2 d4 Q Q3 R4 (I.up (L.trans L4) S.ok) ((L3.trans L4).rv V2) V4 h5 (q.up (L.trans L4)))
      | false => exact iteF (q w3 _ _ L R3 (.v _) (by simpa using h4))
theorem s_nil : SA K I tNil eNil := fun w σ s Q Q3 S h q => q w [] [] (.refl w) S.rep .nil h
theorem s_cons {ta : TE} {tr : TA} {ea : E3} {er : A3} (ha : SE K I ta ea) (hr : SA K I tr er) : SA K I (tCons ta tr) (eCons ea er) := fun w σ s Q Q3 S h q =>
  ha w σ s _ _ S h fun w1 v1 d1 L1 R1 V1 h1 => hr w1 σ s _ _ (S.to L1 R1) h1 fun w2 vs ds L2 R2 V2 h2 => q w2 _ _ (L1.trans L2) R2 (.cons (L2.rv V1) V2) h2
theorem sqL_new {w : Wo} {p : Addr} {xs : List V} {ds : List D} (R : Rep K w) (hp : w.hp p = none) (r : w.rl K xs ds) :
    Rep K { w with hp := upd w.hp p (.lst xs) } ∧ Lt w { w with hp := upd w.hp p (.lst xs) } ∧ Wo.rv { w with hp := upd w.hp p (.lst xs) } K (.ref p) (.lst ds) := by
  obtain ⟨R1, L1⟩ := R.more (Ex.new (o := .lst xs) hp)
  have hv := L1.rl r
  exact ⟨R1, L1, .lst (vis_of (w := { w with hp := upd w.hp p (.lst xs) }) upd_same (fun z => hid_ne R hp z)) hv.len hv.at_⟩
theorem sqT_new {w : Wo} {p : Addr} {xs : List V} {ds : List D} (R : Rep K w) (hp : w.hp p = none) (r : w.rl K xs ds) :
    Rep K { w with hp := upd w.hp p (.tup xs) } ∧ Lt w { w with hp := upd w.hp p (.tup xs) } ∧ Wo.rv { w with hp := upd w.hp p (.tup xs) } K (.ref p) (.tup ds) := by
  obtain ⟨R1, L1⟩ := R.more (Ex.new (o := .tup xs) hp)
  have hv := L1.rl r
  exact ⟨R1, L1, .tup (.inl (.inl (vis_of (w := { w with hp := upd w.hp p (.tup xs) }) upd_same (fun z => hid_ne R hp z)))) hv.len hv.at_⟩
theorem own_new {w : Wo} {p : Addr} {xs : List V} {ds : List D} (R : Rep K w) (hp : w.hp p = none) (r : w.rl K xs ds) :
    Rep K (w.push p (.lst ds) (upd w.hp p (.lst xs))) ∧ Lt w (w.push p (.lst ds) (upd w.hp p (.lst xs))) ∧ (w.push p (.lst ds) (upd w.hp p (.lst xs))).rv K (.ref p) (.o w.mu.length) := by
  obtain ⟨R1, L1⟩ := R.push (c := .lst ds) (Ex.new (o := .lst xs) hp) hp (by rw [upd_same]; exact nofun) fun L => ⟨xs, by
    show upd w.hp p (.lst xs) (if w.mu.length = w.mu.length then p else _) = _
    rw [if_pos rfl, upd_same], L.rl r⟩
  refine ⟨R1, L1, ?_⟩
  have e : (w.push p (.lst ds) (upd w.hp p (.lst xs))).al w.mu.length = p := if_pos rfl
  have := Rv.o (K := K) (al := (w.push p (.lst ds) (upd w.hp p (.lst xs))).al) (n := (w.push p (.lst ds) (upd w.hp p (.lst xs))).mu.length) (H := (w.push p (.lst ds) (upd w.hp p (.lst xs))).vis) w.mu.length (by show _ < (w.mu ++ [_]).length; simp)
  rw [e] at this; exact this
theorem s_tup {ta : TA} {ea : A3} (ha : SA K I ta ea) : SE K I (tTup ta) (eTup ea) := fun w σ s Q Q3 S h q =>
  ha w σ s _ _ S h fun w1 vs ds L1 R1 V1 h1 => ⟨by rw [V1.len]; exact h1.1, fun p hp => by
    obtain ⟨R2, L2, V2⟩ := sqT_new R1 hp V1
    exact q _ _ _ (L1.trans L2) R2 V2 h1.2⟩
theorem s_lst {ta : TA} {ea : A3} (ha : SA K I ta ea) : SE K I (tLst ta) (eLst ea) := fun w σ s Q Q3 S h q =>
  ha w σ s _ _ S h fun w1 vs ds L1 R1 V1 h1 => ⟨by rw [V1.len]; exact h1.1, fun p hp => by
    obtain ⟨R2, L2, V2⟩ := sqL_new R1 hp V1
    exact q _ _ _ (L1.trans L2) R2 V2 h1.2⟩
theorem s_lstO {ta : TA} {ea : A3} (ha : SA K I ta ea) : SE K I (tLst ta) (eLstO ea) := fun w σ s Q Q3 S h q =>
  ha w σ s _ _ S h fun w1 vs ds L1 R1 V1 h1 => ⟨by rw [V1.len]; exact h1.1, fun p hp => by
    obtain ⟨R2, L2, V2⟩ := own_new R1 hp V1
    exact q _ _ _ (L1.trans L2) R2 V2 h1.2⟩
theorem s_cb {r : List V → Hp → VK → Prop} {e : C3} {ta : TA} {ea : A3} (hr : SC K I r e) (ha : SA K I ta ea) : SE K I (tCB r ta) (eCB e ea) := fun w σ s Q Q3 S h q =>
  ha w σ s _ _ S h fun w1 vs ds L1 R1 V1 h1 => hr w1 vs ds Q Q3 R1 (I.up L1 S.ok) V1 h1 (q.up L1)
theorem s_nopart : SO K I tNoPart eNoPart := fun w σ s Q Q3 S h q => q w none (.refl w) S.rep h
theorem s_part {ta : TE} {ea : E3} (ha : SE K I ta ea) : SO K I (tPart ta) (ePart ea) := fun w σ s Q Q3 S h q =>
  ha w σ s _ _ S h fun w1 v1 d1 L1 R1 V1 h1 => wI_at V1 h1 fun b h2 => q w1 (some b) L1 R1 h2
theorem s_sl {r : V → Option Int → Option Int → Hp → VK → Prop} {e : D → Option Int → Option Int → Mu → K3 → Prop} {ta : TE} {tl th : TO} {ea : E3} {el eh : O3} (hr : SSl K I r e) (ha : SE K I ta ea) (hl : SO K I tl el) (hh : SO K I th eh) : SE K I (tSl r ta tl th) (eSl e ea el eh) := fun w σ s Q Q3 S h q =>
  ha w σ s _ _ S h fun w1 v1 d1 L1 R1 V1 h1 => hl w1 σ s _ _ (S.to L1 R1) h1 fun w2 i L2 R2 h2 => hh w2 σ s _ _ (S.to (L1.trans L2) R2) h2 fun w3 j L3 R3 h3 => by
    have L := L1.trans (L2.trans L3)
    exact hr w3 v1 d1 i j Q Q3 R3 (I.up L S.ok) ((L2.trans L3).rv V1) h3 (q.up L)
theorem s_m0 {r : V → List V → Hp → VK → Prop} {e : D → C3} {ta : TE} {ea : E3} (hr : SM K I r e) (ha : SE K I ta ea) : SE K I (tM0 r ta) (eM0 e ea) := fun w σ s Q Q3 S h q =>
  ha w σ s _ _ S h fun w1 v1 d1 L1 R1 V1 h1 => by
    obtain ⟨⟨z, rfl⟩, h2⟩ := h1
    cases V1
    exact ⟨⟨z, rfl⟩, hr w1 _ [] _ [] Q Q3 R1 (I.up L1 S.ok) (.v _) .nil h2 (q.up L1)⟩
theorem s_m1 {r : V → List V → Hp → VK → Prop} {e : D → C3} {ta tb : TE} {ea eb : E3} (hr : SM K I r e) (ha : SE K I ta ea) (hb : SE K I tb eb) : SE K I (tM1 r ta tb) (eM1 e ea eb) := fun w σ s Q Q3 S h q =>
  ha w σ s _ _ S h fun w1 v1 d1 L1 R1 V1 h1 => by
    obtain ⟨⟨z, rfl⟩, h2⟩ := h1
    cases V1
    exact ⟨⟨z, rfl⟩, hb w1 σ s _ _ (S.to L1 R1) h2 fun w2 v2 d2 L2 R2 V2 h3 => hr w2 _ [v2] _ [d2] Q Q3 R2 (I.up (L1.trans L2) S.ok) (.v _) (.cons V2 .nil) h3 (q.up (L1.trans L2))⟩
theorem s_bm {T : String} {ty : D → Mu → Prop} {r : V → List V → Hp → VK → Prop} {e : D → C3} {ta : TE} {tb : TA} {ea : E3} {eb : A3} (ht : STy K T ty) (hr : SM K I r e) (ha : SE K I ta ea) (hb : SA K I tb eb) : SE K I (tBM K T r ta tb) (eBM ty e ea eb) := fun w σ s Q Q3 S h q =>
  ha w σ s _ _ S h fun w1 v1 d1 L1 R1 V1 h1 => ⟨ht w1 v1 d1 R1 V1 h1.1, hb w1 σ s _ _ (S.to L1 R1) h1.2 fun w2 v2 d2 L2 R2 V2 h3 => hr w2 v1 v2 d1 d2 Q Q3 R2 (I.up (L1.trans L2) S.ok) (L2.rv V1) V2 h3 (q.up (L1.trans L2))⟩
theorem s_bm0 {T : String} {ty : D → Mu → Prop} {r : V → List V → Hp → VK → Prop} {e : D → C3} {ta : TE} {ea : E3} (ht : STy K T ty) (hr : SM K I r e) (ha : SE K I ta ea) : SE K I (tBM0 K T r ta) (eBM0 ty e ea) := fun w σ s Q Q3 S h q =>
  ha w σ s _ _ S h fun w1 v1 d1 L1 R1 V1 h1 => ⟨ht w1 v1 d1 R1 V1 h1.1, hr w1 v1 [] d1 [] Q Q3 R1 (I.up L1 S.ok) V1 .nil h1.2 (q.up L1)⟩
/-! statements -/
theorem x_seq {t u : TS} {e f : S3} (ht : SS K I t e) (hu : SS K I u f) : SS K I (tSeq t u) (xSeq e f) := fun w σ s D D3 S h q =>
  ht w σ s _ _ S h (q.nx' fun w1 σ1 s1 L1 R1 V1 h1 => hu w1 σ1 s1 D D3 ⟨R1, V1, I.up L1 S.ok⟩ h1 (q.up L1))
theorem x_next : SS K I tNext xNext := fun w σ s D D3 S h q => q.nx w σ s (.refl w) S.rep S.rvs h
theorem x_brk : SS K I tBreak xBrk := fun w σ s D D3 S h q => q.bk w σ s (.refl w) S.rep S.rvs h
theorem x_cont : SS K I tCont xCont := fun w σ s D D3 S h q => q.ct w σ s (.refl w) S.rep S.rvs h
theorem x_drop {ta : TE} {ea : E3} (ha : SE K I ta ea) : SS K I (tDrop ta) (xDrop ea) := fun w σ s D D3 S h q =>
  ha w σ s _ _ S h fun w1 v1 d1 L1 R1 V1 h1 => q.nx w1 σ s L1 R1 (S.rvs.up L1) h1
theorem x_ret {ta : TE} {ea : E3} (ha : SE K I ta ea) : SS K I (tRet ta) (xRet ea) := fun w σ s D D3 S h q => ha w σ s _ _ S h q.rt
theorem x_retN : SS K I tRetN xRetN := fun w σ s D D3 S h q => q.rt w _ _ (.refl w) S.rep (.v _) h
theorem x_if {tc : TT} {t u : TS} {ec : T3} {e f : S3} (hc : ST K I tc ec) (ht : SS K I t e) (hu : SS K I u f) : SS K I (tIfS tc t u) (xIf ec e f) := fun w σ s D D3 S h q =>
  hc w σ s _ _ S h fun w1 c L1 R1 h1 => by
    cases c with
    | true => exact iteT (ht w1 σ s _ _ (S.to L1 R1) (by simpa using h1) (q.up L1))
    | false => exact iteF (hu w1 σ s _ _ (S.to L1 R1) (by simpa using h1) (q.up L1))
theorem x_asg {ta : TE} {g : TG} {ea : E3} {f : G3} (ha : SE K I ta ea) (hg : SG K I g f) : SS K I (tAsg ta g) (xAsg ea f) := fun w σ s D D3 S h q =>
  ha w σ s _ _ S h fun w1 v1 d1 L1 R1 V1 h1 => hg w1 σ s v1 d1 _ _ (S.to L1 R1) V1 h1 (q.nx.up L1)
theorem g_name (i : Nat) : SG K I (gName i) (kName i) := fun w σ s v d Q Q3 S r h q => q w _ _ (.refl w) S.rep (S.rvs.set r) h
theorem gs_nil : SGs K I gNil kNil := fun w σ s vs ds Q Q3 S r h q => by
  obtain ⟨rfl, h⟩ := h
  exact ⟨r.unnil, q w σ s (.refl w) S.rep S.rvs h⟩
theorem gs_cons {g : TG} {gr : TGs} {f : G3} {fr : Gs3} (hg : SG K I g f) (hr : SGs K I gr fr) : SGs K I (gCons g gr) (kCons f fr) := fun w σ s vs ds Q Q3 S r h q => by
  cases ds with
  | nil => exact h.elim
  | cons d t =>
    obtain ⟨x, xs, rfl, r1, r2⟩ := r.uncons
    exact ⟨x, xs, rfl, hg w σ s x d _ _ S r1 h fun w1 σ1 s1 L1 R1 V1 h1 => hr w1 σ1 s1 xs t Q Q3 ⟨R1, V1, I.up L1 S.ok⟩ (L1.rl r2) h1 (q.up L1)⟩
theorem seqT_at {w : Wo} {v : V} {d : D} {ds : List D} (r : w.rv K v d) (e : seqT d = some ds) : ∃ a xs, v = .ref a ∧ SqT K w.hp a xs ∧ w.rl K xs ds := by
  cases r with
  | tup hs hl h =>
    cases e
    exact ⟨_, _, rfl, ex_t (vis_le w) hs, ⟨hl, h⟩⟩
  | _ => cases e
theorem seqL_at {w : Wo} {v : V} {d : D} {ds : List D} (R : Rep K w) (r : w.rv K v d) (e : seqL w.mu d = some ds) : ∃ a xs, v = .ref a ∧ SqL K w.hp a xs ∧ w.rl K xs ds := by
  cases r with
  | lst hs hl h =>
    cases e
    exact ⟨_, _, rfl, .inl (.inl (vis_le w _ _ hs)), ⟨hl, h⟩⟩
  | ls hs hl h =>
    cases e
    exact ⟨_, _, rfl, ex_l (vis_le w) hs, ⟨hl, h⟩⟩
  | o k hk =>
    unfold seqL at e
    dsimp only at e
    split at e
    · rename_i xs hx
      cases e
      obtain ⟨vs, a, b⟩ := R.cell k _ hx
      exact ⟨_, vs, rfl, .inl (.inl a), b⟩
    · cases e
  | _ => cases e
theorem g_tup {n : Nat} {g : TGs} {f : Gs3} (hg : SGs K I g f) : SG K I (gTup K n g) (kTup n f) := fun w σ s v d Q Q3 S r h q => by
  unfold kTup at h
  split at h
  · rename_i ds e
    obtain ⟨a, xs, rfl, h1, h2⟩ := seqT_at r e
    exact ⟨a, xs, rfl, h1, by rw [h2.len]; exact h.1, hg w σ s xs ds Q Q3 S h2 h.2 q⟩
  · exact h.elim
theorem g_sub {to ti : TE} {ts : TSet} {eo ei : E3} {r : D → D → D → Mu → (Mu → Prop) → Prop} (ho : SE K I to eo) (hi : SE K I ti ei) (hr : SSet K I ts r) : SG K I (gSub to ti ts) (kSub eo ei r) := fun w σ s v d Q Q3 S V h q =>
  ho w σ s _ _ S h fun w1 v1 d1 L1 R1 V1 h1 => hi w1 σ s _ _ (S.to L1 R1) h1 fun w2 v2 d2 L2 R2 V2 h2 =>
    hr w2 v1 v2 v d1 d2 d _ _ R2 (I.up (L1.trans L2) S.ok) (L2.rv V1) V2 ((L1.trans L2).rv V) h2 fun w3 L3 R3 h3 => q w3 σ s (L1.trans (L2.trans L3)) R3 (S.rvs.up (L1.trans (L2.trans L3))) h3
theorem x_aug {i : Nat} {ta : TE} {ti : TIp} {ea : E3} {e : R3} (ha : SE K I ta ea) (hr : SR K I ti e) : SS K I (tAug i ta ti) (xAug i ea e) := fun w σ s D D3 S h q => by
  unfold xAug at h
  split at h
  · rename_i d hd
    obtain ⟨v, a, b⟩ := S.rvs.at_ i d hd
    exact ⟨v, a, ha w σ s _ _ S h fun w1 v1 d1 L1 R1 V1 h1 => hr w1 v v1 d d1 _ _ R1 (I.up L1 S.ok) (L1.rv b) V1 h1 fun w2 v2 d2 L2 R2 V2 h2 => q.nx w2 _ _ (L1.trans L2) R2 ((S.rvs.up (L1.trans L2)).set V2) h2⟩
  · exact h.elim
/-- an owned list is data from now on -/
theorem frz_at {w : Wo} {k : Nat} {ds : List D} (R : Rep K w) (e : w.mu[k]? = some (.lst ds)) : Rep K (w.kill k) ∧ Lt w (w.kill k) ∧ (w.kill k).rv K (.ref (w.al k)) (.lst ds) := by
  obtain ⟨R1, L1⟩ := R.kill k
  obtain ⟨vs, a, b⟩ := R.cell k _ e
  have hk := lt_of_get e
  have hv := L1.rl b
  refine ⟨R1, L1, .lst (vis_of (w := w.kill k) a fun z => ?_) hv.len hv.at_⟩
  refine z.elim (fun z => ?_) fun z => R.hxa k hk z
  obtain ⟨j, c, e1, e2, e3⟩ := z
  have hj : j < w.mu.length := by have := lt_of_get e1; have h2 : (w.kill k).mu.length = w.mu.length := by show (w.mu.set k .dead).length = _; simp
                                  omega
  have ej := R.inj j k hj hk e3
  subst ej
  have e1 : (w.mu.set j .dead)[j]? = some c := e1
  rw [List.getElem?_set_self hk] at e1
  cases e1; cases e2
theorem frzD_at {w : Wo} {k : Nat} {ds : List (Key × D)} (R : Rep K w) (e : w.mu[k]? = some (.dic ds)) : Rep K (w.kill k) ∧ Lt w (w.kill k) ∧ (w.kill k).rv K (.ref (w.al k)) (.dic ds) := by
  obtain ⟨R1, L1⟩ := R.kill k
  obtain ⟨vs, a, b⟩ := R.cell k _ e
  have hk := lt_of_get e
  have hv := L1.rp b
  refine ⟨R1, L1, .dic (vis_of (w := w.kill k) a fun z => ?_) hv.keys hv.at_⟩
  refine z.elim (fun z => ?_) fun z => R.hxa k hk z
  obtain ⟨j, c, e1, e2, e3⟩ := z
  have hj : j < w.mu.length := by have := lt_of_get e1; have h2 : (w.kill k).mu.length = w.mu.length := by show (w.mu.set k .dead).length = _; simp
                                  omega
  have ej := R.inj j k hj hk e3
  subst ej
  have e1 : (w.mu.set j .dead)[j]? = some c := e1
  rw [List.getElem?_set_self hk] at e1
  cases e1; cases e2
theorem frzI_at {w : Wo} {k : Nat} {C : Addr} {ds : List (Str × D)} (R : Rep K w) (e : w.mu[k]? = some (.ins C ds)) : Rep K (w.kill k) ∧ Lt w (w.kill k) ∧ (w.kill k).rv K (.ref (w.al k)) (.ins C ds) := by
  obtain ⟨R1, L1⟩ := R.kill k
  obtain ⟨dx, vs, a, b⟩ := R.cell k _ e
  have hk := lt_of_get e
  have hv := L1.rp b
  refine ⟨R1, L1, .ins (vis_of (w := w.kill k) a fun z => ?_) hv.keys hv.at_⟩
  refine z.elim (fun z => ?_) fun z => R.hxa k hk z
  obtain ⟨j, c, e1, e2, e3⟩ := z
  have hj : j < w.mu.length := by have := lt_of_get e1; have h2 : (w.kill k).mu.length = w.mu.length := by show (w.mu.set k .dead).length = _; simp
                                  omega
  have ej := R.inj j k hj hk e3
  subst ej
  have e1 : (w.mu.set j .dead)[j]? = some c := e1
  rw [List.getElem?_set_self hk] at e1
  cases e1; cases e2
theorem s_frz {ta : TE} {ea : E3} (ha : SE K I ta ea) : SE K I ta (eFrz ea) := fun w σ s Q Q3 S h q =>
  ha w σ s _ _ S h fun w1 v1 d1 L1 R1 V1 h1 => by
    cases d1 with
    | o k =>
      dsimp only at h1
      cases V1
      split at h1
      · rename_i xs e
        obtain ⟨R2, L2, V2⟩ := frz_at R1 e
        exact q (w1.kill k) _ _ (L1.trans L2) R2 V2 h1
      · rename_i xs e
        obtain ⟨R2, L2, V2⟩ := frzD_at R1 e
        exact q (w1.kill k) _ _ (L1.trans L2) R2 V2 h1
      · rename_i C xs e
        obtain ⟨R2, L2, V2⟩ := frzI_at R1 e
        exact q (w1.kill k) _ _ (L1.trans L2) R2 V2 h1
      · exact h1.elim
    | _ => exact q w1 v1 _ L1 R1 V1 h1
theorem x_frz (i : Nat) {t : TS} {e : S3} (ht : SS K I t e) : SS K I t (xFrz i e) := fun w σ s D D3 S h q => by
  unfold xFrz at h
  split at h
  · rename_i k hk
    split at h
    · rename_i xs hx
      obtain ⟨R1, L1, V1⟩ := frz_at S.rep hx
      obtain ⟨v, a, b⟩ := S.rvs.at_ i _ hk
      cases b
      have e : σ.set i (some (.ref (w.al k))) = σ := by
        apply List.ext_getElem?
        intro j
        by_cases hj : i = j
        · subst hj; rw [List.getElem?_set_self (List.getElem?_eq_some_iff.mp a).1, a]
        · rw [List.getElem?_set_ne hj]
      have V := (S.rvs.up L1).set (i := i) V1
      rw [e] at V
      exact ht (w.kill k) σ _ D D3 ⟨R1, V, I.up L1 S.ok⟩ h (q.up L1)
    · exact h.elim
  · exact h.elim
end
end Wb

set_option Elab.async false
set_option linter.all false
set_option maxRecDepth 100000
/-! operators, built-in functions, methods at the level of data -/
namespace Wb
open PySem PySem.Spec PyProof.Rows L2

def seqA (μ : Mu) (d : D) : Option (List D) := match seqT d with
  | some xs => some xs
  | none => seqL μ d
def lsx (μ : Mu) : D → Option (List D)
  | .lst xs => some xs
  | .o k => match μ[k]? with
    | some (.lst xs) => some xs
    | _ => none
  | _ => none
def vsOf : List D → Option (List V)
  | [] => some []
  | .v x :: r => (vsOf r).map (x :: ·)
  | _ => none
def strOf : V → Option Str
  | .str s => some s
  | _ => none
def strsOf : List D → Option (List Str)
  | [] => some []
  | .v (.str x) :: r => (strsOf r).map (x :: ·)
  | _ => none
def intsOf : List D → Option (List Int)
  | [] => some []
  | .v (.int x) :: r => (intsOf r).map (x :: ·)
  | _ => none
def blsOf : List D → Option (List Bool)
  | [] => some []
  | .v (.bl x) :: r => (blsOf r).map (x :: ·)
  | _ => none
theorem vsOf_eq : ∀ {xs : List D} {vs : List V}, vsOf xs = some vs → xs = vs.map D.v
  | [], vs, h => by cases h; rfl
  | .v x :: r, vs, h => by
    unfold vsOf at h
    cases e : vsOf r with
    | none => rw [e] at h; cases h
    | some t => rw [e] at h; cases h; rw [vsOf_eq e]; rfl
theorem strsOf_eq : ∀ {xs : List D} {vs : List Str}, strsOf xs = some vs → xs = vs.map fun s => D.v (.str s)
  | [], vs, h => by cases h; rfl
  | .v (.str x) :: r, vs, h => by
    unfold strsOf at h
    cases e : strsOf r with
    | none => rw [e] at h; cases h
    | some t => rw [e] at h; cases h; rw [strsOf_eq e]; rfl
theorem intsOf_eq : ∀ {xs : List D} {vs : List Int}, intsOf xs = some vs → xs = vs.map fun s => D.v (.int s)
  | [], vs, h => by cases h; rfl
  | .v (.int x) :: r, vs, h => by
    unfold intsOf at h
    cases e : intsOf r with
    | none => rw [e] at h; cases h
    | some t => rw [e] at h; cases h; rw [intsOf_eq e]; rfl
theorem blsOf_eq : ∀ {xs : List D} {vs : List Bool}, blsOf xs = some vs → xs = vs.map fun s => D.v (.bl s)
  | [], vs, h => by cases h; rfl
  | .v (.bl x) :: r, vs, h => by
    unfold blsOf at h
    cases e : blsOf r with
    | none => rw [e] at h; cases h
    | some t => rw [e] at h; cases h; rw [blsOf_eq e]; rfl
theorem vsOf_map {α : Type} (f : α → V) : ∀ xs : List α, vsOf (xs.map fun a => D.v (f a)) = some (xs.map f)
  | [] => rfl
  | x :: r => by show (vsOf (r.map fun a => D.v (f a))).map (f x :: ·) = _; rw [vsOf_map f r]; rfl
theorem strsOf_map {α : Type} (f : α → Str) : ∀ xs : List α, strsOf (xs.map fun a => D.v (.str (f a))) = some (xs.map f)
  | [] => rfl
  | x :: r => by show (strsOf (r.map fun a => D.v (.str (f a)))).map (f x :: ·) = _; rw [strsOf_map f r]; rfl
theorem intsOf_map {α : Type} (f : α → Int) : ∀ xs : List α, intsOf (xs.map fun a => D.v (.int (f a))) = some (xs.map f)
  | [] => rfl
  | x :: r => by show (intsOf (r.map fun a => D.v (.int (f a)))).map (f x :: ·) = _; rw [intsOf_map f r]; rfl
theorem blsOf_map {α : Type} (f : α → Bool) : ∀ xs : List α, blsOf (xs.map fun a => D.v (.bl (f a))) = some (xs.map f)
  | [] => rfl
  | x :: r => by show (blsOf (r.map fun a => D.v (.bl (f a)))).map (f x :: ·) = _; rw [blsOf_map f r]; rfl
section
variable {K : PySem.W.Frag} {w : Wo} {v : V} {d : D} {ds : List D} {vs : List V}
theorem lsx_at (R : Rep K w) (r : w.rv K v d) (e : lsx w.mu d = some ds) : ∃ a xs, v = .ref a ∧ w.hp a = some (.lst xs) ∧ w.rl K xs ds := by
  cases r with
  | lst hs hl h => cases e; exact ⟨_, _, rfl, vis_le w _ _ hs, ⟨hl, h⟩⟩
  | o k hk =>
    unfold lsx at e
    dsimp only at e
    split at e
    · rename_i xs hx
      cases e
      obtain ⟨vs, a, b⟩ := R.cell k _ hx
      exact ⟨_, vs, rfl, a, b⟩
    · cases e
  | _ => cases e
theorem seqA_at (R : Rep K w) (r : w.rv K v d) (e : seqA w.mu d = some ds) : ∃ a xs, v = .ref a ∧ (SqL K w.hp a xs ∨ SqT K w.hp a xs) ∧ w.rl K xs ds := by
  unfold seqA at e
  split at e
  · rename_i xs h
    cases e
    obtain ⟨a, ys, h1, h2, h3⟩ := seqT_at r h
    exact ⟨a, ys, h1, .inr h2, h3⟩
  · obtain ⟨a, ys, h1, h2, h3⟩ := seqL_at R r e
    exact ⟨a, ys, h1, .inl h2, h3⟩
theorem rl_strs {zs : List Str} (r : w.rl K vs ds) (e : strsOf ds = some zs) : vs = zs.map V.str := by
  have := strsOf_eq e
  subst this
  have : (zs.map fun s => D.v (.str s)) = (zs.map V.str).map D.v := by rw [List.map_map]; rfl
  rw [this] at r
  exact r.vals_inv
theorem rl_ints {zs : List Int} (r : w.rl K vs ds) (e : intsOf ds = some zs) : vs = zs.map V.int := by
  have := intsOf_eq e
  subst this
  have : (zs.map fun s => D.v (.int s)) = (zs.map V.int).map D.v := by rw [List.map_map]; rfl
  rw [this] at r
  exact r.vals_inv
theorem rl_bls {zs : List Bool} (r : w.rl K vs ds) (e : blsOf ds = some zs) : vs = zs.map V.bl := by
  have := blsOf_eq e
  subst this
  have : (zs.map fun s => D.v (.bl s)) = (zs.map V.bl).map D.v := by rw [List.map_map]; rfl
  rw [this] at r
  exact r.vals_inv
theorem rl_vs {zs : List V} (r : w.rl K vs ds) (e : vsOf ds = some zs) : vs = zs := by
  have := vsOf_eq e
  subst this
  exact r.vals_inv
end
def wSome {α : Type} (o : Option α) (k : α → Prop) : Prop := match o with
  | some x => k x
  | none => False
theorem wSome_at {α : Type} {o : Option α} {k : α → Prop} (h : wSome o k) : ∃ x, o = some x ∧ k x := by
  unfold wSome at h
  split at h
  · exact ⟨_, rfl, h⟩
  · exact h.elim
/-! the operators -/
def wSeq (o : Option (List D)) (k : List D → Prop) : Prop := match o with
  | some xs => k xs
  | none => False
def oAdd : R3 := fun x y μ Q => match x, y with
  | .v (.int i), .v (.int j) => Q (.v (.int (i + j))) μ
  | .v (.str a), .v (.str b) => a.length + b.length ≤ sizeLine ∧ Q (.v (.str (a ++ b))) μ
  | x, y => wSeq (lsx μ x) fun xs => wSeq (lsx μ y) fun ys => xs.length + ys.length ≤ sizeLine ∧ Q (.lst (xs ++ ys)) μ
def oI2 (g : Int → Int → V) : R3 := fun x y μ Q => match x, y with
  | .v (.int i), .v (.int j) => Q (.v (g i j)) μ
  | _, _ => False
def oIC (C : Int → Int → Prop) (g : Int → Int → V) : R3 := fun x y μ Q => match x, y with
  | .v (.int i), .v (.int j) => C i j ∧ Q (.v (g i j)) μ
  | _, _ => False
def oMul : R3 := fun x y μ Q => match x, y with
  | .v (.int i), .v (.int j) => CMul i j ∧ Q (.v (.int (i * j))) μ
  | .v (.str a), .v (.int n) => (a.length ≤ 2000 ∧ n ≤ 2000 ∧ -(2 ^ 63) ≤ n) ∧ Q (.v (.str (Txt.mul a n))) μ
  | x, .v (.int k) => wSeq (lsx μ x) fun xs => (-(2 ^ 63) ≤ k ∧ k < 2 ^ 63 ∧ xs.length * k.toNat ≤ sizeLine) ∧ Q (.lst (List.replicate k.toNat xs).flatten) μ
  | _, _ => False
def oNeg : D → Mu → K3 → Prop := fun x μ Q => match x with
  | .v (.int i) => Q (.v (.int (-i))) μ
  | _ => False
/-- alike in kind, or none -/
def scK : V → V → Bool
  | .int _, .int _ => true
  | .str _, .str _ => true
  | .bl _, .bl _ => true
  | .non, .non => true
  | .non, .str _ => true
  | .str _, .non => true
  | .non, .int _ => true
  | .int _, .non => true
  | .int _, .str _ => true
  | .str _, .int _ => true
  | _, _ => false
mutual
def pd : D → Option PyData
  | .v .non => some .none
  | .v (.bl b) => some (.bool b)
  | .v (.int i) => some (.int i)
  | .v (.str s) => some (.str s)
  | .lst xs => (pdL xs).map .list
  | .ls xs => (pdL xs).map .list
  | .tup xs => (pdL xs).map .tuple
  | _ => none
def pdL : List D → Option (List PyData)
  | [] => some []
  | x :: r => match pd x, pdL r with
    | some a, some b => some (a :: b)
    | _, _ => none
end
def pdM (μ : Mu) : D → Option PyData
  | .o k => match μ[k]? with
    | some (.lst xs) => (pdL xs).map .list
    | _ => none
  | d => pd d
section
variable {K : PySem.W.Frag} {al : Nat → Addr} {n : Nat} {H : Hp}
mutual
theorem dp_pd : ∀ (d : D) (v : V) (p : PyData), Rv K al n H v d → pd d = some p → Dp K H v p
  | .v x, v, p, r, e => by
    cases r
    cases x with
    | non => cases e; exact .non
    | bl b => cases e; exact .bl b
    | int i => cases e; exact .int i
    | str s => cases e; exact .str s
    | _ => cases e
  | .o k, v, p, r, e => by cases e
  | .lst xs, v, p, r, e => by
    cases r with
    | lst hs hl h =>
      rw [pd] at e
      cases q : pdL xs with
      | none => rw [q] at e; cases e
      | some ps => rw [q] at e; cases e; exact .lst (.inl (.inl hs)) (dp_pdL xs _ ps hl h q)
  | .ls xs, v, p, r, e => by
    cases r with
    | ls hs hl h =>
      rw [pd] at e
      cases q : pdL xs with
      | none => rw [q] at e; cases e
      | some ps => rw [q] at e; cases e; exact .lst hs (dp_pdL xs _ ps hl h q)
  | .tup xs, v, p, r, e => by
    cases r with
    | tup hs hl h =>
      rw [pd] at e
      cases q : pdL xs with
      | none => rw [q] at e; cases e
      | some ps => rw [q] at e; cases e; exact .tup hs (dp_pdL xs _ ps hl h q)
  | .dic xs, v, p, r, e => by cases e
  | .ins C xs, v, p, r, e => by cases e
  | .fnc C xs, v, p, r, e => by cases e
theorem dp_pdL : ∀ (xs : List D) (vs : List V) (ps : List PyData), vs.length = xs.length → (∀ (i : Nat) (v : V) (d : D), vs[i]? = some v → xs[i]? = some d → Rv K al n H v d) → pdL xs = some ps → DpAll K H vs ps
  | [], vs, ps, hl, h, e => by
    cases e
    cases vs with
    | nil => exact .nil
    | cons => simp at hl
  | x :: r, vs, ps, hl, h, e => by
    cases vs with
    | nil => simp at hl
    | cons v vs =>
      rw [pdL] at e
      cases q1 : pd x with
      | none => rw [q1] at e; cases e
      | some a =>
        cases q2 : pdL r with
        | none => rw [q1, q2] at e; cases e
        | some b =>
          rw [q1, q2] at e; cases e
          exact .cons (dp_pd x v a (h 0 v x rfl rfl) q1) (dp_pdL r vs b (by simpa using hl) (fun i v d p q => h (i + 1) v d (by simpa using p) (by simpa using q)) q2)
end
end
theorem dp_pdM {K : PySem.W.Frag} {w : Wo} {v : V} {d : D} {p : PyData} (R : Rep K w) (r : w.rv K v d) (e : pdM w.mu d = some p) : Dp K w.hp v p := by
  cases r with
  | o k hk =>
    unfold pdM at e
    dsimp only at e
    split at e
    · rename_i xs hx
      obtain ⟨vs, a, b⟩ := R.cell k _ hx
      cases q : pdL xs with
      | none => rw [q] at e; cases e
      | some ps => rw [q] at e; cases e; exact .lst (.inl (.inl a)) (dp_exA (vis_le w) (dp_pdL xs vs ps b.len b.at_ q))
    · cases e
  | v x => exact dp_ex (vis_le w) (dp_pd (al := w.al) (n := 0) _ _ _ (.v v) e)
  | lst hs hl h => exact dp_ex (vis_le w) (dp_pd _ _ _ (.lst hs hl h) e)
  | ls hs hl h => exact dp_ex (vis_le w) (dp_pd _ _ _ (.ls hs hl h) e)
  | tup hs hl h => exact dp_ex (vis_le w) (dp_pd _ _ _ (.tup hs hl h) e)
  | dic hs hl h => cases e
  | ins hs hl h => cases e
  | fnc a b c d f => cases e
def oEq (neg : Bool) : R3 := fun x y μ Q => match x, y with
  | .v a, .v b => scK a b = true ∧ Q (.v (.bl (neg ^^ decide (a = b)))) μ
  | x, y => wSome (pdM μ x) fun p => wSome (pdM μ y) fun q => SeqAt.shaped p = true ∧ SeqAt.shaped q = true ∧ Q (.v (.bl (neg ^^ PyData.eqv p q))) μ
def subS (a b : Str) : Bool := !(Builtin.Str.occurrences b a 0 b.length 1).isEmpty
def oIn (neg : Bool) : R3 := fun x y μ Q => match x, y with
  | .v (.str a), .v (.str b) => Q (.v (.bl (neg ^^ subS a b))) μ
  | .v a, y => wSeq (seqA μ y) fun ys => wSome (vsOf ys) fun vs => flatV a = true ∧ vs.all flatV = true ∧ Q (.v (.bl (neg ^^ inV a vs))) μ
  | _, _ => False
def isNonD : D → Bool
  | .v .non => true
  | _ => false
def oIs (neg : Bool) : R3 := fun x y μ Q => match y with
  | .v .non => Q (.v (.bl (neg ^^ isNonD x))) μ
  | _ => False
def oIx : R3 := fun x y μ Q => match x, y with
  | .v (.str z), .v (.int i) => z.length ≤ sizeLine ∧ wSome (atI z.cps.toList i) fun c => Q (.v (.str ⟨#[c]⟩)) μ
  | x, .v (.int i) => wSeq (seqA μ x) fun xs => wSome (atI xs i) fun d => Q d μ
  | _, _ => False
def cutD (xs : List D) (lo hi : Option Int) : List D := (xs.drop (HT.sIx xs.length 0 lo)).take (HT.sIx xs.length xs.length hi - HT.sIx xs.length 0 lo)
def oSl : D → Option Int → Option Int → Mu → K3 → Prop := fun x lo hi μ Q => match x with
  | .v (.str z) => z.length ≤ sizeLine ∧ Q (.v (.str (cutS z lo hi))) μ
  | x => wSeq (seqL μ x) fun xs => Q (.lst (cutD xs lo hi)) μ
section
variable {K : PySem.W.Frag} {I : Pre}
theorem ix_rl {w : Wo} {vs : List V} {ds : List D} {i : Int} {d : D} (r : w.rl K vs ds) (e : atI ds i = some d) : ∃ v, atI vs i = some v ∧ w.rv K v d := by
  unfold atI at e ⊢
  rw [r.len]
  cases q : ixN ds.length i with
  | none => rw [q] at e; cases e
  | some j => rw [q] at e; exact r.get e
theorem wSeq_at {o : Option (List D)} {k : List D → Prop} (h : wSeq o k) : ∃ xs, o = some xs ∧ k xs := by
  unfold wSeq at h
  split at h
  · exact ⟨_, rfl, h⟩
  · exact h.elim
theorem r_add : SR K I rAddP oAdd := fun w x y dx dy Q Q3 R _ rx ry h q => by
  unfold oAdd at h
  split at h
  · cases rx; cases ry; exact q w _ _ (.refl w) R (.v _) h
  · cases rx; cases ry; exact ⟨h.1, q w _ _ (.refl w) R (.v _) h.2⟩
  · obtain ⟨xs, e1, h⟩ := wSeq_at h
    obtain ⟨ys, e2, h⟩ := wSeq_at h
    obtain ⟨a, vs, rfl, h1, h2⟩ := lsx_at R rx e1
    obtain ⟨b, us, rfl, h3, h4⟩ := lsx_at R ry e2
    refine ⟨a, b, vs, us, rfl, rfl, h1, h3, by rw [h2.len, h4.len]; exact h.1, fun p hp => ?_⟩
    obtain ⟨R1, L1, V1⟩ := sqL_new R hp (h2.append h4)
    exact q _ _ _ L1 R1 V1 h.2
theorem r_i2 {g : Int → Int → V} : SR K I (rI2 g) (oI2 g) := fun w x y dx dy Q Q3 R _ rx ry h q => by
  unfold oI2 at h
  split at h
  · cases rx; cases ry; exact q w _ _ (.refl w) R (.v _) h
  · exact h.elim
theorem r_ic {C : Int → Int → Prop} {g : Int → Int → V} : SR K I (rIC C g) (oIC C g) := fun w x y dx dy Q Q3 R _ rx ry h q => by
  unfold oIC at h
  split at h
  · cases rx; cases ry; exact ⟨h.1, q w _ _ (.refl w) R (.v _) h.2⟩
  · exact h.elim
theorem r_mul : SR K I rMulP oMul := fun w x y dx dy Q Q3 R _ rx ry h q => by
  unfold oMul at h
  split at h
  · cases rx; cases ry; exact ⟨h.1, q w _ _ (.refl w) R (.v _) h.2⟩
  · cases rx; cases ry; exact ⟨h.1, q w _ _ (.refl w) R (.v _) h.2⟩
  · obtain ⟨xs, e1, h⟩ := wSeq_at h
    obtain ⟨a, vs, rfl, h1, h2⟩ := lsx_at R rx e1
    cases ry
    obtain ⟨⟨c1, c2, c3⟩, h⟩ := h
    refine ⟨a, _, vs, rfl, rfl, h1, c1, c2, by rw [h2.len]; exact c3, fun p hp => ?_⟩
    have hr : ∀ m : Nat, w.rl K (List.replicate m vs).flatten (List.replicate m xs).flatten := fun m => by
      induction m with
      | zero => exact .nil
      | succ m ih => rw [List.replicate_succ, List.replicate_succ, List.flatten_cons, List.flatten_cons]; exact h2.append ih
    obtain ⟨R1, L1, V1⟩ := sqL_new R hp (hr _)
    exact q _ _ _ L1 R1 V1 h
  · exact h.elim
theorem r_neg : SU K I (rU fun i => .int (-i)) oNeg := fun w x dx Q Q3 R _ rx h q => by
  unfold oNeg at h
  split at h
  · cases rx; exact ⟨_, rfl, q w _ _ (.refl w) R (.v _) h⟩
  · exact h.elim
theorem r_eq : SR K I (rEqP K) (oEq false) := fun w x y dx dy Q Q3 R _ rx ry h q => by
  unfold oEq at h
  split at h
  · rename_i a b
    cases rx; cases ry
    have z := q w _ _ (.refl w) R (.v _) h.2
    cases x <;> cases y <;> first
      | exact absurd h.1 Bool.false_ne_true
      | (simp only [Bool.false_xor, V.int.injEq, V.str.injEq, V.bl.injEq, reduceCtorEq, decide_false, decide_true] at z; exact z)
  · obtain ⟨p, e1, h⟩ := wSome_at h
    obtain ⟨r, e2, s1, s2, h⟩ := wSome_at h
    have h1 := dp_pdM R rx e1
    have h2 := dp_pdM R ry e2
    have z := q w _ _ (.refl w) R (.v _) h
    rw [Bool.false_xor] at z
    have hD : rEqD K x y w.hp Q := ⟨p, r, h1, h2, s1, s2, z⟩
    unfold rEqP
    split <;> first
      | exact hD
      | skip
    all_goals (cases h1; cases h2; simp only [PyData.eqv] at z; first | exact z | (simpa using z))
theorem r_ne : SR K I (rNeP K) (oEq true) := fun w x y dx dy Q Q3 R _ rx ry h q => by
  unfold oEq at h
  split at h
  · rename_i a b
    cases rx; cases ry
    have z := q w _ _ (.refl w) R (.v _) h.2
    cases x <;> cases y <;> first
      | exact absurd h.1 Bool.false_ne_true
      | (simp only [Bool.true_xor, V.int.injEq, V.str.injEq, V.bl.injEq, reduceCtorEq, decide_false, decide_true, Bool.not_true, Bool.not_false] at z; exact z)
  · obtain ⟨p, e1, h⟩ := wSome_at h
    obtain ⟨r, e2, s1, s2, h⟩ := wSome_at h
    have h1 := dp_pdM R rx e1
    have h2 := dp_pdM R ry e2
    have z := q w _ _ (.refl w) R (.v _) h
    rw [Bool.true_xor] at z
    have hD : rNeD K x y w.hp Q := ⟨p, r, h1, h2, s1, s2, z⟩
    unfold rNeP
    split <;> first
      | exact hD
      | skip
    all_goals (cases h1; cases h2; simp only [PyData.eqv] at z; first | exact z | (simpa using z))
theorem r_in (neg : Bool) : SR K I (rInP K neg) (oIn neg) := fun w x y dx dy Q Q3 R _ rx ry h q => by
  unfold oIn at h
  split at h
  · cases rx; cases ry
    have z := q w _ _ (.refl w) R (.v _) h
    cases neg with
    | true => simpa [rInP, subS] using z
    | false => simpa [rInP, subS] using z
  · obtain ⟨ys, e, h⟩ := wSeq_at h
    obtain ⟨vs, e1, f1, f2, h⟩ := wSome_at h
    obtain ⟨a, us, rfl, h1, h2⟩ := seqA_at R ry e
    cases rx
    have e2 := rl_vs h2 e1
    subst e2
    have z := q w _ _ (.refl w) R (.v _) h
    have hI : rIn K neg _ (.ref a) w.hp Q := ⟨a, us, rfl, h1, f1, f2, by cases neg <;> simpa using z⟩
    unfold rInP
    split
    · exact nomatch (by assumption : V.ref a = V.str _)
    · exact hI
  · exact h.elim
theorem isNon_at {w : Wo} {v : V} {d : D} (r : w.rv K v d) : decide (v = .non) = isNonD d := by
  cases r with
  | v x => cases v <;> rfl
  | _ => rfl
theorem r_is : SR K I (fun x y H Q => y = .non ∧ Q (.bl (decide (x = .non))) H) (oIs false) := fun w x y dx dy Q Q3 R _ rx ry h q => by
  unfold oIs at h
  split at h
  · cases ry
    rw [isNon_at rx]
    rw [Bool.false_xor] at h
    exact ⟨rfl, q w _ _ (.refl w) R (.v _) h⟩
  · exact h.elim
theorem r_isnot : SR K I (fun x y H Q => y = .non ∧ Q (.bl (!decide (x = .non))) H) (oIs true) := fun w x y dx dy Q Q3 R _ rx ry h q => by
  unfold oIs at h
  split at h
  · cases ry
    rw [isNon_at rx]
    rw [Bool.true_xor] at h
    exact ⟨rfl, q w _ _ (.refl w) R (.v _) h⟩
  · exact h.elim
theorem r_ix : SR K I (rIxP K) oIx := fun w x y dx dy Q Q3 R _ rx ry h q => by
  unfold oIx at h
  split at h
  · cases rx; cases ry
    obtain ⟨c, h2, h3⟩ := wSome_at h.2
    exact ⟨h.1, c, h2, q w _ _ (.refl w) R (.v _) h3⟩
  · obtain ⟨xs, e, h⟩ := wSeq_at h
    obtain ⟨d, e1, h⟩ := wSome_at h
    obtain ⟨a, us, rfl, h1, h2⟩ := seqA_at R rx e
    obtain ⟨v, h3, h4⟩ := ix_rl h2 e1
    cases ry
    exact ⟨us, v, h1, h3, q w _ _ (.refl w) R h4 h⟩
  · exact h.elim
theorem r_sl : SSl K I (rSlP K) oSl := fun w x dx l hi Q Q3 R _ rx h q => by
  unfold oSl at h
  split at h
  · cases rx; exact ⟨h.1, q w _ _ (.refl w) R (.v _) h.2⟩
  · obtain ⟨xs, e, h⟩ := wSeq_at h
    obtain ⟨a, us, rfl, h1, h2⟩ := seqL_at R rx e
    refine .inl ⟨a, us, rfl, h1, fun p hp => ?_⟩
    have r2 : w.rl K (cutV us l hi) (cutD xs l hi) := by
      unfold cutV cutD
      rw [h2.len]
      exact (h2.drop _).take _
    obtain ⟨R1, L1, V1⟩ := sqL_new R hp r2
    exact q _ _ _ L1 R1 V1 h
end
/-! built-in functions -/
def w1 (ds : List D) (k : D → Prop) : Prop := match ds with | [d] => k d | _ => False
def w2 (ds : List D) (k : D → D → Prop) : Prop := match ds with | [d, e] => k d e | _ => False
theorem w1_at {K : PySem.W.Frag} {w : Wo} {vs : List V} {ds : List D} {k : D → Prop} (r : w.rl K vs ds) (h : w1 ds k) : ∃ v d, vs = [v] ∧ ds = [d] ∧ w.rv K v d ∧ k d := by
  unfold w1 at h
  split at h
  · rename_i d
    obtain ⟨x, t, rfl, h1, h2⟩ := r.uncons
    have := h2.unnil
    subst this
    exact ⟨x, d, rfl, rfl, h1, h⟩
  · exact h.elim
theorem w2_at {K : PySem.W.Frag} {w : Wo} {vs : List V} {ds : List D} {k : D → D → Prop} (r : w.rl K vs ds) (h : w2 ds k) : ∃ v u d e, vs = [v, u] ∧ ds = [d, e] ∧ w.rv K v d ∧ w.rv K u e ∧ k d e := by
  unfold w2 at h
  split at h
  · rename_i d e
    obtain ⟨x, t, rfl, h1, h2⟩ := r.uncons
    obtain ⟨y, t, rfl, h3, h4⟩ := h2.uncons
    have := h4.unnil
    subst this
    exact ⟨x, y, d, e, rfl, rfl, h1, h3, h⟩
  · exact h.elim
def cLen : C3 := fun ds μ Q => w1 ds fun d => match d with
  | .v (.str a) => a.length ≤ sizeLine ∧ Q (.v (.int (a.length : Nat))) μ
  | d => wSeq (seqA μ d) fun xs => Q (.v (.int (xs.length : Nat))) μ
def cI2 (g : Int → Int → V) : C3 := fun ds μ Q => w2 ds fun x y => match x, y with
  | .v (.int i), .v (.int j) => Q (.v (g i j)) μ
  | _, _ => False
def cDivmod : C3 := fun ds μ Q => w2 ds fun x y => match x, y with
  | .v (.int i), .v (.int j) => CDiv i j ∧ Q (.tup [.v (.int (i / j)), .v (.int (i % j))]) μ
  | _, _ => False
def cAbs : C3 := fun ds μ Q => w1 ds fun x => match x with
  | .v (.int i) => ∀ j : Int, 0 ≤ j → Q (.v (.int j)) μ
  | _ => False
def cAny : C3 := fun ds μ Q => w1 ds fun x => wSeq (seqL μ x) fun xs => wSome (blsOf xs) fun bs => Q (.v (.bl (bs.any id))) μ
def cAll : C3 := fun ds μ Q => w1 ds fun x => wSeq (seqL μ x) fun xs => wSome (blsOf xs) fun bs => Q (.v (.bl (bs.all id))) μ
def cSum : C3 := fun ds μ Q => w1 ds fun x => wSeq (seqL μ x) fun xs => wSome (intsOf xs) fun bs => Q (.v (.int bs.sum)) μ
def cSorted : C3 := fun ds μ Q => w1 ds fun x => wSeq (seqL μ x) fun xs => wSome (strsOf xs) fun zs => zs.length < 64 ∧ Q (.lst ((sortS zs).map fun s => .v (.str s))) μ
def cInt : C3 := fun ds μ Q => w1 ds fun x => match x with
  | .v (.int i) => Q (.v (.int i)) μ
  | .v (.bl b) => Q (.v (.int (if b then 1 else 0))) μ
  | .v (.str a) => ∃ n, PySem.intText? a = some n ∧ a.length ≤ 640 ∧ Q (.v (.int n)) μ
  | _ => False
def cStr : C3 := fun ds μ Q => w1 ds fun x => match x with
  | .v (.int i) => i.natAbs.log2 < 1920 ∧ Q (.v (.str (toString i))) μ
  | .v (.str a) => Q (.v (.str a)) μ
  | _ => False
def cList : C3 := fun ds μ Q => w1 ds fun x => wSeq (seqA μ x) fun xs => Q (.lst xs) μ
def cListO : C3 := fun ds μ Q => w1 ds fun x => wSeq (seqA μ x) fun xs => Q (.o μ.length) (μ ++ [.lst xs])
def cTuple : C3 := fun ds μ Q => w1 ds fun x => wSeq (seqL μ x) fun xs => Q (.tup xs) μ
def tyD (μ : Mu) : D → Option String
  | .v (.str _) => some "str"
  | .v (.int _) => some "int"
  | .v (.bl _) => some "bool"
  | .v .non => some "NoneType"
  | .lst _ => some "list"
  | .tup _ => some "tuple"
  | .dic _ => some "dict"
  | .o k => match μ[k]? with
    | some (.lst _) => some "list"
    | _ => none
  | _ => none
def cIsi : C3 := fun ds μ Q => w2 ds fun x y => match y with
  | .v (.ty n) => wSome (tyD μ x) fun T => wSome (kitB T n) fun b => Q (.v (.bl b)) μ
  | _ => False
section
variable {K : PySem.W.Frag} {I : Pre}
theorem c_len : SC K I (rLenP K) cLen := fun w vs ds Q Q3 R _ r h q => by
  obtain ⟨v, d, rfl, rfl, rv, h⟩ := w1_at r h
  split at h
  · cases rv; exact ⟨_, ⟨h.1, rfl⟩, q w _ _ (.refl w) R (.v _) h.2⟩
  · obtain ⟨xs, e, h⟩ := wSeq_at h
    obtain ⟨a, us, rfl, h1, h2⟩ := seqA_at R rv e
    have z := q w _ _ (.refl w) R (.v _) h
    rw [← h2.len] at z
    rcases h1 with h1 | h1
    · exact ⟨_, .inl ⟨us, h1, rfl⟩, z⟩
    · exact ⟨_, .inr ⟨us, h1, rfl⟩, z⟩
theorem c_max2 : SC K I rMax2P (cI2 fun i j => .int (max i j)) := fun w vs ds Q Q3 R _ r h q => by
  obtain ⟨v, u, d, e, rfl, rfl, r1, r2, h⟩ := w2_at r h
  split at h
  · cases r1; cases r2; exact q w _ _ (.refl w) R (.v _) h
  · exact h.elim
theorem c_min2 : SC K I rMin2P (cI2 fun i j => .int (min i j)) := fun w vs ds Q Q3 R _ r h q => by
  obtain ⟨v, u, d, e, rfl, rfl, r1, r2, h⟩ := w2_at r h
  split at h
  · cases r1; cases r2; exact q w _ _ (.refl w) R (.v _) h
  · exact h.elim
theorem c_divmod : SC K I rDivmodP cDivmod := fun w vs ds Q Q3 R _ r h q => by
  obtain ⟨v, u, d, e, rfl, rfl, r1, r2, h⟩ := w2_at r h
  split at h
  · cases r1; cases r2
    refine ⟨h.1, fun p hp => ?_⟩
    obtain ⟨R1, L1, V1⟩ := sqT_new R hp (RvL.cons (.v _) (RvL.cons (.v _) .nil))
    exact q _ _ _ L1 R1 V1 h.2
  · exact h.elim
theorem c_abs : SC K I rAbsP cAbs := fun w vs ds Q Q3 R _ r h q => by
  obtain ⟨v, d, rfl, rfl, rv, h⟩ := w1_at r h
  split at h
  · cases rv; exact fun j hj => q w _ _ (.refl w) R (.v _) (h j hj)
  · exact h.elim
theorem c_any : SC K I (rAnyP K) cAny := fun w vs ds Q Q3 R _ r h q => by
  obtain ⟨v, d, rfl, rfl, rv, h⟩ := w1_at r h
  obtain ⟨xs, e, h⟩ := wSeq_at h
  obtain ⟨bs, e1, h⟩ := wSome_at h
  obtain ⟨a, us, rfl, h1, h2⟩ := seqL_at R rv e
  have e2 := rl_bls h2 e1
  subst e2
  exact ⟨bs, h1, q w _ _ (.refl w) R (.v _) h⟩
theorem c_all : SC K I (rAllP K) cAll := fun w vs ds Q Q3 R _ r h q => by
  obtain ⟨v, d, rfl, rfl, rv, h⟩ := w1_at r h
  obtain ⟨xs, e, h⟩ := wSeq_at h
  obtain ⟨bs, e1, h⟩ := wSome_at h
  obtain ⟨a, us, rfl, h1, h2⟩ := seqL_at R rv e
  have e2 := rl_bls h2 e1
  subst e2
  exact ⟨bs, h1, q w _ _ (.refl w) R (.v _) h⟩
theorem c_sum : SC K I (rSum K) cSum := fun w vs ds Q Q3 R _ r h q => by
  obtain ⟨v, d, rfl, rfl, rv, h⟩ := w1_at r h
  obtain ⟨xs, e, h⟩ := wSeq_at h
  obtain ⟨bs, e1, h⟩ := wSome_at h
  obtain ⟨a, us, rfl, h1, h2⟩ := seqL_at R rv e
  have e2 := rl_ints h2 e1
  subst e2
  exact ⟨a, bs, rfl, h1, q w _ _ (.refl w) R (.v _) h⟩
theorem c_sorted : SC K I (rSortedP K) cSorted := fun w vs ds Q Q3 R _ r h q => by
  obtain ⟨v, d, rfl, rfl, rv, h⟩ := w1_at r h
  obtain ⟨xs, e, h⟩ := wSeq_at h
  obtain ⟨zs, e1, hl, h⟩ := wSome_at h
  obtain ⟨a, us, rfl, h1, h2⟩ := seqL_at R rv e
  have e2 := rl_strs h2 e1
  subst e2
  refine ⟨zs, h1, hl, fun ys p hp hs np => ?_⟩
  have e3 : ys = sortS zs := sort_is hp hs
  subst e3
  obtain ⟨R1, L1, V1⟩ := sqL_new R np (RvL.strs (sortS zs))
  exact q _ _ _ L1 R1 V1 h
theorem c_int : SC K I rInt3P cInt := fun w vs ds Q Q3 R _ r h q => by
  obtain ⟨v, d, rfl, rfl, rv, h⟩ := w1_at r h
  split at h
  · cases rv; exact q w _ _ (.refl w) R (.v _) h
  · cases rv; exact q w _ _ (.refl w) R (.v _) h
  · cases rv
    obtain ⟨n, h1, h2, h3⟩ := h
    exact ⟨n, h1, h2, q w _ _ (.refl w) R (.v _) h3⟩
  · exact h.elim
theorem c_str : SC K I rStr1P cStr := fun w vs ds Q Q3 R _ r h q => by
  obtain ⟨v, d, rfl, rfl, rv, h⟩ := w1_at r h
  split at h
  · cases rv; exact ⟨h.1, q w _ _ (.refl w) R (.v _) h.2⟩
  · cases rv; exact q w _ _ (.refl w) R (.v _) h
  · exact h.elim
theorem c_list : SC K I (rListP K) cList := fun w vs ds Q Q3 R _ r h q => by
  obtain ⟨v, d, rfl, rfl, rv, h⟩ := w1_at r h
  obtain ⟨xs, e, h⟩ := wSeq_at h
  obtain ⟨a, us, rfl, h1, h2⟩ := seqA_at R rv e
  refine ⟨us, h1, fun p hp => ?_⟩
  obtain ⟨R1, L1, V1⟩ := sqL_new R hp h2
  exact q _ _ _ L1 R1 V1 h
theorem c_listO : SC K I (rListP K) cListO := fun w vs ds Q Q3 R _ r h q => by
  obtain ⟨v, d, rfl, rfl, rv, h⟩ := w1_at r h
  obtain ⟨xs, e, h⟩ := wSeq_at h
  obtain ⟨a, us, rfl, h1, h2⟩ := seqA_at R rv e
  refine ⟨us, h1, fun p hp => ?_⟩
  obtain ⟨R1, L1, V1⟩ := own_new R hp h2
  exact q _ _ _ L1 R1 V1 h
theorem c_tuple : SC K I (rTup1P K) cTuple := fun w vs ds Q Q3 R _ r h q => by
  obtain ⟨v, d, rfl, rfl, rv, h⟩ := w1_at r h
  obtain ⟨xs, e, h⟩ := wSeq_at h
  obtain ⟨a, us, rfl, h1, h2⟩ := seqL_at R rv e
  refine ⟨us, h1, fun p hp => ?_⟩
  obtain ⟨R1, L1, V1⟩ := sqT_new R hp h2
  exact q _ _ _ L1 R1 V1 h
theorem tyD_at {w : Wo} {v : V} {d : D} {T : String} (R : Rep K w) (r : w.rv K v d) (e : tyD w.mu d = some T) : (∃ s, v = .str s ∧ T = "str") ∨ (∃ s, v = .int s ∧ T = "int") ∨ (∃ s, v = .bl s ∧ T = "bool") ∨ (v = .non ∧ T = "NoneType") ∨ ∃ a, v = .ref a ∧ TyX K w.hp (.ref a) (.type T) := by
  cases r with
  | v x =>
    cases v with
    | str s => cases e; exact .inl ⟨s, rfl, rfl⟩
    | int s => cases e; exact .inr (.inl ⟨s, rfl, rfl⟩)
    | bl s => cases e; exact .inr (.inr (.inl ⟨s, rfl, rfl⟩))
    | non => cases e; exact .inr (.inr (.inr (.inl ⟨rfl, rfl⟩)))
    | _ => cases e
  | lst hs hl h => cases e; exact .inr (.inr (.inr (.inr ⟨_, rfl, .base (.lst (vis_le w _ _ hs))⟩)))
  | tup hs hl h =>
    cases e
    rcases ex_t (vis_le w) hs with (hs | ⟨o, hs⟩) | ⟨o, its, n, h1, h2, h3⟩
    · exact .inr (.inr (.inr (.inr ⟨_, rfl, .base (.tup hs)⟩)))
    · exact .inr (.inr (.inr (.inr ⟨_, rfl, .fTuple hs⟩)))
    · exact .inr (.inr (.inr (.inr ⟨_, rfl, .kTuple h1 h2⟩)))
  | dic hs hl h => cases e; exact .inr (.inr (.inr (.inr ⟨_, rfl, .base (.dK (vis_le w _ _ hs))⟩)))
  | o k hk =>
    unfold tyD at e
    dsimp only at e
    split at e
    · rename_i xs hx
      cases e
      obtain ⟨vs, a, b⟩ := R.cell k _ hx
      exact .inr (.inr (.inr (.inr ⟨_, rfl, .base (.lst a)⟩)))
    · cases e
  | _ => cases e
theorem c_isi : SC K I (rIsiP K) cIsi := fun w vs ds Q Q3 R _ r h q => by
  obtain ⟨v, u, d, e, rfl, rfl, r1, r2, h⟩ := w2_at r h
  split at h
  · obtain ⟨T, e1, h⟩ := wSome_at h
    obtain ⟨b, e2, h⟩ := wSome_at h
    cases r2
    have z := q w _ _ (.refl w) R (.v _) h
    rcases tyD_at R r1 e1 with ⟨s, rfl, rfl⟩ | ⟨s, rfl, rfl⟩ | ⟨s, rfl, rfl⟩ | ⟨rfl, rfl⟩ | ⟨a, rfl, t⟩
    · exact ⟨b, e2, z⟩
    · exact ⟨b, e2, z⟩
    · exact ⟨b, e2, z⟩
    · exact ⟨b, e2, z⟩
    · exact ⟨T, b, t, e2, z⟩
  · exact h.elim
end

/-! methods -/
def tyL (d : D) (μ : Mu) : Prop := (lsx μ d).isSome = true
def mAppend : D → C3 := fun x ds μ Q => match x with
  | .o k => (match μ[k]? with
    | some (.lst xs) => w1 ds fun d => xs.length < sizeLine ∧ Q (.v .non) (μ.set k (.lst (xs ++ [d])))
    | _ => False)
  | _ => False
def mExtend : D → C3 := fun x ds μ Q => match x with
  | .o k => (match μ[k]? with
    | some (.lst xs) => w1 ds fun d => wSeq (lsx μ d) fun ys => xs.length + ys.length ≤ sizeLine ∧ Q (.v .non) (μ.set k (.lst (xs ++ ys)))
    | _ => False)
  | _ => False
def mPopAt : D → C3 := fun x ds μ Q => match x with
  | .o k => (match μ[k]? with
    | some (.lst xs) => w1 ds fun d => wI d fun i => (-(2 ^ 63) ≤ i ∧ i < 2 ^ 63) ∧ ∃ j y, seqIndex? i xs.length = some j ∧ xs[j]? = some y ∧ Q y (μ.set k (.lst (xs.eraseIdx j)))
    | _ => False)
  | _ => False
def mClear : D → C3 := fun x ds μ Q => match x with
  | .o k => (match μ[k]? with
    | some (.lst xs) => ds = [] ∧ Q (.v .non) (μ.set k (.lst []))
    | _ => False)
  | _ => False
def m3S1 (g : Str → Str → V) : D → C3 := fun x ds μ Q => w1 ds fun y => match x, y with
  | .v (.str a), .v (.str b) => Q (.v (g a b)) μ
  | _, _ => False
def m3S0 (C : Str → Prop) (g : Str → V) : D → C3 := fun x ds μ Q => match x, ds with
  | .v (.str a), [] => C a ∧ Q (.v (g a)) μ
  | _, _ => False
def m3Join : D → C3 := fun x ds μ Q => w1 ds fun y => match x with
  | .v (.str a) => wSeq (seqA μ y) fun ys => wSome (strsOf ys) fun zs => (zs.map (·.length)).sum + zs.length * a.length ≤ 16777216 ∧ Q (.v (.str (Txt.join a zs))) μ
  | _ => False
def m3Part : D → C3 := fun x ds μ Q => w1 ds fun y => match x, y with
  | .v (.str a), .v (.str b) => (b.length == 0) = false ∧ a.length ≤ sizeLine ∧ Q (.tup [.v (.str (Txt.partition a b).1), .v (.str (Txt.partition a b).2.1), .v (.str (Txt.partition a b).2.2)]) μ
  | _, _ => False
def m3Rpart : D → C3 := fun x ds μ Q => w1 ds fun y => match x, y with
  | .v (.str a), .v (.str b) => (b.length == 0) = false ∧ a.length ≤ sizeLine ∧ Q (.tup [.v (.str (Txt.rpartition a b).1), .v (.str (Txt.rpartition a b).2.1), .v (.str (Txt.rpartition a b).2.2)]) μ
  | _, _ => False
def m3Split : D → C3 := fun x ds μ Q => w1 ds fun y => match x, y with
  | .v (.str a), .v (.str b) => (b.length == 0) = false ∧ a.length + 2 ≤ sizeLine ∧ Q (.lst ((Txt.split a b).map fun s => .v (.str s))) μ
  | _, _ => False
def m3Index : D → C3 := fun x ds μ Q => w1 ds fun y => match x, y with
  | .v (.str a), .v (.str b) => ∃ k rest, Builtin.Str.occurrences a b 0 a.length 1 = k :: rest ∧ Q (.v (.int (k : Nat))) μ
  | _, _ => False
def kSetL : D → D → D → Mu → (Mu → Prop) → Prop := fun o i d μ Q => match o with
  | .o k => (match μ[k]? with
    | some (.lst xs) => wI i fun i => ∃ j, ixN xs.length i = some j ∧ Q (μ.set k (.lst (xs.set j d)))
    | _ => False)
  | _ => False
section
variable {K : PySem.W.Frag} {I : Pre}
theorem ty_l : STy K "list" tyL := fun w x d R r h => by
  unfold tyL at h
  cases e : lsx w.mu d with
  | none => rw [e] at h; cases h
  | some ds =>
    obtain ⟨a, xs, rfl, h1, h2⟩ := lsx_at R r e
    exact .inl ⟨rfl, xs, .inl (.inl h1)⟩
theorem put_lst {w : Wo} {k : Nat} {c0 : OC} {vs : List V} {ds : List D} (R : Rep K w) (h : w.mu[k]? = some c0) (l0 : c0.live = true) (r : w.rl K vs ds) :
    Rep K (w.put k (.lst ds) (.lst vs)) ∧ Lt w (w.put k (.lst ds) (.lst vs)) := R.put h l0 rfl fun L => ⟨vs, upd_same, L.rl r⟩
theorem cell_lst {w : Wo} {v : V} {k : Nat} {ds : List D} (R : Rep K w) (r : w.rv K v (.o k)) (h : w.mu[k]? = some (.lst ds)) : v = .ref (w.al k) ∧ ∃ vs, w.hp (w.al k) = some (.lst vs) ∧ w.rl K vs ds := by
  cases r
  exact ⟨rfl, R.cell k _ h⟩
theorem m_append : SM K I rAppend mAppend := fun w x vs d ds Q Q3 R _ rx rl h q => by
  unfold mAppend at h
  split at h
  · split at h
    · rename_i k _ xs hx
      obtain ⟨v, e, rfl, rfl, re, hl, h⟩ := w1_at rl h
      obtain ⟨rfl, us, h1, h2⟩ := cell_lst R rx hx
      obtain ⟨R1, L1⟩ := put_lst R hx rfl (h2.append (RvL.cons re .nil))
      exact ⟨_, us, v, rfl, rfl, h1, by rw [h2.len]; exact hl, q _ _ _ L1 R1 (.v _) h⟩
    · exact h.elim
  · exact h.elim
theorem m_extend : SM K I rExtend mExtend := fun w x vs d ds Q Q3 R _ rx rl h q => by
  unfold mExtend at h
  split at h
  · split at h
    · rename_i k _ xs hx
      obtain ⟨v, e, rfl, rfl, re, h⟩ := w1_at rl h
      obtain ⟨ys, ey, hl, h⟩ := wSeq_at h
      obtain ⟨b, us', rfl, h3, h4⟩ := lsx_at R re ey
      obtain ⟨rfl, us, h1, h2⟩ := cell_lst R rx hx
      obtain ⟨R1, L1⟩ := put_lst R hx rfl (h2.append h4)
      exact ⟨_, b, us, us', rfl, rfl, h1, h3, by rw [h2.len, h4.len]; exact hl, q _ _ _ L1 R1 (.v _) h⟩
    · exact h.elim
  · exact h.elim
theorem m_popAt : SM K I rPopAt mPopAt := fun w x vs d ds Q Q3 R _ rx rl h q => by
  unfold mPopAt at h
  split at h
  · split at h
    · rename_i k _ xs hx
      obtain ⟨v, e, rfl, rfl, re, h⟩ := w1_at rl h
      obtain ⟨i, rfl, ⟨c1, c2⟩, j, y, e1, e2, h⟩ := wI_at re h fun b hb => hb
      obtain ⟨rfl, us, h1, h2⟩ := cell_lst R rx hx
      obtain ⟨u, h3, h4⟩ := h2.get e2
      obtain ⟨R1, L1⟩ := put_lst R hx rfl (h2.eraseIdx j)
      exact ⟨_, us, i, j, u, rfl, rfl, h1, c1, c2, by rw [h2.len]; exact e1, h3, q _ _ _ L1 R1 (L1.rv h4) h⟩
    · exact h.elim
  · exact h.elim
theorem m_clear : SM K I rClear mClear := fun w x vs d ds Q Q3 R _ rx rl h q => by
  unfold mClear at h
  split at h
  · split at h
    · rename_i k _ xs hx
      obtain ⟨rfl, h⟩ := h
      have := rl.unnil
      subst this
      obtain ⟨rfl, us, h1, h2⟩ := cell_lst R rx hx
      obtain ⟨R1, L1⟩ := put_lst R hx rfl RvL.nil
      exact ⟨_, us, rfl, rfl, h1, q _ _ _ L1 R1 (.v _) h⟩
    · exact h.elim
  · exact h.elim
theorem m_s1 {g : Str → Str → V} : SM K I (mS1 g) (m3S1 g) := fun w x vs d ds Q Q3 R _ rx rl h q => by
  obtain ⟨v, e, rfl, rfl, re, h⟩ := w1_at rl h
  split at h
  · cases rx; cases re; exact q _ _ _ (.refl w) R (.v _) h
  · exact h.elim
theorem m_s0 {C : Str → Prop} {g : Str → V} : SM K I (mS0 C g) (m3S0 C g) := fun w x vs d ds Q Q3 R _ rx rl h q => by
  unfold m3S0 at h
  split at h
  · have := rl.unnil
    subst this
    cases rx; exact ⟨h.1, q _ _ _ (.refl w) R (.v _) h.2⟩
  · exact h.elim
theorem m_join : SM K I (rJoinP K) m3Join := fun w x vs d ds Q Q3 R _ rx rl h q => by
  obtain ⟨v, e, rfl, rfl, re, h⟩ := w1_at rl h
  split at h
  · obtain ⟨ys, ey, h⟩ := wSeq_at h
    obtain ⟨zs, e1, hl, h⟩ := wSome_at h
    obtain ⟨b, us, rfl, h3, h4⟩ := seqA_at R re ey
    have e2 := rl_strs h4 e1
    subst e2
    cases rx
    exact ⟨zs, h3, hl, q _ _ _ (.refl w) R (.v _) h⟩
  · exact h.elim
theorem m_part : SM K I rPartP m3Part := fun w x vs d ds Q Q3 R _ rx rl h q => by
  obtain ⟨v, e, rfl, rfl, re, h⟩ := w1_at rl h
  split at h
  · cases rx; cases re
    refine ⟨h.1, h.2.1, fun p hp => ?_⟩
    obtain ⟨R1, L1, V1⟩ := sqT_new R hp (RvL.cons (.v _) (RvL.cons (.v _) (RvL.cons (.v _) .nil)))
    exact q _ _ _ L1 R1 V1 h.2.2
  · exact h.elim
theorem m_rpart : SM K I rRpartP m3Rpart := fun w x vs d ds Q Q3 R _ rx rl h q => by
  obtain ⟨v, e, rfl, rfl, re, h⟩ := w1_at rl h
  split at h
  · cases rx; cases re
    refine ⟨h.1, h.2.1, fun p hp => ?_⟩
    obtain ⟨R1, L1, V1⟩ := sqT_new R hp (RvL.cons (.v _) (RvL.cons (.v _) (RvL.cons (.v _) .nil)))
    exact q _ _ _ L1 R1 V1 h.2.2
  · exact h.elim
theorem m_split : SM K I rSplitP m3Split := fun w x vs d ds Q Q3 R _ rx rl h q => by
  obtain ⟨v, e, rfl, rfl, re, h⟩ := w1_at rl h
  split at h
  · cases rx; cases re
    refine ⟨h.1, h.2.1, fun p hp => ?_⟩
    obtain ⟨R1, L1, V1⟩ := sqL_new R hp (RvL.strs _)
    exact q _ _ _ L1 R1 V1 h.2.2
  · exact h.elim
theorem m_index : SM K I rIndexP m3Index := fun w x vs d ds Q Q3 R _ rx rl h q => by
  obtain ⟨v, e, rfl, rfl, re, h⟩ := w1_at rl h
  split at h
  · cases rx; cases re
    obtain ⟨k, rest, e1, h⟩ := h
    exact ⟨k, rest, e1, q _ _ _ (.refl w) R (.v _) h⟩
  · exact h.elim
theorem t_setL : SSet K I rSetL kSetL := fun w x y z dx dy dz Q Q3 R _ rx ry rz h q => by
  unfold kSetL at h
  split at h
  · split at h
    · rename_i k _ xs hx
      obtain ⟨i, rfl, j, e1, h⟩ := wI_at ry h fun b hb => hb
      obtain ⟨rfl, us, h1, h2⟩ := cell_lst R rx hx
      obtain ⟨R1, L1⟩ := put_lst R hx rfl (h2.set rz j)
      exact ⟨_, us, i, j, rfl, rfl, h1, by rw [h2.len]; exact e1, q _ L1 R1 h⟩
    · exact h.elim
  · exact h.elim
def oIAdd : R3 := fun x y μ Q => match x, y with
  | .v (.int i), .v (.int j) => Q (.v (.int (i + j))) μ
  | .v (.str a), .v (.str b) => a.length + b.length ≤ sizeLine ∧ Q (.v (.str (a ++ b))) μ
  | _, _ => False
theorem p_add : SR K I rIAddP oIAdd := fun w x y dx dy Q Q3 R _ rx ry h q => by
  unfold oIAdd at h
  split at h
  · cases rx; cases ry; exact q w _ _ (.refl w) R (.v _) h
  · cases rx; cases ry; exact ⟨h.1, q w _ _ (.refl w) R (.v _) h.2⟩
  · exact h.elim
theorem p_i {f : Int → Int → Int} : SR K I (ipI f) (oI2 fun i j => .int (f i j)) := fun w x y dx dy Q Q3 R _ rx ry h q => by
  unfold oI2 at h
  split at h
  · cases rx; cases ry; exact ⟨_, _, rfl, rfl, q w _ _ (.refl w) R (.v _) h⟩
  · exact h.elim
end
end Wb

set_option Elab.async false
set_option linter.all false
set_option maxRecDepth 100000
/-! loops, comprehensions, calls, defs at the level of data -/
namespace Wb
open PySem PySem.Spec PyProof.Rows L2

/-! what is walked: a view of the owned objects -/
abbrev Vw := Mu → Option (List D)
abbrev I3 := St3 → Mu → (Vw → Mu → Prop) → Prop
structure L0 (w w' : Wo) : Prop where
  le : w.mu.length ≤ w'.mu.length
  al : ∀ k, k < w.mu.length → w'.al k = w.al k
  ex : Ex w.vis w'.vis
theorem Lt.l0 {w w' : Wo} (L : Lt w w') : L0 w w' := ⟨L.le, L.al, L.ex⟩
theorem L0.rv {K : PySem.W.Frag} {w w' : Wo} {v : V} {d : D} (L : L0 w w') (h : w.rv K v d) : w'.rv K v d := h.up L.le L.al L.ex
def ItOk (K : PySem.W.Frag) (J : It) (vw : Vw) (w : Wo) : Prop := ∀ w', L0 w w' → Rep K w' → ∀ all, vw w'.mu = some all → (∀ i, all.length ≤ i → J.stop i w'.hp) ∧
  ∀ i, i < all.length → J.go i w'.hp ∧ ∀ x H', J.yld i w'.hp x H' → ∃ w'' d, w''.hp = H' ∧ w''.mu = w'.mu ∧ Lt w' w'' ∧ Rep K w'' ∧ all[i]? = some d ∧ w''.rv K x d
def SI (K : PySem.W.Frag) (I : Pre) (t : TI) (e : I3) : Prop := ∀ w σ s (R : It → Hp → Prop) (R3 : Vw → Mu → Prop), Sr K I w σ s → e s w.mu R3 → (∀ w' J vw, Lt w w' → Rep K w' → ItOk K J vw w' → R3 vw w'.mu → R J w'.hp) → t σ w.hp R
def iL3 (e : E3) : I3 := fun s μ R => e s μ fun d μ1 => (seqL μ1 d).isSome = true ∧ R (fun μ => seqL μ d) μ1
def iT3 (e : E3) : I3 := fun s μ R => e s μ fun d μ1 => (seqT d).isSome = true ∧ R (fun μ => seqT d) μ1
def chars (x : Str) : List D := (TL.tl x).map fun c => .v (.str ⟨#[c]⟩)
def iS3 (e : E3) : I3 := fun s μ R => e s μ fun d μ1 => match d with | .v (.str x) => R (fun μ => some (chars x)) μ1 | _ => False
def ints3 (lo : Int) (n : Nat) : List D := (List.range n).map fun i => .v (.int (lo + (i : Nat)))
def iR3 (e : A3) : I3 := fun s μ R => e s μ fun ds μ1 => match ds with
  | [.v (.int j)] => (-(2 ^ 62) ≤ j ∧ j < 2 ^ 62) ∧ R (fun _ => some (ints3 0 j.toNat)) μ1
  | _ => False
def iR23 (e : A3) : I3 := fun s μ R => e s μ fun ds μ1 => match ds with
  | [.v (.int i), .v (.int j)] => (-(2 ^ 62) ≤ i ∧ i < 2 ^ 62 ∧ -(2 ^ 62) ≤ j ∧ j < 2 ^ 62) ∧ R (fun _ => some (ints3 i (j - i).toNat)) μ1
  | _ => False
def enum3 (xs : List D) : List D := xs.zipIdx.map fun p => .tup [.v (.int (p.2 : Nat)), p.1]
def iE3 (e : A3) : I3 := fun s μ R => e s μ fun ds μ1 => match ds with
  | [d] => (seqL μ1 d).isSome = true ∧ R (fun μ => (seqL μ d).map enum3) μ1
  | _ => False
def zip3 (xs ys : List D) : List D := (xs.zip ys).map fun p => .tup [p.1, p.2]
def iZ3 (e : A3) : I3 := fun s μ R => e s μ fun ds μ1 => match ds with
  | [d, d'] => (seqL μ1 d).isSome = true ∧ (seqL μ1 d').isSome = true ∧ R (fun μ => match seqL μ d, seqL μ d' with | some xs, some ys => some (zip3 xs ys) | _, _ => none) μ1
  | _ => False
section
variable {K : PySem.W.Frag} {I : Pre}
theorem sq_uniq {w : Wo} {v : V} {d : D} {ds : List D} {a : Addr} (R : Rep K w) (r : w.rv K (.ref a) d) (e : seqL w.mu d = some ds) : ∃ xs, SqL K w.hp a xs ∧ w.rl K xs ds := by
  obtain ⟨b, xs, h1, h2, h3⟩ := seqL_at R r e
  cases h1
  exact ⟨xs, h2, h3⟩
theorem i_list {tl : TE} {e : E3} (h : SE K I tl e) : SI K I (iList K tl) (iL3 e) := fun w σ s R R3 S h1 q =>
  h w σ s _ _ S h1 fun w1 v d L1 R1 V1 h2 => by
    obtain ⟨h2, h3⟩ := h2
    cases e1 : seqL w1.mu d with
    | none => rw [e1] at h2; cases h2
    | some ds =>
      obtain ⟨a, xs, rfl, hs, hr⟩ := seqL_at R1 V1 e1
      refine ⟨a, rfl, ⟨xs, hs⟩, q w1 _ _ L1 R1 (fun w' L R' all ea => ?_) h3⟩
      obtain ⟨ys, h4, h5⟩ := sq_uniq (v := .ref a) R' (L.rv V1) ea
      refine ⟨fun i hi => ⟨ys, h4, by rw [h5.len]; exact hi⟩, fun i hi => ?_⟩
      obtain ⟨x, hx, rx⟩ := h5.get (List.getElem?_eq_getElem hi)
      refine ⟨⟨ys, x, h4, hx⟩, fun y H' hy => ?_⟩
      obtain ⟨rfl, hy⟩ := hy
      have := (hy ys h4).symm.trans hx
      cases this
      exact ⟨w', _, rfl, rfl, .refl _, R', List.getElem?_eq_getElem hi, rx⟩
theorem i_tup {tl : TE} {e : E3} (h : SE K I tl e) : SI K I (iTup K tl) (iT3 e) := fun w σ s R R3 S h1 q =>
  h w σ s _ _ S h1 fun w1 v d L1 R1 V1 h2 => by
    obtain ⟨h2, h3⟩ := h2
    cases e1 : seqT d with
    | none => rw [e1] at h2; cases h2
    | some ds =>
      obtain ⟨a, xs, rfl, hs, hr⟩ := seqT_at V1 e1
      refine ⟨a, rfl, ⟨xs, hs⟩, q w1 _ _ L1 R1 (fun w' L R' all ea => ?_) h3⟩
      obtain ⟨b, ys, h6, h4, h5⟩ := seqT_at (L.rv V1) ea
      cases h6
      refine ⟨fun i hi => ⟨ys, h4, by rw [h5.len]; exact hi⟩, fun i hi => ?_⟩
      obtain ⟨x, hx, rx⟩ := h5.get (List.getElem?_eq_getElem hi)
      refine ⟨⟨ys, x, h4, hx⟩, fun y H' hy => ?_⟩
      obtain ⟨rfl, hy⟩ := hy
      have := (hy ys h4).symm.trans hx
      cases this
      exact ⟨w', _, rfl, rfl, .refl _, R', List.getElem?_eq_getElem hi, rx⟩
theorem i_str {te : TE} {e : E3} (h : SE K I te e) : SI K I (iStr te) (iS3 e) := fun w σ s R R3 S h1 q =>
  h w σ s _ _ S h1 fun w1 v d L1 R1 V1 h2 => by
    split at h2
    · rename_i x
      cases V1
      refine ⟨x, rfl, q w1 _ _ L1 R1 (fun w' L R' all ea => ?_) h2⟩
      cases ea
      have hl : (chars x).length = x.cps.size := by unfold chars; rw [List.length_map]; rfl
      refine ⟨fun i hi => (by rw [hl] at hi; exact hi), fun i hi => ⟨by rw [hl] at hi; exact hi, fun y H' hy => ?_⟩⟩
      obtain ⟨rfl, c, hc, rfl⟩ := hy
      refine ⟨w', _, rfl, rfl, .refl _, R', ?_, .v _⟩
      unfold chars
      rw [List.getElem?_map, show (TL.tl x)[i]? = some c from by rw [← hc]; exact Array.getElem?_toList]
      rfl
    · exact h2.elim
theorem itr_ok {w : Wo} {lo : Int} {n : Nat} : ItOk K (Itr lo n) (fun _ => some (ints3 lo n)) w := fun w' L R' all ea => by
  cases ea
  have hl : (ints3 lo n).length = n := by unfold ints3; rw [List.length_map, List.length_range]
  refine ⟨fun i hi => (by rw [hl] at hi; exact hi), fun i hi => ?_⟩
  rw [hl] at hi
  refine ⟨hi, fun y H' hy => ?_⟩
  obtain ⟨rfl, rfl⟩ := hy
  refine ⟨w', _, rfl, rfl, .refl _, R', ?_, .v _⟩
  unfold ints3
  rw [List.getElem?_map, List.getElem?_range hi]
  rfl
theorem i_r1 {ta : TA} {e : A3} (h : SA K I ta e) : SI K I (iR1 ta) (iR3 e) := fun w σ s R R3 S h1 q =>
  h w σ s _ _ S h1 fun w1 vs ds L1 R1 V1 h2 => by
    split at h2
    · obtain ⟨x, t, rfl, h3, h4⟩ := V1.uncons
      have := h4.unnil
      subst this
      cases h3
      exact ⟨h2.1, q w1 _ _ L1 R1 itr_ok h2.2⟩
    · exact h2.elim
theorem i_r2 {ta : TA} {e : A3} (h : SA K I ta e) : SI K I (iR2 ta) (iR23 e) := fun w σ s R R3 S h1 q =>
  h w σ s _ _ S h1 fun w1 vs ds L1 R1 V1 h2 => by
    split at h2
    · obtain ⟨x, t, rfl, h3, h4⟩ := V1.uncons
      obtain ⟨y, t, rfl, h5, h6⟩ := h4.uncons
      have := h6.unnil
      subst this
      cases h3; cases h5
      exact ⟨h2.1, q w1 _ _ L1 R1 itr_ok h2.2⟩
    · exact h2.elim
theorem i_enum {ta : TA} {e : A3} (h : SA K I ta e) : SI K I (iEnum K ta) (iE3 e) := fun w σ s R R3 S h1 q =>
  h w σ s _ _ S h1 fun w1 vs ds L1 R1 V1 h2 => by
    split at h2
    · rename_i d
      obtain ⟨v, t, rfl, h3, h4⟩ := V1.uncons
      have := h4.unnil
      subst this
      obtain ⟨h2, h5⟩ := h2
      cases e1 : seqL w1.mu d with
      | none => rw [e1] at h2; cases h2
      | some ds =>
        obtain ⟨a, xs, rfl, hs, hr⟩ := seqL_at R1 h3 e1
        refine ⟨a, xs, rfl, hs, q w1 _ _ L1 R1 (fun w' L R' all ea => ?_) h5⟩
        cases ed : seqL w'.mu d with
        | none => rw [ed] at ea; cases ea
        | some ds' =>
          rw [ed] at ea; cases ea
          obtain ⟨ys, h6, h7⟩ := sq_uniq (v := .ref a) R' (L.rv h3) ed
          have hl : (enum3 ds').length = ds'.length := by unfold enum3; simp
          refine ⟨fun i hi => ⟨ys, h6, by rw [h7.len]; rw [hl] at hi; exact hi⟩, fun i hi => ?_⟩
          rw [hl] at hi
          obtain ⟨x, hx, rx⟩ := h7.get (List.getElem?_eq_getElem hi)
          refine ⟨⟨ys, x, h6, hx⟩, fun y H' hy => ?_⟩
          obtain ⟨T, z, rfl, hT, rfl, hz⟩ := hy
          have := (hz ys h6).symm.trans hx
          cases this
          obtain ⟨R2, L2, V2⟩ := sqT_new R' hT (RvL.cons (.v (.int (i : Nat))) (RvL.cons rx .nil))
          refine ⟨{ w' with hp := upd w'.hp T (.tup [.int (i : Nat), x]) }, _, rfl, rfl, L2, R2, ?_, V2⟩
          unfold enum3
          simp [List.getElem?_zipIdx, hi]
    · exact h2.elim
theorem i_zip {ta : TA} {e : A3} (h : SA K I ta e) : SI K I (iZip K ta) (iZ3 e) := fun w σ s R R3 S h1 q =>
  h w σ s _ _ S h1 fun w1 vs ds L1 R1 V1 h2 => by
    split at h2
    · rename_i d d'
      obtain ⟨v, t, rfl, h3, h4⟩ := V1.uncons
      obtain ⟨u, t, rfl, h3', h4⟩ := h4.uncons
      have := h4.unnil
      subst this
      obtain ⟨h2, h2', h5⟩ := h2
      cases e1 : seqL w1.mu d with
      | none => rw [e1] at h2; cases h2
      | some ds =>
      cases e1' : seqL w1.mu d' with
      | none => rw [e1'] at h2'; cases h2'
      | some ds' =>
        obtain ⟨a, xs, rfl, hs, hr⟩ := seqL_at R1 h3 e1
        obtain ⟨b, xs', rfl, hs', hr'⟩ := seqL_at R1 h3' e1'
        refine ⟨a, b, xs, xs', rfl, hs, hs', q w1 _ _ L1 R1 (fun w' L R' all ea => ?_) h5⟩
        cases ed : seqL w'.mu d with
        | none => rw [ed] at ea; cases ea
        | some us =>
        cases ed' : seqL w'.mu d' with
        | none => rw [ed, ed'] at ea; cases ea
        | some us' =>
          rw [ed, ed'] at ea; cases ea
          obtain ⟨ys, h6, h7⟩ := sq_uniq (v := .ref a) R' (L.rv h3) ed
          obtain ⟨ys', h6', h7'⟩ := sq_uniq (v := .ref b) R' (L.rv h3') ed'
          have hl : (zip3 us us').length = min us.length us'.length := by unfold zip3; simp
          refine ⟨fun i hi => ⟨ys, ys', h6, h6', by rw [h7.len, h7'.len]; rw [hl] at hi; omega⟩, fun i hi => ?_⟩
          rw [hl] at hi
          have hi1 : i < us.length := by omega
          have hi2 : i < us'.length := by omega
          obtain ⟨x, hx, rx⟩ := h7.get (List.getElem?_eq_getElem hi1)
          obtain ⟨x', hx', rx'⟩ := h7'.get (List.getElem?_eq_getElem hi2)
          refine ⟨⟨ys, ys', x, x', h6, h6', hx, hx'⟩, fun y H' hy => ?_⟩
          obtain ⟨T, z, z', rfl, hT, rfl, hz, hz'⟩ := hy
          have := (hz ys h6).symm.trans hx
          cases this
          have := (hz' ys' h6').symm.trans hx'
          cases this
          obtain ⟨R2, L2, V2⟩ := sqT_new R' hT (RvL.cons rx (RvL.cons rx' .nil))
          refine ⟨{ w' with hp := upd w'.hp T (.tup [x, x']) }, _, rfl, rfl, L2, R2, ?_, V2⟩
          unfold zip3
          simp [List.getElem?_zip_eq_some, List.getElem?_eq_getElem hi1, List.getElem?_eq_getElem hi2]
    · exact h2.elim
end
/-! for -/
/-- P: the invariant by the turn -/
def ForP (vw : Vw) (all : List D) (g : G3) (tb : S3) (D : Ends3) (P : Nat → St3 → Mu → Prop) : Prop := ∀ i s μ, P i s μ → vw μ = some all ∧ match all[i]? with
  | none => D.nx s μ
  | some x => g x s μ fun s' μ' => tb { D with nx := P (i + 1), ct := P (i + 1), bk := D.nx } s' μ'
def xFor (wi : I3) (g : G3) (tb : S3) : S3 := fun D s μ => wi s μ fun vw μ1 => wSeq (vw μ1) fun all => ∃ P : Nat → St3 → Mu → Prop, P 0 s μ1 ∧ ForP vw all g tb D P
def xWhile (c : T3) (tb : S3) : S3 := fun D s μ => ∃ W : Nat → St3 → Mu → Prop, (∃ m, W m s μ) ∧ ∀ m s μ, W m s μ → c s μ fun b μ1 => if b = true then ∃ N : St3 → Mu → Prop, (∀ s' μ', N s' μ' → ∃ m', m' < m ∧ W m' s' μ') ∧ tb { D with nx := N, ct := N, bk := D.nx } s μ1 else D.nx s μ1
section
variable {K : PySem.W.Frag} {I : Pre}
theorem x_for {ti : TI} {g : TG} {tb : TS} {ei : I3} {f : G3} {eb : S3} (hi : SI K I ti ei) (hg : SG K I g f) (hb : SS K I tb eb) : SS K I (tFor ti g tb) (xFor ei f eb) := fun w σ s D D3 S h q =>
  hi w σ s _ _ S h fun w1 J vw L1 R1 IO h1 => by
    obtain ⟨all, e0, P, h0, hP⟩ := wSeq_at h1
    refine ⟨fun i m σ' H' => m = all.length - i ∧ i ≤ all.length ∧ ∃ w2 s2, w2.hp = H' ∧ Lt w1 w2 ∧ Rep K w2 ∧ RvS K w2 σ' s2 ∧ P i s2 w2.mu, ⟨_, rfl, Nat.zero_le _, w1, s, rfl, .refl _, R1, S.rvs.up L1, h0⟩, ?_⟩
    rintro i m σ' H' ⟨rfl, hi2, w2, s2, rfl, L2, R2, V2, h2⟩
    obtain ⟨ev, h2⟩ := hP i s2 w2.mu h2
    obtain ⟨st, go⟩ := IO w2 L2.l0 R2 all ev
    by_cases hlt : i < all.length
    · obtain ⟨g1, g2⟩ := go i hlt
      rw [List.getElem?_eq_getElem hlt] at h2
      dsimp only at h2
      refine .inr ⟨g1, fun σ3 H3 => ∃ w3 s3, w3.hp = H3 ∧ Lt w1 w3 ∧ Rep K w3 ∧ RvS K w3 σ3 s3 ∧ P (i + 1) s3 w3.mu, fun σ3 H3 p => ⟨all.length - (i + 1), by omega, rfl, hlt, p⟩, fun x H3 y => ?_⟩
      obtain ⟨w3, d, rfl, em, L3, R3, ed, rv⟩ := g2 x H3 y
      rw [List.getElem?_eq_getElem hlt] at ed
      cases ed
      rw [← em] at h2
      refine hg w3 σ' s2 x _ _ _ ⟨R3, V2.up L3, I.up (L1.trans (L2.trans L3)) S.ok⟩ rv h2 fun w4 σ4 s4 L4 R4 V4 h4 => ?_
      have L24 := L2.trans (L3.trans L4)
      have L := L1.trans L24
      refine hb w4 σ4 s4 _ _ ⟨R4, V4, I.up L S.ok⟩ h4 ⟨fun w5 σ5 s5 L5 R5 V5 h5 => ⟨w5, s5, rfl, L24.trans L5, R5, V5, h5⟩, (q.up L).rt, fun w5 σ5 s5 L5 R5 V5 h5 => q.nx w5 σ5 s5 (L.trans L5) R5 V5 h5, fun w5 σ5 s5 L5 R5 V5 h5 => ⟨w5, s5, rfl, L24.trans L5, R5, V5, h5⟩⟩
    · have e : i = all.length := by omega
      subst e
      rw [List.getElem?_eq_none (Nat.le_refl _)] at h2
      exact .inl ⟨st _ (Nat.le_refl _), q.nx w2 σ' s2 (L1.trans L2) R2 V2 h2⟩
theorem x_while {tc : TT} {tb : TS} {ec : T3} {eb : S3} (hc : ST K I tc ec) (hb : SS K I tb eb) : SS K I (tWhile tc tb) (xWhile ec eb) := fun w σ s D D3 S h q => by
  obtain ⟨W, ⟨m0, h0⟩, h⟩ := h
  refine ⟨fun m σ' H' => ∃ w2 s2, w2.hp = H' ∧ Lt w w2 ∧ Rep K w2 ∧ RvS K w2 σ' s2 ∧ W m s2 w2.mu, ⟨m0, w, s, rfl, .refl _, S.rep, S.rvs, h0⟩, ?_⟩
  rintro m σ' H' ⟨w2, s2, rfl, L2, R2, V2, h2⟩
  refine hc w2 σ' s2 _ _ ⟨R2, V2, I.up L2 S.ok⟩ (h m s2 w2.mu h2) fun w3 b L3 R3 h3 => ?_
  have L := L2.trans L3
  cases b with
  | true =>
    obtain ⟨N, hN, h3⟩ := show ∃ N : St3 → Mu → Prop, _ from (by simpa using h3)
    refine iteT ⟨fun σ5 H5 => ∃ w5 s5, w5.hp = H5 ∧ Lt w w5 ∧ Rep K w5 ∧ RvS K w5 σ5 s5 ∧ N s5 w5.mu, fun σ5 H5 p => ?_, hb w3 σ' s2 _ _ ⟨R3, V2.up L3, I.up L S.ok⟩ h3 ⟨fun w5 σ5 s5 L5 R5 V5 h5 => ⟨w5, s5, rfl, L.trans L5, R5, V5, h5⟩, (q.up L).rt, fun w5 σ5 s5 L5 R5 V5 h5 => q.nx w5 σ5 s5 (L.trans L5) R5 V5 h5, fun w5 σ5 s5 L5 R5 V5 h5 => ⟨w5, s5, rfl, L.trans L5, R5, V5, h5⟩⟩⟩
    obtain ⟨w5, s5, rfl, L5, R5, V5, h5⟩ := p
    obtain ⟨m', hm, hw⟩ := hN s5 w5.mu h5
    exact ⟨m', hm, w5, s5, rfl, L5, R5, V5, hw⟩
  | false => exact iteF (q.nx w3 σ' s2 L R3 (V2.up L3) (by simpa using h3))
end
/-! comprehensions -/
def SGw (K : PySem.W.Frag) (I : Pre) (vs : List Nat) (t : TG) (e : G3) : Prop := ∀ w σ s v d (Q : L2.St → Hp → Prop) Q3, Sr K I w σ s → w.rv K v d → e d s w.mu Q3 → (∀ w' σ' s', Lt w w' → Rep K w' → RvS K w' σ' s' → L2.wipe σ' vs = L2.wipe σ vs → Q3 s' w'.mu → Q σ' w'.hp) → t v σ w.hp Q
def SGws (K : PySem.W.Frag) (I : Pre) (vs : List Nat) (t : TGs) (e : Gs3) : Prop := ∀ w σ s us ds (Q : L2.St → Hp → Prop) Q3, Sr K I w σ s → w.rl K us ds → e ds s w.mu Q3 → (∀ w' σ' s', Lt w w' → Rep K w' → RvS K w' σ' s' → L2.wipe σ' vs = L2.wipe σ vs → Q3 s' w'.mu → Q σ' w'.hp) → t us σ w.hp Q
theorem wipe_get (σ : L2.St) (j : Nat) : ∀ vs : List Nat, (L2.wipe σ vs)[j]? = if j ∈ vs ∧ j < σ.length then some none else σ[j]?
  | [] => by simp [L2.wipe]
  | v :: vs => by
    have ih := wipe_get σ j vs
    show ((L2.wipe σ vs).set v none)[j]? = _
    have hl := L2.wipe_length σ vs
    by_cases e : v = j
    · subst e
      by_cases h : v < σ.length
      · rw [List.getElem?_set_self (by omega), if_pos ⟨by simp, h⟩]
      · rw [if_neg fun z => h z.2, List.getElem?_eq_none (by rw [List.length_set]; omega), List.getElem?_eq_none (by omega)]
    · rw [List.getElem?_set_ne e, ih]
      have : (j ∈ v :: vs) ↔ j ∈ vs := by simp; intro z; exact absurd z.symm e
      simp [this]
theorem wipe_set {σ : L2.St} {i : Nat} {x : Option V} {vs : List Nat} (h : i ∈ vs) : L2.wipe (σ.set i x) vs = L2.wipe σ vs := by
  apply List.ext_getElem?
  intro j
  rw [wipe_get, wipe_get, List.length_set]
  by_cases e : j ∈ vs ∧ j < σ.length
  · rw [if_pos e, if_pos e]
  · rw [if_neg e, if_neg e]
    by_cases z : i = j
    · subst z
      have : ¬ i < σ.length := fun q => e ⟨h, q⟩
      rw [List.getElem?_eq_none (by rw [List.length_set]; omega), List.getElem?_eq_none (by omega)]
    · rw [List.getElem?_set_ne z]
theorem wipe_idem (σ : L2.St) (vs : List Nat) : L2.wipe (L2.wipe σ vs) vs = L2.wipe σ vs := by
  apply List.ext_getElem?
  intro j
  rw [wipe_get, wipe_get, L2.wipe_length]
  split <;> rfl
section
variable {K : PySem.W.Frag} {I : Pre} {vs : List Nat}
theorem gw_name {i : Nat} (h : i ∈ vs) : SGw K I vs (gName i) (kName i) := fun w σ s v d Q Q3 S r h1 q => q w _ _ (.refl w) S.rep (S.rvs.set r) (wipe_set h) h1
theorem gws_nil : SGws K I vs gNil kNil := fun w σ s us ds Q Q3 S r h q => by
  obtain ⟨rfl, h⟩ := h
  exact ⟨r.unnil, q w σ s (.refl w) S.rep S.rvs rfl h⟩
theorem gws_cons {g : TG} {gr : TGs} {f : G3} {fr : Gs3} (hg : SGw K I vs g f) (hr : SGws K I vs gr fr) : SGws K I vs (gCons g gr) (kCons f fr) := fun w σ s us ds Q Q3 S r h q => by
  cases ds with
  | nil => exact h.elim
  | cons d t =>
    obtain ⟨x, xs, rfl, r1, r2⟩ := r.uncons
    exact ⟨x, xs, rfl, hg w σ s x d _ _ S r1 h fun w1 σ1 s1 L1 R1 V1 e1 h1 => hr w1 σ1 s1 xs t Q _ ⟨R1, V1, I.up L1 S.ok⟩ (L1.rl r2) h1 fun w2 σ2 s2 L2 R2 V2 e2 h2 => q w2 σ2 s2 (L1.trans L2) R2 V2 (e2.trans e1) h2⟩
theorem gw_tup {n : Nat} {g : TGs} {f : Gs3} (hg : SGws K I vs g f) : SGw K I vs (gTup K n g) (kTup n f) := fun w σ s v d Q Q3 S r h q => by
  unfold kTup at h
  split at h
  · rename_i ds e
    obtain ⟨a, xs, rfl, h1, h2⟩ := seqT_at r e
    exact ⟨a, xs, rfl, h1, by rw [h2.len]; exact h.1, hg w σ s xs ds Q _ S h2 h.2 q⟩
  · exact h.elim
end
/-- P: the invariant by the turn, what was made so far -/
def LcP (vw : Vw) (all : List D) (b : D → Mu → (Option D → Mu → Prop) → Prop) (Q : List D → Mu → Prop) (P : Nat → List D → Mu → Prop) : Prop := ∀ i acc μ, P i acc μ → vw μ = some all ∧ match all[i]? with
  | none => Q acc μ
  | some x => b x μ fun o μ' => match o with
    | some y => acc.length < sizeLine ∧ P (i + 1) (acc ++ [y]) μ'
    | none => P (i + 1) acc μ'
def lcE (vw : Vw) (all : List D) (b : D → Mu → (Option D → Mu → Prop) → Prop) (Q : List D → Mu → Prop) (μ : Mu) : Prop := ∃ P : Nat → List D → Mu → Prop, P 0 [] μ ∧ LcP vw all b Q P
def lcB (g : G3) (t : T3) (e : E3) (s : St3) : D → Mu → (Option D → Mu → Prop) → Prop := fun x μ k => g x s μ fun s2 μ2 => t s2 μ2 fun b μ3 => if b = true then e s2 μ3 fun y μ4 => k (some y) μ4 else k none μ3
def eYes : T3 := fun _ μ Q => Q true μ
def eLc (wi : I3) (g : G3) (t : T3) (e : E3) (vs : List Nat) : E3 := fun s μ Q => wi s μ fun vw μ1 => wSeq (vw μ1) fun all => lcE vw all (lcB g t e (wipe3 s vs)) (fun xs μ2 => Q (.lst xs) μ2) μ1
def eLcO (wi : I3) (g : G3) (t : T3) (e : E3) (vs : List Nat) : E3 := fun s μ Q => wi s μ fun vw μ1 => wSeq (vw μ1) fun all => lcE vw all (lcB g t e (wipe3 s vs)) (fun xs μ2 => Q (.o μ2.length) (μ2 ++ [.lst xs])) μ1
theorem s_yes {K : PySem.W.Frag} {I : Pre} : ST K I tYes eYes := fun w σ s Q Q3 S h q => q w true (.refl w) S.rep h
/-- a world with one object more that nothing is said of -/
def Wo.veil (w : Wo) (a : Addr) (H : Hp) : Wo := ⟨w.al, w.mu, H, a :: w.hx⟩
def Wo.unveil (w : Wo) (h : List Addr) : Wo := ⟨w.al, w.mu, w.hp, h⟩
/-- from a world ahead to a veiled one -/
structure LtV (a : Addr) (w w' : Wo) : Prop where
  le : w.mu.length ≤ w'.mu.length
  al : ∀ k, k < w.mu.length → w'.al k = w.al k
  ex : Ex w.vis w'.vis
  hx : w'.hx = a :: w.hx
  hk : ∀ b, b ∈ w.hx → w'.hp b = w.hp b
  na : a ∉ w.hx
section
variable {K : PySem.W.Frag} {I : Pre} {w w1 w2 : Wo} {a : Addr}
theorem LtV.rv {v : V} {d : D} (L : LtV a w w1) (h : w.rv K v d) : w1.rv K v d := h.up L.le L.al L.ex
theorem LtV.rs {σ : L2.St} {s : St3} (L : LtV a w w1) (h : RvS K w σ s) : RvS K w1 σ s := ⟨h.len, fun i d e => by obtain ⟨v, x, y⟩ := h.at_ i d e; exact ⟨v, x, L.rv y⟩⟩
theorem LtV.trans (L : LtV a w w1) (M : Lt w1 w2) : LtV a w w2 := ⟨Nat.le_trans L.le M.le, fun k hk => (M.al k (Nat.lt_of_lt_of_le hk L.le)).trans (L.al k hk), L.ex.trans M.ex, M.hx.trans L.hx, fun b hb => (M.hk b (by rw [L.hx]; exact List.mem_cons_of_mem _ hb)).trans (L.hk b hb), L.na⟩
theorem veil_new {o : HO} (R : Rep K w) (h : w.hp a = none) : Rep K (w.veil a (upd w.hp a o)) ∧ LtV a w (w.veil a (upd w.hp a o)) := by
  have hn : ∀ k, k < w.mu.length → w.al k ≠ a := fun k hk z => R.there k hk (by rw [z]; exact h)
  have L : LtV a w (w.veil a (upd w.hp a o)) := ⟨Nat.le_refl _, fun _ _ => rfl, fun b u z => by
    obtain ⟨h1, h2⟩ := vis_some z
    have ne : b ≠ a := ne_of_none h1 h
    refine vis_of (by show upd w.hp a o b = some u; rw [upd_ne ne]; exact h1) fun z => ?_
    rcases z with z | z
    · exact h2 (.inl z)
    · have z : b ∈ a :: w.hx := z
      rcases List.mem_cons.mp z with z | z
      · exact ne z
      · exact h2 (.inr z), rfl, fun b hb => upd_ne fun z => R.hxn b hb (by rw [z]; exact h), fun z => R.hxn a z h⟩
  refine ⟨⟨R.inj, fun k hk z => ?_, fun b hb z => ?_, fun k hk z => ?_, List.mem_cons_of_mem _ R.sys, fun k c hc => ?_⟩, L⟩
  · have z : upd w.hp a o (w.al k) = none := z
    rw [upd_ne (hn k hk)] at z
    exact R.there k hk z
  · have z : upd w.hp a o b = none := z
    have hb : b ∈ a :: w.hx := hb
    by_cases e : b = a
    · subst e; rw [upd_same] at z; cases z
    · rw [upd_ne e] at z
      rcases List.mem_cons.mp hb with q | q
      · exact e q
      · exact R.hxn b q z
  · have z : w.al k ∈ a :: w.hx := z
    rcases List.mem_cons.mp z with q | q
    · exact hn k hk q
    · exact R.hxa k hk q
  · have q := R.cell k c hc
    have e : (w.veil a (upd w.hp a o)).hp (w.al k) = w.hp (w.al k) := upd_ne (hn k (lt_of_get hc))
    cases c with
    | lst ds => obtain ⟨vs, x, y⟩ := q; exact ⟨vs, by show (w.veil a (upd w.hp a o)).hp (w.al k) = _; rw [e]; exact x, y.up L.le L.al L.ex⟩
    | dic ds => obtain ⟨vs, x, y⟩ := q; exact ⟨vs, by show (w.veil a (upd w.hp a o)).hp (w.al k) = _; rw [e]; exact x, y.up L.le L.al L.ex⟩
    | ins C ds => obtain ⟨dx, vs, x, y⟩ := q; exact ⟨dx, vs, by show (w.veil a (upd w.hp a o)).hp (w.al k) = _; rw [e]; exact x, y.up L.le L.al L.ex⟩
    | inv P => obtain ⟨vs, x, y⟩ := q; exact ⟨vs, by show (w.veil a (upd w.hp a o)).hp (w.al k) = _; rw [e]; exact x, y⟩
    | tab P nm => obtain ⟨a0, ps, x, y⟩ := q; exact ⟨a0, ps, by show (w.veil a (upd w.hp a o)).hp (w.al k) = _; rw [e]; exact x, y.up L.ex⟩
    | dead => trivial
/-- the veiled object is written -/
theorem veil_set {o : HO} (R : Rep K w1) (L : LtV a w w1) : Rep K { w1 with hp := upd w1.hp a o } ∧ LtV a w { w1 with hp := upd w1.hp a o } ∧ Ex w1.vis ({ w1 with hp := upd w1.hp a o } : Wo).vis := by
  have ha : a ∈ w1.hx := by rw [L.hx]; exact List.mem_cons_self
  have hn : ∀ k, k < w1.mu.length → w1.al k ≠ a := fun k hk z => R.hxa k hk (by rw [z]; exact ha)
  have E : Ex w1.vis ({ w1 with hp := upd w1.hp a o } : Wo).vis := fun b u z => by
    obtain ⟨h1, h2⟩ := vis_some z
    have ne : b ≠ a := fun q => h2 (.inr (by rw [q]; exact ha))
    exact vis_of (w := { w1 with hp := upd w1.hp a o }) (by show upd w1.hp a o b = some u; rw [upd_ne ne]; exact h1) h2
  refine ⟨⟨R.inj, fun k hk z => ?_, fun b hb z => ?_, R.hxa, R.sys, fun k c hc => ?_⟩, ⟨L.le, L.al, L.ex.trans E, L.hx, fun b hb => ?_, L.na⟩, E⟩
  · have z : upd w1.hp a o (w1.al k) = none := z
    rw [upd_ne (hn k hk)] at z
    exact R.there k hk z
  · have z : upd w1.hp a o b = none := z
    by_cases e : b = a
    · subst e; rw [upd_same] at z; cases z
    · rw [upd_ne e] at z; exact R.hxn b hb z
  · have q := R.cell k c hc
    have e : upd w1.hp a o (w1.al k) = w1.hp (w1.al k) := upd_ne (hn k (lt_of_get hc))
    cases c with
    | lst ds => obtain ⟨vs, x, y⟩ := q; exact ⟨vs, by show upd w1.hp a o (w1.al k) = _; rw [e]; exact x, y.up (Nat.le_refl _) (fun _ _ => rfl) E⟩
    | dic ds => obtain ⟨vs, x, y⟩ := q; exact ⟨vs, by show upd w1.hp a o (w1.al k) = _; rw [e]; exact x, y.up (Nat.le_refl _) (fun _ _ => rfl) E⟩
    | ins C ds => obtain ⟨dx, vs, x, y⟩ := q; exact ⟨dx, vs, by show upd w1.hp a o (w1.al k) = _; rw [e]; exact x, y.up (Nat.le_refl _) (fun _ _ => rfl) E⟩
    | inv P => obtain ⟨vs, x, y⟩ := q; exact ⟨vs, by show upd w1.hp a o (w1.al k) = _; rw [e]; exact x, y⟩
    | tab P nm => obtain ⟨a0, ps, x, y⟩ := q; exact ⟨a0, ps, by show upd w1.hp a o (w1.al k) = _; rw [e]; exact x, y.up E⟩
    | dead => trivial
  · by_cases e : b = a
    · exact absurd (e ▸ hb) L.na
    · show upd w1.hp a o b = w.hp b
      rw [upd_ne e]; exact L.hk b hb
/-- the veil is taken off -/
theorem veil_off {xs : List V} {ds : List D} (h0 : sysModules ∈ w.hx) (R : Rep K w1) (L : LtV a w w1) (h : w1.hp a = some (.lst xs)) (r : w1.rl K xs ds) :
    Rep K (w1.unveil w.hx) ∧ Lt w (w1.unveil w.hx) ∧ (w1.unveil w.hx).rv K (.ref a) (.lst ds) := by
  have E : Ex w1.vis (w1.unveil w.hx).vis := fun b u z => by
    obtain ⟨h1, h2⟩ := vis_some z
    refine vis_of (w := w1.unveil w.hx) h1 fun q => h2 ?_
    rcases q with q | q
    · exact .inl q
    · exact .inr (by rw [L.hx]; exact List.mem_cons_of_mem _ q)
  have ha : ¬ (w1.unveil w.hx).hid a := fun q => by
    rcases q with ⟨k, c, e1, _, e2⟩ | q
    · exact R.hxa k (lt_of_get e1) (by rw [show w1.al k = a from e2, L.hx]; exact List.mem_cons_self)
    · exact L.na q
  have r2 : (w1.unveil w.hx).rl K xs ds := r.up (Nat.le_refl _) (fun _ _ => rfl) E
  refine ⟨⟨R.inj, R.there, fun b hb => R.hxn b (by rw [L.hx]; exact List.mem_cons_of_mem _ hb), fun k hk z => R.hxa k hk (by rw [L.hx]; exact List.mem_cons_of_mem _ z), h0, fun k c hc => ?_⟩, ⟨L.le, L.al, L.ex.trans E, rfl, L.hk⟩, .lst (vis_of (w := w1.unveil w.hx) h ha) r2.len r2.at_⟩
  have q := R.cell k c hc
  cases c with
  | lst ds => obtain ⟨vs, x, y⟩ := q; exact ⟨vs, x, y.up (Nat.le_refl _) (fun _ _ => rfl) E⟩
  | dic ds => obtain ⟨vs, x, y⟩ := q; exact ⟨vs, x, y.up (Nat.le_refl _) (fun _ _ => rfl) E⟩
  | ins C ds => obtain ⟨dx, vs, x, y⟩ := q; exact ⟨dx, vs, x, y.up (Nat.le_refl _) (fun _ _ => rfl) E⟩
  | inv P => exact q
  | tab P nm => obtain ⟨a0, ps, x, y⟩ := q; exact ⟨a0, ps, x, y.up E⟩
  | dead => trivial
theorem veil_own {xs : List V} {ds : List D} (h0 : sysModules ∈ w.hx) (R : Rep K w1) (L : LtV a w w1) (h : w1.hp a = some (.lst xs)) (r : w1.rl K xs ds) :
    ∃ w', w'.hp = w1.hp ∧ w'.mu = w1.mu ++ [.lst ds] ∧ Rep K w' ∧ Lt w w' ∧ w'.rv K (.ref a) (.o w1.mu.length) := by
  obtain ⟨R1, L1, V1⟩ := veil_off h0 R L h r
  have hne : ∀ k, k < w1.mu.length → w1.al k ≠ a := fun k hk z => R.hxa k hk (by rw [z, L.hx]; exact List.mem_cons_self)
  refine ⟨⟨fun k => if k = w1.mu.length then a else w1.al k, w1.mu ++ [.lst ds], w1.hp, w.hx⟩, rfl, rfl, ?_⟩
  have hal : ∀ k, k < w1.mu.length → (if k = w1.mu.length then a else w1.al k) = w1.al k := fun k hk => if_neg (Nat.ne_of_lt hk)
  have E : Ex w1.vis (⟨fun k => if k = w1.mu.length then a else w1.al k, w1.mu ++ [.lst ds], w1.hp, w.hx⟩ : Wo).vis := fun b u z => by
    obtain ⟨h1, h2⟩ := vis_some z
    refine vis_of (w := ⟨fun k => if k = w1.mu.length then a else w1.al k, w1.mu ++ [.lst ds], w1.hp, w.hx⟩) h1 fun q => h2 ?_
    rcases q with ⟨k, c, e1, e2, e3⟩ | q
    · have e1 : (w1.mu ++ [.lst ds])[k]? = some c := e1
      have e3 : (if k = w1.mu.length then a else w1.al k) = b := e3
      by_cases hk : k < w1.mu.length
      · rw [hal k hk] at e3
        rw [List.getElem?_append_left hk] at e1
        exact .inl ⟨k, c, e1, e2, e3⟩
      · have : k < (w1.mu ++ [OC.lst ds]).length := (List.getElem?_eq_some_iff.mp e1).1
        rw [List.length_append, List.length_singleton] at this
        rw [if_pos (by omega)] at e3
        exact .inr (by rw [← e3, L.hx]; exact List.mem_cons_self)
    · exact .inr (by rw [L.hx]; exact List.mem_cons_of_mem _ q)
  have hln : w1.mu.length ≤ (w1.mu ++ [OC.lst ds]).length := by simp
  refine ⟨⟨fun i j hi hj hij => ?_, fun k hk => ?_, fun b hb => R.hxn b (by rw [L.hx]; exact List.mem_cons_of_mem _ hb), fun k hk => ?_, h0, fun k c hc => ?_⟩, ⟨Nat.le_trans L.le hln, fun k hk => (hal k (Nat.lt_of_lt_of_le hk L.le)).trans (L.al k hk), L.ex.trans E, rfl, L.hk⟩, ?_⟩
  · have hi : i < (w1.mu ++ [OC.lst ds]).length := hi
    have hj : j < (w1.mu ++ [OC.lst ds]).length := hj
    rw [List.length_append, List.length_singleton] at hi hj
    have hij : (if i = w1.mu.length then a else w1.al i) = (if j = w1.mu.length then a else w1.al j) := hij
    by_cases h1 : i = w1.mu.length <;> by_cases h2 : j = w1.mu.length
    · omega
    · rw [if_pos h1, if_neg h2] at hij; exact absurd hij.symm (hne j (by omega))
    · rw [if_neg h1, if_pos h2] at hij; exact absurd hij (hne i (by omega))
    · rw [if_neg h1, if_neg h2] at hij; exact R.inj i j (by omega) (by omega) hij
  · have hk : k < (w1.mu ++ [OC.lst ds]).length := hk
    rw [List.length_append, List.length_singleton] at hk
    show w1.hp (if k = w1.mu.length then a else w1.al k) ≠ none
    by_cases h1 : k = w1.mu.length
    · rw [if_pos h1, h]; exact nofun
    · rw [if_neg h1]; exact R.there k (by omega)
  · have hk : k < (w1.mu ++ [OC.lst ds]).length := hk
    rw [List.length_append, List.length_singleton] at hk
    show (if k = w1.mu.length then a else w1.al k) ∉ w.hx
    by_cases h1 : k = w1.mu.length
    · rw [if_pos h1]; exact L.na
    · rw [if_neg h1]; exact fun z => R.hxa k (by omega) (by rw [L.hx]; exact List.mem_cons_of_mem _ z)
  · have hc : (w1.mu ++ [OC.lst ds])[k]? = some c := hc
    by_cases hk : k < w1.mu.length
    · rw [List.getElem?_append_left hk] at hc
      have q := R.cell k c hc
      cases c with
      | lst ds => obtain ⟨vs, x, y⟩ := q; exact ⟨vs, by show w1.hp (if k = w1.mu.length then a else w1.al k) = _; rw [hal k hk]; exact x, y.up hln hal E⟩
      | dic ds => obtain ⟨vs, x, y⟩ := q; exact ⟨vs, by show w1.hp (if k = w1.mu.length then a else w1.al k) = _; rw [hal k hk]; exact x, y.up hln hal E⟩
      | ins C ds => obtain ⟨dx, vs, x, y⟩ := q; exact ⟨dx, vs, by show w1.hp (if k = w1.mu.length then a else w1.al k) = _; rw [hal k hk]; exact x, y.up hln hal E⟩
      | inv P => obtain ⟨vs, x, y⟩ := q; exact ⟨vs, by show w1.hp (if k = w1.mu.length then a else w1.al k) = _; rw [hal k hk]; exact x, y⟩
      | tab P nm => obtain ⟨a0, ps, x, y⟩ := q; exact ⟨by show (if k = w1.mu.length then a else w1.al k) = P; rw [hal k hk]; exact a0, ps, by show w1.hp (if k = w1.mu.length then a else w1.al k) = _; rw [hal k hk]; exact x, y.up E⟩
      | dead => trivial
    · have h3 : k < (w1.mu ++ [OC.lst ds]).length := (List.getElem?_eq_some_iff.mp hc).1
      rw [List.length_append, List.length_singleton] at h3
      have h4 : k = w1.mu.length := by omega
      subst h4
      rw [List.getElem?_concat_length] at hc
      cases hc
      exact ⟨xs, by show w1.hp (if w1.mu.length = w1.mu.length then a else _) = _; rw [if_pos rfl]; exact h, r.up hln hal E⟩
  · have e : (if w1.mu.length = w1.mu.length then a else w1.al w1.mu.length) = a := if_pos rfl
    have := Rv.o (K := K) (al := fun k => if k = w1.mu.length then a else w1.al k) (n := (w1.mu ++ [OC.lst ds]).length) (H := (⟨fun k => if k = w1.mu.length then a else w1.al k, w1.mu ++ [.lst ds], w1.hp, w.hx⟩ : Wo).vis) w1.mu.length (by simp)
    rw [e] at this
    exact this
theorem LtV.l0 (L : LtV a w w1) : L0 w w1 := ⟨L.le, L.al, L.ex⟩
theorem lc_run {ti : TI} {g : TG} {tt : TT} {te : TE} {vs : List Nat} {ei : I3} {f : G3} {et : T3} {ee : E3} (hi : SI K I ti ei) (hg : SGw K Pre.top vs g f) (ht : ST K Pre.top tt et) (he : SE K Pre.top te ee) (w : Wo) (σ : L2.St) (s : St3) (Q : VK) (Qd : List D → Mu → Prop) (S : Sr K I w σ s)
    (h : ei s w.mu fun vw μ1 => wSeq (vw μ1) fun all => lcE vw all (lcB f et ee (wipe3 s vs)) Qd μ1)
    (q : ∀ w1 w2 a xs ds, Lt w w1 → LtV a w1 w2 → Rep K w2 → w2.hp a = some (.lst xs) → w2.rl K xs ds → Qd ds w2.mu → Q (.ref a) w2.hp) : tLc ti g tt te vs σ w.hp Q :=
  hi w σ s _ _ S h fun w1 J vw L1 R1 IO h1 => by
    obtain ⟨all, e0, P, h1, hP⟩ := wSeq_at h1
    intro p np
    obtain ⟨Rv0, Lv0⟩ := veil_new (o := .lst []) R1 np
    refine ⟨fun i m H' => m = all.length - i ∧ i ≤ all.length ∧ ∃ w2 xs acc, w2.hp = H' ∧ LtV p w1 w2 ∧ Rep K w2 ∧ w2.hp p = some (.lst xs) ∧ w2.rl K xs acc ∧ P i acc w2.mu, ⟨_, rfl, Nat.zero_le _, w1.veil p (upd w1.hp p (.lst [])), [], [], rfl, Lv0, Rv0, upd_same, .nil, h1⟩, ?_⟩
    rintro i m H' ⟨rfl, hi2, w2, xs, acc, rfl, Lv, R2, ep, ra, h2⟩
    obtain ⟨ev, h2⟩ := hP i acc w2.mu h2
    obtain ⟨st, go⟩ := IO w2 Lv.l0 R2 all ev
    by_cases hlt : i < all.length
    · obtain ⟨g1, g2⟩ := go i hlt
      rw [List.getElem?_eq_getElem hlt] at h2
      dsimp only at h2
      refine .inr ⟨g1, fun H3 => ∃ w3 xs acc, w3.hp = H3 ∧ LtV p w1 w3 ∧ Rep K w3 ∧ w3.hp p = some (.lst xs) ∧ w3.rl K xs acc ∧ P (i + 1) acc w3.mu, fun H3 z => ⟨all.length - (i + 1), by omega, rfl, hlt, z⟩, fun x H3 y => ?_⟩
      obtain ⟨w3, d, rfl, em, L3, R3, ed, rv⟩ := g2 x H3 y
      rw [List.getElem?_eq_getElem hlt] at ed
      cases ed
      have h2 : f all[i] (wipe3 s vs) w2.mu _ := h2
      rw [← em] at h2
      have V0 : RvS K w3 (L2.wipe σ vs) (wipe3 s vs) := ((Lv.rs (S.rvs.up L1)).up L3).wipe vs
      refine hg w3 (L2.wipe σ vs) (wipe3 s vs) x _ _ _ ⟨R3, V0, trivial⟩ rv h2 fun w4 σ4 s4 L4 R4 V4 ew h4 => ⟨by rw [ew, wipe_idem], ?_⟩
      refine ht w4 σ4 s4 _ _ ⟨R4, V4, trivial⟩ h4 fun w5 b L5 R5 h5 => ?_
      have L25 := L3.trans (L4.trans L5)
      have hp : p ∈ w2.hx := by rw [Lv.hx]; exact List.mem_cons_self
      cases b with
      | true =>
        refine iteT (he w5 σ4 s4 _ _ ⟨R5, V4.up L5, trivial⟩ (by simpa using h5) fun w6 v6 d6 L6 R6 V6 h6 => ?_)
        obtain ⟨hl, h6⟩ := h6
        have L26 := L25.trans L6
        have e6 : w6.hp p = some (.lst xs) := (L26.hk p hp).trans ep
        have r6 := L26.rl ra
        obtain ⟨R7, L7, E7⟩ := veil_set (o := .lst (xs ++ [v6])) R6 (Lv.trans L26)
        refine ⟨xs, e6, by rw [r6.len]; exact hl, { w6 with hp := upd w6.hp p (.lst (xs ++ [v6])) }, xs ++ [v6], acc ++ [d6], rfl, L7, R7, upd_same, (r6.append (RvL.cons V6 .nil)).up (Nat.le_refl _) (fun _ _ => rfl) E7, h6⟩
      | false =>
        have h5 : P (i + 1) acc w5.mu := by simpa using h5
        exact iteF ⟨w5, xs, acc, rfl, Lv.trans L25, R5, (L25.hk p hp).trans ep, L25.rl ra, h5⟩
    · have e : i = all.length := by omega
      subst e
      rw [List.getElem?_eq_none (Nat.le_refl _)] at h2
      exact .inl ⟨st _ (Nat.le_refl _), q w1 w2 p xs acc L1 Lv R2 ep ra h2⟩
theorem s_lc {ti : TI} {g : TG} {tt : TT} {te : TE} {vs : List Nat} {ei : I3} {f : G3} {et : T3} {ee : E3} (hi : SI K I ti ei) (hg : SGw K Pre.top vs g f) (ht : ST K Pre.top tt et) (he : SE K Pre.top te ee) : SE K I (tLc ti g tt te vs) (eLc ei f et ee vs) := fun w σ s Q Q3 S h q =>
  lc_run hi hg ht he w σ s Q (fun xs μ => Q3 (.lst xs) μ) S h fun w1 w2 a xs ds L1 L2 R2 e r h2 => by
    obtain ⟨R3, L3, V3⟩ := veil_off (by rw [L1.hx]; exact S.rep.sys) R2 L2 e r
    exact q (w2.unveil w1.hx) _ _ (L1.trans L3) R3 V3 h2
theorem s_lcO {ti : TI} {g : TG} {tt : TT} {te : TE} {vs : List Nat} {ei : I3} {f : G3} {et : T3} {ee : E3} (hi : SI K I ti ei) (hg : SGw K Pre.top vs g f) (ht : ST K Pre.top tt et) (he : SE K Pre.top te ee) : SE K I (tLc ti g tt te vs) (eLcO ei f et ee vs) := fun w σ s Q Q3 S h q =>
  lc_run hi hg ht he w σ s Q (fun xs μ => Q3 (.o (List.length μ)) (μ ++ [OC.lst xs])) S h fun w1 w2 a xs ds L1 L2 R2 e r h2 => by
    obtain ⟨w', e1, e2, R3, L3, V3⟩ := veil_own (by rw [L1.hx]; exact S.rep.sys) R2 L2 e r
    rw [← e1]
    exact q w' _ _ (L1.trans L3) R3 V3 (by rw [e2]; exact h2)
end
/-! calls and defs -/
abbrev X3 := Addr → List (Str × D) → Mu → Prop
abbrev Sp3 := List D → Mu → K3 → X3 → Prop
def E03 : X3 := fun _ _ _ => False
structure XR (K : PySem.W.Frag) (w : Wo) (cls : Value) (dd : Option Addr) (C : Addr) (fs : List (Str × D)) : Prop where
  cls : cls = .ref C
  dic : (dd = none ∧ fs = []) ∨ ∃ a fv, dd = some a ∧ w.vis a = some (.xd fv) ∧ RvP K w.al w.mu.length w.vis fv fs
theorem XR.up {K : PySem.W.Frag} {w w' : Wo} {cls : Value} {dd : Option Addr} {C : Addr} {fs : List (Str × D)} (h : XR K w cls dd C fs) (L : Lt w w') : XR K w' cls dd C fs :=
  ⟨h.cls, h.dic.imp (fun z => z) fun ⟨a, fv, e, x, y⟩ => ⟨a, fv, e, L.ex _ _ x, L.rp y⟩⟩
def PostX (K : PySem.W.Frag) (w : Wo) (E : XK) (E3 : X3) : Prop := ∀ w' cls dd C fs, Lt w w' → Rep K w' → XR K w' cls dd C fs → E3 C fs w'.mu → E cls dd w'.hp
theorem PostX.up {K : PySem.W.Frag} {w w' : Wo} {E : XK} {E3 : X3} (h : PostX K w E E3) (L : Lt w w') : PostX K w' E E3 := fun w2 cls dd C fs L2 => h w2 cls dd C fs (L.trans L2)
def lift (K : PySem.W.Frag) (sp : Sp3) : Sp := fun vs H Q E => ∃ w ds Q3 E3, w.hp = H ∧ Rep K w ∧ w.rl K vs ds ∧ sp ds w.mu Q3 E3 ∧ Post K w Q Q3 ∧ PostX K w E E3
def eCall (sp : Sp3) (dds : List V) (a : A3) : E3 := fun s μ Q => a s μ fun ds μ1 => sp (ds ++ dds.map D.v) μ1 Q E03
abbrev W3 := Addr → List (Str × D) → St3 → Mu → Prop
def eCallX (sp : Sp3) (dds : List V) (W : W3) (a : A3) : E3 := fun s μ Q => a s μ fun ds μ1 => sp (ds ++ dds.map D.v) μ1 Q fun C fs μ2 => W C fs s μ2
def WOk (K : PySem.W.Frag) (I : Pre) (W : WX) (W' : W3) : Prop := ∀ w σ s cls dd C fs, Sr K I w σ s → XR K w cls dd C fs → W' C fs s w.mu → W cls dd σ w.hp
def xRaise (W : W3) (e : St3 → Mu → X3 → Prop) : S3 := fun _ s μ => e s μ fun C fs μ1 => W C fs s μ1
def SMk (K : PySem.W.Frag) (I : Pre) (t : L2.St → Hp → XK → Prop) (e : St3 → Mu → X3 → Prop) : Prop := ∀ w σ s Q Q3, Sr K I w σ s → e s w.mu Q3 → PostX K w Q Q3 → t σ w.hp Q
/-- an own exception with one field -/
def eMk1 (C : Addr) (f : Str) (a : A3) : St3 → Mu → X3 → Prop := fun s μ Q => a s μ fun ds μ1 => match ds with
  | [y] => Q C [(f, y)] μ1
  | _ => False
section
variable {K : PySem.W.Frag} {I : Pre}
theorem s_call {sp : Sp3} {dvs : List V} {ta : TA} {ea : A3} (ha : SA K I ta ea) : SE K I (tCall (lift K sp) dvs E0 ta) (eCall sp dvs ea) := fun w σ s Q Q3 S h q =>
  ha w σ s _ _ S h fun w1 vs ds L1 R1 V1 h1 => ⟨w1, ds ++ dvs.map D.v, Q3, E03, rfl, R1, V1.append (.vals dvs), h1, q.up L1, fun _ _ _ _ _ _ _ _ z => z.elim⟩
theorem s_callX {sp : Sp3} {dvs : List V} {ta : TA} {ea : A3} {W : WX} {W' : W3} (hW : WOk K I W W') (ha : SA K I ta ea) : SE K I (tCallSD (lift K sp) dvs (fun σ cls d H => W cls d σ H) ta) (eCallX sp dvs W' ea) := fun w σ s Q Q3 S h q =>
  ha w σ s _ _ S h fun w1 vs ds L1 R1 V1 h1 => ⟨w1, ds ++ dvs.map D.v, Q3, _, rfl, R1, V1.append (.vals dvs), h1, q.up L1, fun w2 cls dd C fs L2 R2 x h2 => hW w2 σ s cls dd C fs (S.to (L1.trans L2) R2) x h2⟩
theorem x_raise {W : WX} {W' : W3} {t : L2.St → Hp → XK → Prop} {e : St3 → Mu → X3 → Prop} (hW : WOk K I W W') (he : SMk K I t e) : SS K I (tRs W t) (xRaise W' e) := fun w σ s D D3 S h q =>
  he w σ s _ _ S h fun w2 cls dd C fs L2 R2 x h2 => hW w2 σ s cls dd C fs (S.to L2 R2) x h2
theorem xd_new {w : Wo} {p : Addr} {fv : List (Str × V)} {fs : List (Str × D)} (R : Rep K w) (hp : w.hp p = none) (r : RvP K w.al w.mu.length w.vis fv fs) (C : Addr) :
    Rep K { w with hp := upd w.hp p (.xd fv) } ∧ Lt w { w with hp := upd w.hp p (.xd fv) } ∧ XR K { w with hp := upd w.hp p (.xd fv) } (.ref C) (some p) C fs := by
  obtain ⟨R1, L1⟩ := R.more (Ex.new (o := .xd fv) hp)
  exact ⟨R1, L1, rfl, .inr ⟨p, fv, rfl, vis_of (w := { w with hp := upd w.hp p (.xd fv) }) upd_same (fun z => hid_ne R hp z), L1.rp r⟩⟩
theorem mk_1 {C : Addr} {f : Str} {ta : TA} {ea : A3} {dvs : List V} (hd : dvs = []) (ha : SA K I ta ea) : SMk K I (tMkO C (sp_exi1 C f) dvs ta) (eMk1 C f ea) := fun w σ s Q Q3 S h q => by
  subst hd
  refine ha w σ s _ _ S h fun w1 vs ds L1 R1 V1 h1 => ?_
  split at h1
  · rename_i y
    obtain ⟨v, t, rfl, h2, h3⟩ := V1.uncons
    have := h3.unnil
    subst this
    refine w_mk1 (y := v) rfl fun d hd => ?_
    obtain ⟨R2, L2, X2⟩ := xd_new (fv := [(f, v)]) (fs := [(f, y)]) R1 hd ⟨rfl, fun i v' d' a b => by
      cases i with
      | zero => simp at a b; subst a b; exact h2
      | succ i => simp at a⟩ C
    exact q _ _ _ _ _ (L1.trans L2) R2 X2 h1
  · exact h1.elim
end
/-- the end of a def: the newest owned things may be forgotten -/
def RtC (μ0 : Mu) (Q3 : K3) : K3 := fun d μ1 => Q3 d μ1 ∨ ∃ m, μ0.length ≤ m ∧ m ≤ μ1.length ∧ Bl m d ∧ (∀ k c, k < m → μ1[k]? = some c → μ0[k]? = some c ∨ BlC m c) ∧ Q3 d (μ1.take m)
def XtC (μ0 : Mu) (E3 : X3) : X3 := fun C fs μ1 => E3 C fs μ1 ∨ ∃ m, μ0.length ≤ m ∧ m ≤ μ1.length ∧ (∀ x ∈ fs.map (·.2), Bl m x) ∧ (∀ k c, k < m → μ1[k]? = some c → μ0[k]? = some c ∨ BlC m c) ∧ E3 C fs (μ1.take m)
theorem Bl.mono {m n : Nat} (h : m ≤ n) {d : D} (b : Bl m d) : Bl n d := by
  induction b with
  | v x => exact .v x
  | o k hk => exact .o k (Nat.lt_of_lt_of_le hk h)
  | lst _ ih => exact .lst ih
  | ls _ ih => exact .ls ih
  | tup _ ih => exact .tup ih
  | dic _ ih => exact .dic ih
  | ins _ ih => exact .ins ih
  | fnc _ ih => exact .fnc ih
theorem BlC.mono {m n : Nat} (h : m ≤ n) {c : OC} (b : BlC m c) : BlC n c := by
  cases c with
  | lst ds => exact fun x hx => (b x hx).mono h
  | dic ds => exact fun x hx => (b x hx).mono h
  | ins C ds => exact fun x hx => (b x hx).mono h
  | _ => trivial
theorem cut_bl {K : PySem.W.Frag} {w0 w : Wo} {m : Nat} (R0 : Rep K w0) (h0 : w0.mu.length ≤ m) (h : ∀ k c, k < m → w.mu[k]? = some c → w0.mu[k]? = some c ∨ BlC m c) : ∀ k c, k < m → w.mu[k]? = some c → BlC m c := fun k c hk hc => by
  rcases h k c hk hc with z | z
  · exact (BlC.of_cell (R0.cell k c z)).mono h0
  · exact z
theorem Post.cut {K : PySem.W.Frag} {w0 : Wo} {Q : VK} {Q3 : K3} (R0 : Rep K w0) (h : Post K w0 Q Q3) : Post K w0 Q (RtC w0.mu Q3) := fun w v d L R V hq => by
  rcases hq with hq | ⟨m, h1, h2, h3, h4, h5⟩
  · exact h w v d L R V hq
  · obtain ⟨R2, L2⟩ := R.cut L h2 h1 (cut_bl R0 h1 h4)
    refine h (w.cut m) v d L2 R2 ?_ h5
    have hl : (w.cut m).mu.length = m := by show (w.mu.take m).length = _; simp; omega
    show Rv K w.al (w.cut m).mu.length _ v d
    rw [hl]
    exact V.down h3 (cut_ex w m)
theorem PostX.cut {K : PySem.W.Frag} {w0 : Wo} {E : XK} {E3 : X3} (R0 : Rep K w0) (h : PostX K w0 E E3) : PostX K w0 E (XtC w0.mu E3) := fun w cls dd C fs L R X hq => by
  rcases hq with hq | ⟨m, h1, h2, h3, h4, h5⟩
  · exact h w cls dd C fs L R X hq
  · obtain ⟨R2, L2⟩ := R.cut L h2 h1 (cut_bl R0 h1 h4)
    refine h (w.cut m) cls dd C fs L2 R2 ⟨X.cls, ?_⟩ h5
    have hl : (w.cut m).mu.length = m := by show (w.mu.take m).length = _; simp; omega
    refine X.dic.imp (fun z => z) fun ⟨a, fv, e, x, y⟩ => ⟨a, fv, e, cut_ex w m _ _ x, ?_⟩
    show RvP K w.al (w.cut m).mu.length _ fv fs
    rw [hl]
    exact y.down h3 (cut_ex w m)
def start3 (N : List Str) (ds : List D) : St3 := ds.map some ++ List.replicate (N.length - ds.length) none
theorem start_rv {K : PySem.W.Frag} {w : Wo} {N : List Str} {vs : List V} {ds : List D} (r : w.rl K vs ds) : RvS K w (L2.start N vs) (start3 N ds) := ⟨by unfold L2.start start3; simp [r.len], fun i d e => by
  unfold start3 at e
  unfold L2.start
  by_cases hi : i < ds.length
  · rw [List.getElem?_append_left (by simpa using hi), List.getElem?_map] at e
    rw [List.getElem?_append_left (by rw [List.length_map, r.len]; exact hi), List.getElem?_map]
    cases q : ds[i]? with
    | none => rw [q] at e; cases e
    | some x =>
      rw [q] at e; cases e
      obtain ⟨v, h1, h2⟩ := r.get q
      exact ⟨v, by rw [h1]; rfl, h2⟩
  · rw [List.getElem?_append_right (by simpa using hi), List.getElem?_replicate] at e
    split at e <;> cases e⟩
def preOf (K : PySem.W.Frag) (w : Wo) : Pre := ⟨fun w' => Lt w w', fun L h => h.trans L⟩
section
variable {P : Program} {w : World} {K : PySem.W.Frag} {mg : Str → Option Value} {base : Heap}
theorem lift_len {sp : Sp3} {n : Nat} (h : ∀ ds μ Q E, sp ds μ Q E → ds.length = n) : ∀ vs H Q E, lift K sp vs H Q E → vs.length = n := fun vs H Q E ⟨w, ds, Q3, E3, _, _, r, z, _, _⟩ => by rw [r.len]; exact h _ _ _ _ z
/-- what a body must do for the promise -/
def Does (e : X3 → S3) (N : List Str) (sp : Sp3) : Prop := ∀ ds μ Q3 E3, sp ds μ Q3 E3 → e (XtC μ E3) { nx := fun _ μ' => RtC μ Q3 (.v .non) μ', rt := RtC μ Q3 } (start3 N ds) μ
theorem run_body {N : List Str} {t : TS} {e : X3 → S3} {sp : Sp3} {vs : List V} {H : Hp} {Q : VK} {E : XK} (hl : lift K sp vs H Q E) (ht : ∀ (I : Pre) (E3 : X3), WOk K I (fun cls d _ H => E cls d H) (fun C fs _ μ => E3 C fs μ) → SS K I t (e E3)) (hd : Does e N sp) :
    t { nx := fun _ H' => Q .non H', rt := Q } (L2.start N vs) H := by
  obtain ⟨w0, ds, Q3, E3, rfl, R0, r, hsp, q, x⟩ := hl
  have q' := q.cut R0
  have x' := x.cut R0
  refine ht (preOf K w0) (XtC w0.mu E3) (fun w1 σ s cls dd C fs S X h => x' w1 cls dd C fs S.ok S.rep X h) w0 (L2.start N vs) (start3 N ds) _ _ ⟨R0, start_rv r, .refl w0⟩ (hd ds w0.mu Q3 E3 hsp)
    ⟨fun w' σ s L R V h => q' w' _ _ L R (.v _) h, fun w' v d L R V h => q' w' v d L R V h, fun _ _ _ _ _ _ h => h.elim, fun _ _ _ _ _ _ h => h.elim⟩
end
end Wb

set_option Elab.async false
set_option linter.all false
set_option maxRecDepth 100000
/-! pots, the script, try and its suites -/
namespace Wb
open PySem PySem.Spec PyProof.Rows L2

def PotV (vs : List V) : Prop := ∃ u w : Int, vs = [.int u, .int w] ∧ 0 ≤ u ∧ 0 ≤ w ∧ w < 2147483629
def dInts (ns : List Int) : List D := ns.map fun i => .v (.int i)
def dStrs (ns : List Str) : List D := ns.map fun i => .v (.str i)
/-- an own list of a kind that is kept changed within its kind -/
theorem Rep.keepInv {K : PySem.W.Frag} {w : Wo} {k : Nat} {P : List V → Prop} {vs : List V} {H' : Hp} (R : Rep K w) (h : w.mu[k]? = some (.inv P)) (e : Ex (Wb.hid [w.al k] w.hp) (Wb.hid [w.al k] H')) (hv : H' (w.al k) = some (.lst vs)) (hP : P vs) :
    Rep K { w with hp := H' } ∧ Lt w { w with hp := H' } := by
  have hk := lt_of_get h
  have st : ∀ a o, w.hp a = some o → a ≠ w.al k → H' a = some o := fun a o ha ne => by
    have := e a o (by rw [hid_out (by simp [ne])]; exact ha)
    rwa [hid_out (by simp [ne])] at this
  have sn : ∀ a, w.hp a ≠ none → a ≠ w.al k → H' a = w.hp a := fun a ha ne => by
    cases q : w.hp a with
    | none => exact absurd q ha
    | some o => exact st a o q ne
  have L : Lt w { w with hp := H' } := ⟨Nat.le_refl _, fun _ _ => rfl, fun a o z => by
    obtain ⟨h1, h2⟩ := vis_some z
    exact vis_of (w := { w with hp := H' }) (st a o h1 fun q => h2 (.inl ⟨k, _, h, rfl, q.symm⟩)) h2, rfl, fun a ha => sn a (R.hxn a ha) fun q => R.hxa k hk (q ▸ ha)⟩
  refine ⟨⟨R.inj, fun j hj => ?_, fun a ha => ?_, R.hxa, R.sys, fun j c hc => ?_⟩, L⟩
  · show H' (w.al j) ≠ none
    by_cases q : w.al j = w.al k
    · rw [q, hv]; exact nofun
    · rw [sn _ (R.there j hj) q]; exact R.there j hj
  · show H' a ≠ none
    rw [sn a (R.hxn a ha) fun q => R.hxa k hk (q ▸ ha)]; exact R.hxn a ha
  · by_cases q : j = k
    · subst q
      have hc : w.mu[j]? = some c := hc
      rw [h] at hc; cases hc
      exact ⟨vs, hv, hP⟩
    · have hj := lt_of_get (w := w) hc
      exact (R.cell j c hc).up L hj (sn _ (R.there j hj) fun z => q (R.inj j k hj hk z))
def sp3_draw : Sp3 := fun ds μ Q _ => match ds with
  | [.o k, .v (.int n)] => μ[k]? = some (.inv PotV) ∧ 0 < n ∧ n < 1073741824 ∧ ∀ d : Int, 0 ≤ d → d < n → Q (.v (.int d)) μ
  | _ => False
def sp3_pot : Sp3 := fun ds μ Q _ => match ds with
  | [.ls xs, .v (.int k)] => (∃ ns, xs = dInts ns) ∧ 0 ≤ k ∧ k ≤ 64 ∧ Q (.o μ.length) (μ ++ [.inv PotV])
  | _ => False
def sp3_cell : Sp3 := fun ds μ Q _ => match ds with
  | [.ls xs, .v (.int k)] => (∃ ns, xs = dInts ns) ∧ 0 ≤ k ∧ ∀ z : Int, Q (.v (.int z)) μ
  | _ => False
theorem dp_ls {K : PySem.W.Frag} {w : Wo} {v : V} {ns : List Int} (r : w.rv K v (.ls (dInts ns))) : ∃ a, v = .ref a ∧ Dp K (Wb.hid [] w.hp) (.ref a) (.list (ns.map PyData.int)) := by
  cases r with
  | ls hs hl h =>
    refine ⟨_, rfl, ?_⟩
    rw [hid_nil]
    have e : (dInts ns) = (ns.map V.int).map D.v := by unfold dInts; rw [List.map_map]; rfl
    have := RvL.vals_inv (xs := ns.map V.int) (by rw [← e]; exact ⟨hl, h⟩)
    subst this
    exact .lst (ex_l (vis_le w) hs) (dpall_ints ns)
theorem br_cell {K : PySem.W.Frag} : ∀ vs H Q E, lift K sp3_cell vs H Q E → sp_law_cell K vs H Q E := fun vs H Q E ⟨w, ds, Q3, E3, e, R, r, h, q, _⟩ => by
  subst e
  unfold sp3_cell at h
  split at h
  · obtain ⟨⟨ns, rfl⟩, h0, h⟩ := h
    obtain ⟨x, t, rfl, r1, r2⟩ := r.uncons
    obtain ⟨y, t, rfl, r3, r4⟩ := r2.uncons
    have := r4.unnil
    subst this
    obtain ⟨a, rfl, hd⟩ := dp_ls r1
    cases r3
    exact ⟨[], a, ns, _, rfl, hd, h0, fun z => q w _ _ (.refl w) R (.v _) (h z)⟩
  · exact h.elim
theorem br_pot {K : PySem.W.Frag} : ∀ vs H Q E, lift K sp3_pot vs H Q E → sp_law_pot K vs H Q E := fun vs H Q E ⟨w, ds, Q3, E3, e, R, r, h, q, _⟩ => by
  subst e
  unfold sp3_pot at h
  split at h
  · obtain ⟨⟨ns, rfl⟩, h0, h1, h⟩ := h
    obtain ⟨x, t, rfl, r1, r2⟩ := r.uncons
    obtain ⟨y, t, rfl, r3, r4⟩ := r2.uncons
    have := r4.unnil
    subst this
    obtain ⟨a, rfl, hd⟩ := dp_ls r1
    cases r3
    refine ⟨[], a, ns, _, rfl, hd, h0, h1, fun p H' np ex hp => ?_⟩
    obtain ⟨u, v, hp, c1, c2, c3⟩ := hp
    obtain ⟨R1, L1⟩ := R.push (c := .inv PotV) ex np (by rw [hp]; exact nofun) fun L => ⟨[.int u, .int v], by
      show H' (if w.mu.length = w.mu.length then p else _) = _
      rw [if_pos rfl, hp], u, v, rfl, c1, c2, c3⟩
    have e : (w.push p (.inv PotV) H').al w.mu.length = p := if_pos rfl
    have V1 := Rv.o (K := K) (al := (w.push p (.inv PotV) H').al) (n := (w.push p (.inv PotV) H').mu.length) (H := (w.push p (.inv PotV) H').vis) w.mu.length (by show _ < (w.mu ++ [_]).length; simp)
    rw [e] at V1
    exact q _ _ _ L1 R1 V1 h
  · exact h.elim
theorem br_draw {K : PySem.W.Frag} : ∀ vs H Q E, lift K sp3_draw vs H Q E → sp_law_draw K vs H Q E := fun vs H Q E ⟨w, ds, Q3, E3, e, R, r, h, q, _⟩ => by
  subst e
  unfold sp3_draw at h
  split at h
  · obtain ⟨hk, h0, h1, h⟩ := h
    obtain ⟨x, t, rfl, r1, r2⟩ := r.uncons
    obtain ⟨y, t, rfl, r3, r4⟩ := r2.uncons
    have := r4.unnil
    subst this
    cases r3
    cases r1
    obtain ⟨vs, e1, u, v, rfl, c1, c2, c3⟩ := R.cell _ _ hk
    refine ⟨_, _, rfl, ⟨u, v, e1, c1, c2, c3⟩, h0, h1, fun d H' ex hp d0 d1 => ?_⟩
    obtain ⟨u', v', hp, c1, c2, c3⟩ := hp
    obtain ⟨R1, L1⟩ := R.keepInv hk ex hp ⟨u', v', rfl, c1, c2, c3⟩
    exact q _ _ _ L1 R1 (.v _) (h d d0 d1)
  · exact h.elim
/-- the law itself -/
def sp3_law : Sp3 := fun ds μ Q _ => ∃ ns : List Int, ds = [.ls (dInts ns)] ∧ ns.length ≤ 63 ∧ ∀ μ', Q (.v (.bl true)) μ'
theorem law_start3 {K : PySem.W.Frag} {H : Hp} {a : Addr} {ns : List Int} (hl : ns.length ≤ 63) (h : SqL K H a (ns.map V.int)) (hs : H sysModules ≠ none) (ha : a ≠ sysModules) : lift K sp3_law [.ref a] H (fun v _ => v = .bl true) (fun _ _ _ => False) := by
  have hn : ∀ b, b ≠ sysModules → ¬ (⟨fun _ => 0, [], H, [sysModules]⟩ : Wo).hid b := fun b nb z => by
    rcases z with ⟨k, c, e, _⟩ | z
    · have e : ([] : List OC)[k]? = some c := e
      simp at e
    · exact nb (List.mem_singleton.mp z)
  have hS : SqL K (⟨fun _ => 0, [], H, [sysModules]⟩ : Wo).vis a (ns.map V.int) := by
    rcases h with (h | ⟨o, h⟩) | h
    · exact .inl (.inl (vis_of (w := ⟨fun _ => 0, [], H, [sysModules]⟩) h (hn a ha)))
    · exact .inl (.inr ⟨o, vis_of (w := ⟨fun _ => 0, [], H, [sysModules]⟩) h (hn a ha)⟩)
    · exact .inr h
  refine ⟨⟨fun _ => 0, [], H, [sysModules]⟩, [.ls (dInts ns)], fun d _ => d = .v (.bl true), E03, rfl, ⟨fun i j hi => absurd hi (by simp), fun k hk => absurd hk (by simp), fun a ha => (by rw [List.mem_singleton.mp ha]; exact hs), fun k hk => absurd hk (by simp), List.mem_singleton.mpr rfl, fun k c hc => (by have hc : ([] : List OC)[k]? = some c := hc; simp at hc)⟩, RvL.cons (.ls hS (by simp [dInts]) fun i v d x y => ?_) .nil, ⟨ns, rfl, hl, fun _ => rfl⟩, fun w' v d _ _ r e => ?_, fun _ _ _ _ _ _ _ _ z => z⟩
  · unfold dInts at y
    rw [List.getElem?_map] at x y
    cases q : ns[i]? with
    | none => rw [q] at x; cases x
    | some z => rw [q] at x y; cases x; cases y; exact .v _
  · subst e; cases r; rfl

/-! try -/
def Pre.and (I : Pre) (K : PySem.W.Frag) (cls : Value) (dd : Option Addr) (C : Addr) (fs : List (Str × D)) : Pre := ⟨fun w => I.ok w ∧ XR K w cls dd C fs, fun L h => ⟨I.up L h.1, h.2.up L⟩⟩
def wAs3 (K : PySem.W.Frag) (c : Value) (i : Nat) (ts : Addr → Addr → List (Str × D) → S3) (Wo' : W3) (D : Ends3) : W3 := fun C fs s μ => ∃ b, PySem.W.exmOne K (.ref C) c = some b ∧
  (b = true → ∀ a, ts a C fs { nx := fun s' μ' => D.nx (s'.set i none) μ', rt := D.rt, bk := fun s' μ' => D.bk (s'.set i none) μ', ct := fun s' μ' => D.ct (s'.set i none) μ' } (s.set i (some (.v (.ref a)))) μ) ∧ (b = false → Wo' C fs s μ)
def wOnly3 (K : PySem.W.Frag) (c : Value) (ts : Addr → Addr → List (Str × D) → S3) (Wo' : W3) (D : Ends3) : W3 := fun C fs s μ => ∃ b, PySem.W.exmOne K (.ref C) c = some b ∧
  (b = true → ∀ a, ts a C fs D s μ) ∧ (b = false → Wo' C fs s μ)
def xTryAs (K : PySem.W.Frag) (c : Value) (i : Nat) (tb : W3 → S3) (ts : Addr → Addr → List (Str × D) → S3) (Wo' : W3) : S3 := fun D s μ => tb (wAs3 K c i ts Wo' D) D s μ
def xTryOnly (K : PySem.W.Frag) (c : Value) (tb : W3 → S3) (ts : Addr → Addr → List (Str × D) → S3) (Wo' : W3) : S3 := fun D s μ => tb (wOnly3 K c ts Wo' D) D s μ
section
variable {K : PySem.W.Frag} {I : Pre}
/-- what stays known since a world -/
def Pre.since (I : Pre) (w : Wo) : Pre := ⟨fun w' => I.ok w' ∧ Lt w w', fun L h => ⟨I.up L h.1, h.2.trans L⟩⟩
theorem x_try_as {c : Value} {i : Nat} {tb : WX → TS} {ts : Addr → Value → Option Addr → TS} {Wout : WX} {tb3 : W3 → S3} {ts3 : Addr → Addr → List (Str × D) → S3} {Wo' : W3} (hW : WOk K I Wout Wo')
    (hb : ∀ (I : Pre) (W : WX) (W' : W3), WOk K I W W' → SS K I (tb W) (tb3 W')) (hs : ∀ a cls d C fs, SS K (I.and K cls d C fs) (ts a cls d) (ts3 a C fs)) :
    SS K I (fun D σ H => tb (wAs K c i ts Wout D) D σ H) (xTryAs K c i tb3 ts3 Wo') := fun w σ s D D3 S h q =>
  hb (I.since w) (wAs K c i ts Wout D) (wAs3 K c i ts3 Wo' D3) (fun w1 σ1 s1 cls dd C fs S1 X h1 => by
    obtain ⟨b, hb, h2, h3⟩ := h1
    obtain ⟨I1, L1⟩ := S1.ok
    have ec := X.cls
    subst ec
    refine ⟨b, hb, fun e a na => ?_, fun e => hW w1 σ1 s1 _ dd C fs ⟨S1.rep, S1.rvs, I1⟩ X (h3 e)⟩
    have qq := q.up L1
    exact hs a (.ref C) dd C fs w1 _ _ _ _ ⟨S1.rep, S1.rvs.set (.v _), I1, X⟩ (h2 e a) ⟨fun w2 σ2 s2 L2 R2 V2 h => qq.nx w2 _ _ L2 R2 (V2.unset none) h, qq.rt, fun w2 σ2 s2 L2 R2 V2 h => qq.bk w2 _ _ L2 R2 (V2.unset none) h, fun w2 σ2 s2 L2 R2 V2 h => qq.ct w2 _ _ L2 R2 (V2.unset none) h⟩) w σ s D D3 ⟨S.rep, S.rvs, S.ok, .refl w⟩ h q
theorem x_try_only {c : Value} {tb : WX → TS} {ts : Addr → Value → Option Addr → TS} {Wout : WX} {tb3 : W3 → S3} {ts3 : Addr → Addr → List (Str × D) → S3} {Wo' : W3} (hW : WOk K I Wout Wo')
    (hb : ∀ (I : Pre) (W : WX) (W' : W3), WOk K I W W' → SS K I (tb W) (tb3 W')) (hs : ∀ a cls d C fs, SS K (I.and K cls d C fs) (ts a cls d) (ts3 a C fs)) :
    SS K I (fun D σ H => tb (wOnly K c ts Wout D) D σ H) (xTryOnly K c tb3 ts3 Wo') := fun w σ s D D3 S h q =>
  hb (I.since w) (wOnly K c ts Wout D) (wOnly3 K c ts3 Wo' D3) (fun w1 σ1 s1 cls dd C fs S1 X h1 => by
    obtain ⟨b, hb, h2, h3⟩ := h1
    obtain ⟨I1, L1⟩ := S1.ok
    have ec := X.cls
    subst ec
    refine ⟨b, hb, fun e a na => ?_, fun e => hW w1 σ1 s1 _ dd C fs ⟨S1.rep, S1.rvs, I1⟩ X (h3 e)⟩
    exact hs a (.ref C) dd C fs w1 _ _ _ _ ⟨S1.rep, S1.rvs, I1, X⟩ (h2 e a) (q.up L1)) w σ s D D3 ⟨S.rep, S.rvs, S.ok, .refl w⟩ h q
/-- nothing may come out -/
def W03 : W3 := fun _ _ _ _ => False
theorem w_out0 {W : WX} : WOk K I W W03 := fun _ _ _ _ _ _ _ _ _ h => h.elim
/-- e.f of the caught exception -/
def eXf (K : PySem.W.Frag) (a C : Addr) (fs : List (Str × D)) (f : Str) (e : E3) : E3 := fun s μ Q => e s μ fun x μ1 => x = .v (.ref a) ∧ XfC K C ∧ PySem.W.findIn K (.ref C) f = some none ∧ (match fs.lookup f with | some d => Q d μ1 | none => False)
theorem RvP.look {al : Nat → Addr} {n : Nat} {H : Hp} {fv : List (Str × V)} {fs : List (Str × D)} {f : Str} {d : D} (r : RvP K al n H fv fs) (e : fs.lookup f = some d) : ∃ v, fv.lookup f = some v ∧ Rv K al n H v d := by
  obtain ⟨hk, ha⟩ := r
  induction fs generalizing fv with
  | nil => cases e
  | cons p t ih =>
    cases fv with
    | nil => simp at hk
    | cons q u =>
      simp only [List.map_cons, List.cons.injEq] at hk
      obtain ⟨h1, h2⟩ := hk
      obtain ⟨f1, d1⟩ := p
      obtain ⟨f2, v2⟩ := q
      dsimp only at h1
      subst h1
      by_cases z : f = f2
      · subst z
        rw [List.lookup_cons_self] at e
        cases e
        exact ⟨v2, List.lookup_cons_self, ha 0 v2 d rfl rfl⟩
      · have zb : (f == f2) = false := beq_eq_false_iff_ne.mpr z
        rw [List.lookup_cons, zb] at e
        obtain ⟨v, h3, h4⟩ := ih e h2 (fun i v d a b => ha (i + 1) v d (by simpa using a) (by simpa using b))
        exact ⟨v, by rw [List.lookup_cons, zb]; exact h3, h4⟩
theorem s_xf {a : Addr} {cls : Value} {d : Option Addr} {C : Addr} {fs : List (Str × D)} {f : Str} {te : TE} {e : E3} (h : SE K (I.and K cls d C fs) te e) : SE K (I.and K cls d C fs) (tXfK K a cls d f te) (eXf K a C fs f e) := fun w σ s Q Q3 S h1 q =>
  h w σ s _ _ S h1 fun w1 v1 d1 L1 R1 V1 h2 => by
    obtain ⟨rfl, x1, x2, h2⟩ := h2
    obtain ⟨_, X⟩ := (I.and K cls d C fs).up L1 S.ok
    split at h2
    · rename_i d' hd
      obtain ⟨_, z⟩ | ⟨dd, fv, e1, e2, e3⟩ := X.dic
      · rw [z] at hd; cases hd
      obtain ⟨v, h3, h4⟩ := e3.look hd
      cases V1
      exact ⟨rfl, C, dd, fv, v, X.cls, x1, x2, e1, vis_le w1 _ _ e2, h3, q w1 v d' L1 R1 h4 h2⟩
    · exact h2.elim
/-- isinstance in the suite -/
def clsD : D → Option Value
  | .v (.ty n) => some (.type n)
  | .v (.ref C) => some (.ref C)
  | _ => none
def cIsX (K : PySem.W.Frag) (mg : Str → Option Value) (a C : Addr) : C3 := fun ds μ Q => w2 ds fun x y => match x with
  | .v (.ref b) => b = a ∧ ∃ cv r xn, clsD y = some cv ∧ PySem.W.kitOne K (.ref C) cv = some r ∧ ExK K mg xn C ∧ Q (.v (.bl r)) μ
  | x => cIsi [x, y] μ Q
theorem c_isx {a : Addr} {cls : Value} {d : Option Addr} {C : Addr} {fs : List (Str × D)} {mg : Str → Option Value} : SC K (I.and K cls d C fs) (rIsX K mg a cls d) (cIsX K mg a C) := fun w vs ds Q Q3 R ok r h q => by
  obtain ⟨v, u, d1, d2, rfl, rfl, r1, r2, h⟩ := w2_at r h
  obtain ⟨_, X⟩ := ok
  have old : cIsi [d1, d2] w.mu Q3 → rIsiP K [v, u] w.hp Q := fun h => c_isi (I := I) w [v, u] [d1, d2] Q Q3 R ‹_› (RvL.cons r1 (RvL.cons r2 .nil)) h q
  split at h
  · obtain ⟨rfl, cv, b, xn, e1, e2, e3, h⟩ := h
    cases r1
    refine .inl ⟨rfl, xn, C, cv, b, X.cls, e3, ?_, e2, X.dic.imp (fun z => z.1) (fun ⟨dd, fv, e4, e5, _⟩ => ⟨dd, fv, e4, vis_le w _ _ e5⟩), q w _ _ (.refl w) R (.v _) h⟩
    unfold clsD at e1
    split at e1
    · cases e1; cases r2; exact .ty _
    · cases e1; cases r2; exact .own _
    · cases e1
  · have z := old h
    unfold rIsX
    split
    · have e := ‹[v, u] = _›
      cases e
      exact .inr z
    · exact z
end
end Wb

set_option Elab.async false
set_option linter.all false
set_option maxRecDepth 100000
namespace Wb
open PySem PySem.Spec PyProof.Rows L2
theorem kb_ss : kitB "str" "str" = some true := by decide +kernel
theorem kb_si : kitB "str" "int" = some false := by decide +kernel
theorem kb_sb : kitB "str" "bool" = some false := by decide +kernel
theorem kb_sl : kitB "str" "list" = some false := by decide +kernel
theorem kb_st : kitB "str" "tuple" = some false := by decide +kernel
theorem kb_is : kitB "int" "str" = some false := by decide +kernel
theorem kb_ii : kitB "int" "int" = some true := by decide +kernel
theorem kb_ib : kitB "int" "bool" = some false := by decide +kernel
theorem kb_bs : kitB "bool" "str" = some false := by decide +kernel
theorem kb_bi : kitB "bool" "int" = some true := by decide +kernel
theorem kb_bb : kitB "bool" "bool" = some true := by decide +kernel
theorem kb_ns : kitB "NoneType" "str" = some false := by decide +kernel
theorem kb_ni : kitB "NoneType" "int" = some false := by decide +kernel
theorem kb_nb : kitB "NoneType" "bool" = some false := by decide +kernel
theorem kb_ls : kitB "list" "str" = some false := by decide +kernel
theorem kb_li : kitB "list" "int" = some false := by decide +kernel
theorem kb_lb : kitB "list" "bool" = some false := by decide +kernel
theorem kb_ll : kitB "list" "list" = some true := by decide +kernel
theorem kb_lt : kitB "list" "tuple" = some false := by decide +kernel
theorem kb_ts : kitB "tuple" "str" = some false := by decide +kernel
theorem kb_ti : kitB "tuple" "int" = some false := by decide +kernel
theorem kb_tl : kitB "tuple" "list" = some false := by decide +kernel
theorem kb_tt : kitB "tuple" "tuple" = some true := by decide +kernel
def szPost : True := trivial
def eRev (e : E3) : E3 := fun s μ Q => e s μ fun x μ1 => wSeq (seqL μ1 x) fun xs => Q (.lst xs.reverse) μ1
theorem s_rev {K : PySem.W.Frag} {I : Pre} {te : TE} {e : E3} (h : SE K I te e) : SE K I (tRevL K te) (eRev e) := fun w σ s Q Q3 S h1 q =>
  h w σ s _ _ S h1 fun w1 v d L1 R1 V1 h2 => by
    obtain ⟨xs, ex, h2⟩ := wSeq_at h2
    obtain ⟨a, vs, rfl, h3, h4⟩ := seqL_at R1 V1 ex
    refine ⟨a, vs, rfl, h3, fun p hp => ?_⟩
    obtain ⟨R2, L2, V2⟩ := sqL_new R1 hp h4.reverse
    exact q _ _ _ (L1.trans L2) R2 V2 h2
/-! ends of defs -/
section
variable {μ0 μ1 : Mu} {Q : K3} {E : X3} {d : D} {x : V} {C : Addr} {fs : List (Str × D)}
theorem rt_id (h : Q d μ0) : RtC μ0 Q d μ0 := .inl h
theorem rt_keep (h : Q d μ1) : RtC μ0 Q d μ1 := .inl h
/-- what was owned within is forgotten -/
theorem rt_drop {ν : Mu} (b : Bl μ0.length d) (h : Q d μ0) : RtC μ0 Q d (μ0 ++ ν) := .inr ⟨μ0.length, Nat.le_refl _, by simp, b, fun k c hk hc => by
  rw [List.getElem?_append_left hk] at hc; exact .inl hc, by rw [List.take_left]; exact h⟩
theorem xt_id (h : E C fs μ0) : XtC μ0 E C fs μ0 := .inl h
theorem xt_drop {ν : Mu} (b : ∀ x ∈ fs.map (·.2), Bl μ0.length x) (h : E C fs μ0) : XtC μ0 E C fs (μ0 ++ ν) := .inr ⟨μ0.length, Nat.le_refl _, by simp, b, fun k c hk hc => by
  rw [List.getElem?_append_left hk] at hc; exact .inl hc, by rw [List.take_left]; exact h⟩
theorem bl_strs {n : Nat} (xs : List Str) : Bl n (.lst (dStrs xs)) := .lst fun x hx => by
  obtain ⟨s, _, rfl⟩ := List.mem_map.mp hx; exact .v _
end
/-! owned things -/
theorem mu_new {μ : Mu} {c : OC} : (μ ++ [c])[List.length μ]? = some c := List.getElem?_concat_length
theorem mu_old {μ ν : Mu} {k : Nat} {c : OC} (h : μ[k]? = some c) : (μ ++ ν)[k]? = some c := by
  rw [List.getElem?_append_left (List.getElem?_eq_some_iff.mp h).1]; exact h
theorem mu_set {μ : Mu} {c c' : OC} : (μ ++ [c]).set (List.length μ) c' = μ ++ [c'] := by
  rw [List.set_append_right _ _ (Nat.le_refl _), Nat.sub_self]; rfl
/-! comprehensions -/
theorem dStrs_get (xs : List Str) (i : Nat) : (dStrs xs)[i]? = (xs[i]?).map fun s => D.v (.str s) := by unfold dStrs; rw [List.getElem?_map]
theorem dInts_get (xs : List Int) (i : Nat) : (dInts xs)[i]? = (xs[i]?).map fun s => D.v (.int s) := by unfold dInts; rw [List.getElem?_map]
theorem dStrs_len (xs : List Str) : (dStrs xs).length = xs.length := List.length_map _
theorem dInts_len (xs : List Int) : (dInts xs).length = xs.length := List.length_map _
theorem ints3_len (lo : Int) (n : Nat) : (ints3 lo n).length = n := by unfold ints3; simp
theorem ints3_get (lo : Int) (n i : Nat) : (ints3 lo n)[i]? = if i < n then some (.v (.int (lo + (i : Nat)))) else none := by
  unfold ints3
  rw [List.getElem?_map]
  by_cases h : i < n
  · rw [List.getElem?_range h, if_pos h]; rfl
  · rw [List.getElem?_eq_none (by simp; omega), if_neg h]; rfl
/-- a comprehension whose turns change nothing -/
theorem lc_map {vw : Vw} {all : List D} {b : D → Mu → (Option D → Mu → Prop) → Prop} {Q : List D → Mu → Prop} {μ : Mu} (f : D → Option D) (hv : vw μ = some all) (hl : all.length ≤ 1000000)
    (hb : ∀ x ∈ all, ∀ k : Option D → Mu → Prop, k (f x) μ → b x μ k) (hq : Q (all.filterMap f) μ) : lcE vw all b Q μ := by
  refine ⟨fun i acc μ' => μ' = μ ∧ acc = (all.take i).filterMap f, ⟨rfl, rfl⟩, ?_⟩
  rintro i acc μ' ⟨rfl, rfl⟩
  refine ⟨hv, ?_⟩
  cases e : all[i]? with
  | none =>
    have : all.length ≤ i := List.getElem?_eq_none_iff.mp e
    rw [List.take_of_length_le this]; exact hq
  | some x =>
    have ht : all.take (i + 1) = all.take i ++ [x] := by rw [List.take_add_one, e]; rfl
    refine hb x (List.mem_of_getElem? e) _ ?_
    cases h : f x with
    | none => exact ⟨rfl, by rw [ht, List.filterMap_append]; simp [h]⟩
    | some y =>
      refine ⟨ltl ?_, rfl, by rw [ht, List.filterMap_append]; simp [h]⟩
      have h1 := List.length_filterMap_le f (all.take i)
      have h3 : (all.take i).length ≤ all.length := by rw [List.length_take]; omega
      omega
/-- .. whose turns make things of a kind, and leave the owned things as they are -/
theorem lc_kind {vw : Vw} {all : List D} {b : D → Mu → (Option D → Mu → Prop) → Prop} {Q : List D → Mu → Prop} {μ : Mu} {α : Type} (t : α → D) (P : α → Prop) (hv : vw μ = some all) (hl : all.length ≤ 1000000)
    (hb : ∀ x ∈ all, ∀ k : Option D → Mu → Prop, (∀ a, P a → k (some (t a)) μ) → b x μ k) (hq : ∀ as : List α, as.length = all.length → (∀ a ∈ as, P a) → Q (as.map t) μ) : lcE vw all b Q μ := by
  refine ⟨fun i acc μ' => μ' = μ ∧ i ≤ all.length ∧ ∃ as : List α, as.length = i ∧ (∀ a ∈ as, P a) ∧ acc = as.map t, ⟨rfl, Nat.zero_le _, [], rfl, fun _ h => absurd h List.not_mem_nil, rfl⟩, ?_⟩
  rintro i acc μ' ⟨rfl, hi, as, h1, h2, rfl⟩
  refine ⟨hv, ?_⟩
  cases e : all[i]? with
  | none =>
    have : all.length ≤ i := List.getElem?_eq_none_iff.mp e
    exact hq as (by omega) h2
  | some x =>
    have hi2 : i < all.length := (List.getElem?_eq_some_iff.mp e).1
    refine hb x (List.mem_of_getElem? e) _ fun a ha => ⟨ltl (by rw [List.length_map]; omega), rfl, by omega, as ++ [a], by simp [h1], fun z hz => ?_, by simp⟩
    rcases List.mem_append.mp hz with z | z
    · exact h2 _ z
    · rw [List.mem_singleton.mp z]; exact ha
/-! loops -/
/-- over a list that stays; N: what a turn is to reach -/
theorem for_by {vw : Vw} {all : List D} {g : G3} {tb : S3} {D' : Ends3} {s : St3} {μ : Mu} (P : Nat → St3 → Mu → Prop) (h0 : P 0 s μ) (hv : ∀ i s μ, P i s μ → vw μ = some all)
    (hs : ∀ i x s μ, i < all.length → all[i]? = some x → P i s μ → ∀ N : St3 → Mu → Prop, (∀ s' μ', P (i + 1) s' μ' → N s' μ') → g x s μ fun s' μ' => tb { D' with nx := N, ct := N, bk := D'.nx } s' μ') (hd : ∀ s μ, P all.length s μ → D'.nx s μ) :
    ∃ P : Nat → St3 → Mu → Prop, P 0 s μ ∧ ForP vw all g tb D' P := by
  refine ⟨fun i s μ => i ≤ all.length ∧ P i s μ, ⟨Nat.zero_le _, h0⟩, ?_⟩
  rintro i s μ ⟨hi, hP⟩
  refine ⟨hv i s μ hP, ?_⟩
  cases e : all[i]? with
  | none =>
    have : all.length ≤ i := List.getElem?_eq_none_iff.mp e
    have : i = all.length := by omega
    subst this
    exact hd s μ hP
  | some x =>
    have hi2 : i < all.length := (List.getElem?_eq_some_iff.mp e).1
    exact hs i x s μ hi2 e hP _ fun s' μ' h => ⟨hi2, h⟩
/-- .. whose turns keep a word of the state, and may leave -/
theorem for_inv {vw : Vw} {all : List D} {g : G3} {tb : S3} {D' : Ends3} {s : St3} {μ : Mu} (P : St3 → Mu → Prop) (h0 : P s μ) (hv : ∀ s μ, P s μ → vw μ = some all)
    (hs : ∀ x s μ, x ∈ all → P s μ → ∀ N : St3 → Mu → Prop, (∀ s' μ', P s' μ' → N s' μ') → g x s μ fun s' μ' => tb { D' with nx := N, ct := N, bk := D'.nx } s' μ') (hd : ∀ s μ, P s μ → D'.nx s μ) :
    ∃ P : Nat → St3 → Mu → Prop, P 0 s μ ∧ ForP vw all g tb D' P :=
  for_by (fun _ => P) h0 (fun _ => hv) (fun i x s μ _ e hP => hs x s μ (List.mem_of_getElem? e) hP) hd
/-- while, by a word and a measure -/
theorem while_by3 {c : T3} {tb : S3} {D' : Ends3} {s : St3} {μ : Mu} (P : St3 → Mu → Prop) (m : St3 → Mu → Nat) (h0 : P s μ)
    (hs : ∀ s μ, P s μ → ∀ N : St3 → Mu → Prop, (∀ s' μ', P s' μ' → m s' μ' < m s μ → N s' μ') → ∀ B : Bool → Mu → Prop, (∀ μ1, tb { D' with nx := N, ct := N, bk := D'.nx } s μ1 → B true μ1) → (∀ μ1, D'.nx s μ1 → B false μ1) → c s μ B) : xWhile c tb D' s μ := by
  refine ⟨fun k s μ => k = m s μ ∧ P s μ, ⟨_, rfl, h0⟩, ?_⟩
  rintro k s μ ⟨rfl, hP⟩
  refine hs s μ hP (fun s' μ' => P s' μ' ∧ m s' μ' < m s μ) (fun s' μ' a b => ⟨a, b⟩) _ (fun μ1 h => iteT ⟨_, fun s' μ' h => ⟨_, h.2, rfl, h.1⟩, h⟩) fun μ1 h => iteF h
/-! menus -/
theorem ix_D {xs : List D} {i : Int} {P : D → Prop} (h0 : 0 ≤ i) (h1 : i < xs.length) (h : ∀ x ∈ xs, P x) : wSome (atI xs i) P := by
  have hl : i.toNat < xs.length := by omega
  rw [atI_nat' h0 (List.getElem?_eq_getElem hl)]
  exact h _ (List.getElem_mem hl)
theorem ix_strs {xs : List D} {ss : List Str} {i : Int} {P : D → Prop} (e : strsOf xs = some ss) (h0 : 0 ≤ i) (h1 : i < xs.length) (h : ∀ s ∈ ss, P (.v (.str s))) : wSome (atI xs i) P := by
  have := strsOf_eq e
  subst this
  refine ix_D h0 h1 fun x hx => ?_
  obtain ⟨s, hs, rfl⟩ := List.mem_map.mp hx
  exact h s hs
theorem ix_ints {xs : List D} {ss : List Int} {i : Int} {P : D → Prop} (e : intsOf xs = some ss) (h0 : 0 ≤ i) (h1 : i < xs.length) (h : ∀ s ∈ ss, P (.v (.int s))) : wSome (atI xs i) P := by
  have := intsOf_eq e
  subst this
  refine ix_D h0 h1 fun x hx => ?_
  obtain ⟨s, hs, rfl⟩ := List.mem_map.mp hx
  exact h s hs
/-- a sign of a text -/
theorem ix_sign {z : Str} {i : Int} {P : Nat → Prop} (h0 : 0 ≤ i) (h1 : i < z.length) (h : ∀ c ∈ TL.tl z, P c) : wSome (atI z.cps.toList i) P := by
  have hl : i.toNat < z.cps.toList.length := by show i.toNat < z.cps.size; have : z.length = z.cps.size := rfl; omega
  rw [atI_nat' h0 (List.getElem?_eq_getElem hl)]
  exact h _ (List.getElem_mem hl)
theorem lawSigns_ok : (Str.ofString " !\"#$&'()*+,-./0123456789:;<=>?@\x5b\\]^_`{|}~" ++ Str.ofString "abcdefghijklmnopqrstuvwxyz" ++ Txt.upper (Str.ofString "abcdefghijklmnopqrstuvwxyz")).length = 94 ∧ Gd (Str.ofString " !\"#$&'()*+,-./0123456789:;<=>?@\x5b\\]^_`{|}~" ++ Str.ofString "abcdefghijklmnopqrstuvwxyz" ++ Txt.upper (Str.ofString "abcdefghijklmnopqrstuvwxyz")) := ⟨by decide +kernel, gd_all (by decide +kernel)⟩
/-- texts joined of signs -/
theorem join_signs3 {cs : List Nat} {ys : List Str} (h : ∀ y ∈ ys, ∃ c ∈ cs, y = ⟨#[c]⟩) : (ys.map (·.length)).sum = ys.length ∧ (Txt.join (Str.ofString "") ys).length = ys.length ∧ ∀ c ∈ TL.tl (Txt.join (Str.ofString "") ys), c ∈ cs := join_signs h
end Wb
namespace Wb
open PySem PySem.Spec PyProof.Rows L2
theorem kb_ds : kitB "dict" "str" = some false := by decide +kernel
theorem kb_di : kitB "dict" "int" = some false := by decide +kernel
theorem kb_db : kitB "dict" "bool" = some false := by decide +kernel
theorem kb_dl : kitB "dict" "list" = some false := by decide +kernel
theorem kb_dt : kitB "dict" "tuple" = some false := by decide +kernel
end Wb
namespace Wb
open PySem PySem.Spec PyProof.Rows L2
section
variable {α : Type} {a b c d e f g h : α} {r : List α}
theorem at0 : atI (a :: r) 0 = some a := atI_nat' (by decide) rfl
theorem at1 : atI (a :: b :: r) 1 = some b := atI_nat' (by decide) rfl
theorem at2 : atI (a :: b :: c :: r) 2 = some c := atI_nat' (by decide) rfl
theorem at3 : atI (a :: b :: c :: d :: r) 3 = some d := atI_nat' (by decide) rfl
theorem at4 : atI (a :: b :: c :: d :: e :: r) 4 = some e := atI_nat' (by decide) rfl
theorem at5 : atI (a :: b :: c :: d :: e :: f :: r) 5 = some f := atI_nat' (by decide) rfl
theorem at6 : atI (a :: b :: c :: d :: e :: f :: g :: r) 6 = some g := atI_nat' (by decide) rfl
theorem at7 : atI (a :: b :: c :: d :: e :: f :: g :: h :: r) 7 = some h := atI_nat' (by decide) rfl
end
theorem vsOf_strs (xs : List Str) : vsOf (xs.map fun s => D.v (.str s)) = some (xs.map V.str) := vsOf_map V.str xs
end Wb

set_option Elab.async false
set_option linter.all false
set_option maxRecDepth 100000
/-! the end: the table of modules is known to the object, so that no new thing lies there -/
namespace Wb
open PySem PySem.Spec PyProof.Rows L2
def withSys (H : Hp) (o : Obj) : Hp := upd H sysModules (.frz o (.own 0))
theorem withSys_at {H : Hp} {o : Obj} : withSys H o sysModules = some (.frz o (.own 0)) := upd_same
theorem withSys_ne {H : Hp} {o : Obj} {b : Addr} (h : b ≠ sysModules) : withSys H o b = H b := upd_ne h
/-- a def that is told no repr is under way -/
theorem _root_.L2.FnOk.toG {P : Program} {w : World} {K : PySem.W.Frag} {mg : Str → Option Value} {base : Heap} {k : Nat} {f : Addr} {fd : FuncData} {ps : List Str} {sp : Sp} (F : FnOk P w K mg base CX0 k f fd ps sp) : FnG P w K mg base k f fd ps sp :=
  ⟨F.len, fun A outer s H args us vs Q E _ hr he hb hv hs => F.run A outer s H args us vs Q E hr he hb hv hs⟩
theorem law_callR {P : Program} {w : World} {K : PySem.W.Frag} {mg mb : Str → Option Value} {fa a : Addr} {fd : FuncData} {x : Str} {sp : Sp} {s₁ : Shared} {vs : List Value} {ns : List Int} {mm : Str → Option Value}
    (KX : K.In s₁.heap) (hns : s₁.heap.Ns mainGlobals mg) (hb : s₁.heap.Ns builtinsNs mb) (hbb : ∀ x : Str, x ≠ "__name__" → mb x = bootBuiltins x) (hlim : s₁.heap.NoLimit) (hg : s₁.gens = #[]) (hm : s₁.heap.Ns sysModules mm) (hK : K.lookup sysModules = none)
    (ha : s₁.heap.get? a = some { cls := .type "list", data := .seq vs.toArray }) (hi : IntsAre vs ns) (hl : ns.length ≤ sizeLine)
    (F : ∀ (base : Heap) (H : Hp) (args : Args) (us : List Value) (vs : List V) (Q : VK) (E : XK), K.In base → base.Ns mainGlobals mg → Env0 P w K mg base callerA [] s₁ H → BindsTo s₁ fd args ([x].zip us) → Vals vs us → sp vs H Q E → codeAny (model P w) callerA (.call (.ref fa) args) (CR CX0 [] P w H s₁ Q E) s₁) (hbind : ∀ (s : Shared) (u : Value), BindsTo s fd ⟨[u], []⟩ [(x, u)])
    (hsp : ∀ H : Hp, H sysModules ≠ none → a ≠ sysModules → SqL K H a (ns.map V.int) → sp [.ref a] H (fun v _ => v = .bl true) fun _ _ _ => False) :
    codeAny (model P w) callerA (.call (.ref fa) ⟨[.ref a], []⟩) (fun r s' => r = .ok (.ret (.bool true)) ∧ OldK s₁.heap s'.heap ∧ s'.os = s₁.os ∧ AllBare s'.gens) s₁ := by
  obtain ⟨H, S⟩ := alone_ex (P := P) (w := w) KX ha hi hl
  obtain ⟨k2, n2, e0⟩ := alone_env (mg := mg) S KX hns hb hbb hlim hg ha
  obtain ⟨oM, es, ep, hM, dM, rM⟩ := hm
  have na : a ≠ sysModules := fun z => by
    rw [z, hM] at ha
    cases ha
    cases dM
  have hH1 : H sysModules = none := by
    cases q : H sysModules with
    | none => rfl
    | some o => exact absurd (S.at_ sysModules (by rw [q]; exact nofun)) (Ne.symm na)
  have other : ∀ b, b ≠ sysModules → withSys H oM b = H b := fun b hb => withSys_ne hb
  -- the environment with one object more that is known
  have nsO : ∀ {b : Addr} {m : Str → Option Value}, b ≠ sysModules → s₁.heap.Ns b m → (hidT s₁.heap (withSys H oM)).Ns b m := fun {b m} nb ⟨o, es, ep, e, d, r⟩ => by
    refine ⟨o, es, ep, hidT_get e ?_, d, r⟩
    rw [other b nb]
    by_cases q : H b = none
    · exact q
    · have z := S.at_ b q
      subst z
      rw [ha] at e; cases e
      cases d
  have kO : K.In (hidT s₁.heap (withSys H oM)) := fun b o e => by
    have nb : b ≠ sysModules := fun z => by rw [z, hK] at e; cases e
    refine hidT_get (KX b o e) ?_
    rw [other b nb]
    by_cases q : H b = none
    · exact q
    · have z := S.at_ b q
      subst z
      rw [S.out q] at e; cases e
  obtain ⟨mc, l1, l2⟩ := hlim
  have okO : HOk P w (withSys H oM) s₁.heap := fun b u e => by
    by_cases hb : b = sysModules
    · subst hb
      rw [withSys_at] at e
      cases e
      exact ⟨hM, ⟨oM, hM⟩⟩
    · rw [other b hb] at e
      refine (S.ok b u e).stay (fun _ _ _ q => q) (fun c q => ?_) fun c xs q => ?_
      · by_cases hc : c = sysModules
        · subst hc; rw [hH1] at q; cases q
        · rw [other c hc]; exact q
      · by_cases hc : c = sysModules
        · subst hc; rw [hH1] at q; cases q
        · rw [other c hc]; exact q
  have eO : Env0 P w K mg (hidT s₁.heap (withSys H oM)) callerA [] s₁ (withSys H oM) :=
    ⟨rfl, ⟨kO, nsO (by decide) hns, ⟨mb, nsO (by decide) hb, hbb⟩, ⟨mc, nsO (by decide) l1, l2⟩⟩, fun b o e => of_hidT e, Nat.le_of_eq (hidT_size _ _), trivial, fun b z => (by cases z), okO, AllBare.of_eq hg⟩
  have sqO : SqL K (withSys H oM) a (ns.map V.int) := by
    rcases S.sq with (h | ⟨o, h⟩) | h
    · exact .inl (.inl (by rw [other a na]; exact h))
    · exact .inl (.inr ⟨o, by rw [other a na]; exact h⟩)
    · exact .inr h
  refine codeAny_mono (F _ (withSys H oM) ⟨[.ref a], []⟩ [.ref a] [.ref a] _ _ kO (nsO (by decide) hns) eO (hbind s₁ (.ref a)) (.cons rfl .nil) (hsp _ (by rw [withSys_at]; exact nofun) na sqO)) fun r s' h => ?_
  cases r with
  | error e => exact False.elim h
  | ok fl =>
    cases fl with
    | next => exact False.elim h
    | brk => exact False.elim h
    | cont => exact False.elim h
    | ret u =>
      obtain ⟨v, H', os, bare, un, hok', r', q⟩ := h
      have q' : v = .bl true := q
      subst q'
      obtain rfl : u = Value.bool true := r'
      refine ⟨rfl, OldK.of_keep fun b o e => ?_, os, bare⟩
      by_cases q : withSys H oM b = none
      · exact un.keep b o e q (fun z => by cases z) (by simp)
      · by_cases hb : b = sysModules
        · subst hb
          have e2 := (hok' _ _ (un.frzs _ _ _ withSys_at)).1
          rw [hM] at e; cases e
          exact e2
        · rw [other b hb] at q
          rcases S.only b with z | ⟨ob, xs, z⟩
          · exact absurd z q
          · have e1 := (S.ok b _ z).1
            have e2 := (hok' b _ (un.frzs b ob _ (by rw [other b hb]; exact z))).1
            rw [e] at e1; cases e1
            exact e2
theorem law_callS {P : Program} {w : World} {K : PySem.W.Frag} {mg mb : Str → Option Value} {k : Nat} {fa a : Addr} {fd : FuncData} {x : Str} {sp : Sp} {s₁ : Shared} {vs : List Value} {ns : List Int} {mm : Str → Option Value}
    (KX : K.In s₁.heap) (hns : s₁.heap.Ns mainGlobals mg) (hb : s₁.heap.Ns builtinsNs mb) (hbb : ∀ x : Str, x ≠ "__name__" → mb x = bootBuiltins x) (hlim : s₁.heap.NoLimit) (hg : s₁.gens = #[]) (hm : s₁.heap.Ns sysModules mm) (hK : K.lookup sysModules = none)
    (ha : s₁.heap.get? a = some { cls := .type "list", data := .seq vs.toArray }) (hi : IntsAre vs ns) (hl : ns.length ≤ sizeLine) (hr : Room k callerA)
    (F : ∀ base : Heap, K.In base → base.Ns mainGlobals mg → FnG P w K mg base k fa fd [x] sp) (hbind : ∀ (s : Shared) (u : Value), BindsTo s fd ⟨[u], []⟩ [(x, u)])
    (hsp : ∀ H : Hp, H sysModules ≠ none → a ≠ sysModules → SqL K H a (ns.map V.int) → sp [.ref a] H (fun v _ => v = .bl true) fun _ _ _ => False) :
    codeAny (model P w) callerA (.call (.ref fa) ⟨[.ref a], []⟩) (fun r s' => r = .ok (.ret (.bool true)) ∧ OldK s₁.heap s'.heap ∧ s'.os = s₁.os ∧ AllBare s'.gens) s₁ :=
  law_callR KX hns hb hbb hlim hg hm hK ha hi hl (fun base H args us vs Q E h1 h2 e b v q => (F base h1 h2).run callerA [] s₁ H args us vs Q E rfl hr e b v q) hbind hsp
theorem walk_ofS {l : PySem.W.OpenLaw} {n k : Nat} {q : Program} {loose : List Str} {XP : (Str → Option Value) → Heap → Prop} {YP : World → Heap → Prop} {d : DefRec} {K : Params → PySem.W.Frag} {sp : World → Sp} {x : Str}
    (hI : importsNone q = true) (hn : l.most = some n) (hn2 : n ≤ sizeLine) (hdf : d.params.defaults = []) (hr : Room k callerA)
    (hY : ∀ (w : World) (h : Heap), YP w h → (K w.params).In h) (hK : ∀ w : World, (K w.params).lookup sysModules = none)
    (F : ∀ (w : World) (mg : Str → Option Value) (fa : Addr) (h : Heap), (K w.params).In h → h.Ns mainGlobals mg → mg d.name = some (.ref fa) →
      ∃ fd : FuncData, (∀ (s : Shared) (u : Value), BindsTo s fd ⟨[u], []⟩ [(x, u)]) ∧
        ∀ base : Heap, (K w.params).In base → base.Ns mainGlobals mg → FnG l.prog w (K w.params) mg base k fa fd [x] (sp w))
    (hsp : ∀ (w : World) (H : Hp) (a : Addr) (ns : List Int), ns.length ≤ n → H sysModules ≠ none → a ≠ sysModules → SqL (K w.params) H a (ns.map V.int) → sp w [.ref a] H (fun v _ => v = .bl true) fun _ _ _ => False) :
    PySem.W.WalkO q loose XP YP l.row.toRowW d [] (fun f vs => PySem.call f vs) := by
  refine Att.attach_call hn hdf fun w s₀ s₁ mg mb fa o pm cd doc a vs ns G Y ho hd hcd hmg hobj hints hlen hg => ?_
  have KX := hY w _ Y
  obtain ⟨fd, hb, hF⟩ := F w mg fa _ KX G.T.g hmg
  obtain ⟨mm, hm, _⟩ := (G.T.seer hI).mods
  exact law_callS KX G.T.g G.T.b G.T.builtins G.T.nolimit hg hm (hK w) hobj hints (Nat.le_trans hlen hn2) hr hF hb fun H h1 h2 h3 => hsp w H a ns hlen h1 h2 h3
end Wb

set_option Elab.async false
set_option linter.all false
set_option maxRecDepth 100000
/-! instances, dict displays, tuples of the module, repr of data -/
namespace Wb
open PySem PySem.Spec PyProof.Rows L2
/-! ### below the level of data: a field of an instance of a class that is known -/
def tFldC (C : Addr) (ta : TE) (f : Str) : TE := fun σ H Q => ta σ H fun x H1 => ∃ a dx fs v, x = .ref a ∧ H1 a = some (.ins C dx fs) ∧ fs.lookup f = some v ∧ Q v H1
def sFldC (C : Addr) (ta tv : TE) (f : Str) : TS := fun D σ H => tv σ H fun y H1 => ta σ H1 fun x H2 => ∃ a dx fs, x = .ref a ∧ H2 a = some (.ins C dx fs) ∧ fs.length < 1000 ∧ D.nx σ (upd H2 a (.ins C dx (putF f y fs)))
section
variable {X : Cx} {o e value : Expr} {f : Str} {pos pos' : Pos} {ta tv : TE} {C : Addr} {K : PySem.W.Frag}
theorem pe_fldC (hK : X.K = K) (cl : Cls K C) (na : NoAttr K C f) (he : PE X e ta) (hb : attributeBase e f X.env (eval e X.env) = eval e X.env := by rfl) : PE X (.Attribute e f pos) (tFldC C ta f) := by
  subst hK
  refine ⟨fun pins s σ H Q I h => attr_of hb (thn (he.run pins s σ H _ I h) fun u s1 z => ?_)⟩
  obtain ⟨x, H1, I1, rx, a, dx, fs, v, rfl, ea, l, q⟩ := z
  cases rx
  exact getattr_ok I1 ea cl na l fun u' s2 I2 ru => ⟨v, H1, I2, ru, q⟩
theorem ps_fldC (hK : X.K = K) (cl : Cls K C) (na : NoAttr K C f) (ha : PE X o ta) (hv : PE X value tv) (hs : swapsWith value (some (.Attribute o f pos')) pos.line X.env = pure false := by rfl) : PS X (.Assign [.Attribute o f pos'] value pos) (sFldC C ta tv f) := by
  subst hK
  refine ⟨fun pins s σ H D I h => plainObj_wpAny_Assign_Attribute (thn (hv.run pins s σ H _ I h) fun u s1 z => ?_) hs⟩
  obtain ⟨y, H1, I1, ry, q⟩ := z
  refine thn (ha.run pins s1 σ H1 _ I1 q) fun ov s2 z => ?_
  obtain ⟨x, H2, I2, rx, a, dx, fs, rfl, ea, l, q2⟩ := z
  cases rx
  exact setattr_ok I2 ea cl na l ry fun s3 I3 => ⟨σ, _, I3, q2⟩
end
/-! ### fields of data -/
def insF (μ : Mu) : D → Option (Addr × List (Str × D))
  | .ins C fs => some (C, fs)
  | .o k => match μ[k]? with
    | some (.ins C fs) => some (C, fs)
    | _ => none
  | _ => none
def wIns (o : Option (Addr × List (Str × D))) (k : Addr → List (Str × D) → Prop) : Prop := match o with
  | some (C, fs) => k C fs
  | none => False
theorem wIns_at {o : Option (Addr × List (Str × D))} {k : Addr → List (Str × D) → Prop} (h : wIns o k) : ∃ C fs, o = some (C, fs) ∧ k C fs := by
  unfold wIns at h
  split at h
  · exact ⟨_, _, rfl, h⟩
  · exact h.elim
section
variable {K : PySem.W.Frag} {I : Pre}
theorem insF_at {w : Wo} {v : V} {d : D} {C : Addr} {fs : List (Str × D)} (R : Rep K w) (r : w.rv K v d) (e : insF w.mu d = some (C, fs)) : ∃ a dx fv, v = .ref a ∧ w.hp a = some (.ins C dx fv) ∧ RvP K w.al w.mu.length w.vis fv fs := by
  cases r with
  | ins hs hl h =>
    cases e
    exact ⟨_, _, _, rfl, vis_le w _ _ hs, ⟨hl, h⟩⟩
  | o k hk =>
    unfold insF at e
    dsimp only at e
    split at e
    · rename_i C fs hx
      cases e
      obtain ⟨dx, vs, a, b⟩ := R.cell k _ hx
      exact ⟨_, dx, vs, rfl, a, b⟩
    · cases e
  | _ => cases e
def eFld (C : Addr) (f : Str) (ea : E3) : E3 := fun s μ Q => ea s μ fun x μ1 => wIns (insF μ1 x) fun C' fs => C' = C ∧ wSome (fs.lookup f) fun d => Q d μ1
theorem s_fld {C : Addr} {f : Str} {ta : TE} {ea : E3} (ha : SE K I ta ea) : SE K I (tFldC C ta f) (eFld C f ea) := fun w σ s Q Q3 S h q =>
  ha w σ s _ _ S h fun w1 v1 d1 L1 R1 V1 h1 => by
    obtain ⟨C', fs, e, rfl, h1'⟩ := wIns_at h1
    obtain ⟨d, hd, h1''⟩ := wSome_at h1'
    obtain ⟨a, dx, fv, rfl, h2, h3⟩ := insF_at R1 V1 e
    obtain ⟨v, h4, h5⟩ := h3.look hd
    exact ⟨a, dx, fv, v, rfl, h2, h4, q w1 v d L1 R1 h5 h1''⟩
def putD (f : Str) (v : D) : List (Str × D) → List (Str × D)
  | [] => [(f, v)]
  | (g, x) :: r => if g = f then (g, v) :: r else (g, x) :: putD f v r
theorem putD_rv {al : Nat → Addr} {n : Nat} {H : Hp} {f : Str} {v : V} {d : D} (rv : Rv K al n H v d) : ∀ {fs : List (Str × V)} {ds : List (Str × D)}, RvP K al n H fs ds → RvP K al n H (putF f v fs) (putD f d ds)
  | [], [], _ => ⟨rfl, fun i v' d' a b => by
    cases i with
    | zero => simp [putF, putD] at a b; subst a b; exact rv
    | succ i => simp [putF] at a⟩
  | [], _ :: _, h => by have := h.keys; simp at this
  | _ :: _, [], h => by have := h.keys; simp at this
  | (g, x) :: r, (g', y) :: t, h => by
    have hk := h.keys
    simp only [List.map_cons, List.cons.injEq] at hk
    obtain ⟨rfl, hk⟩ := hk
    have hx : Rv K al n H x y := h.at_ 0 x y rfl rfl
    have ht : RvP K al n H r t := ⟨hk, fun i v d a b => h.at_ (i + 1) v d (by simpa using a) (by simpa using b)⟩
    unfold putF putD
    by_cases e : g = f
    · rw [if_pos e, if_pos e]
      exact ⟨by simp [hk], fun i v' d' a b => by
        cases i with
        | zero => simp at a b; subst a b; exact rv
        | succ i => exact ht.at_ i v' d' (by simpa using a) (by simpa using b)⟩
    · rw [if_neg e, if_neg e]
      have ih := putD_rv (f := f) rv ht
      exact ⟨by simp [ih.keys], fun i v' d' a b => by
        cases i with
        | zero => simp at a b; subst a b; exact hx
        | succ i => exact ih.at_ i v' d' (by simpa using a) (by simpa using b)⟩
theorem put_ins {w : Wo} {k : Nat} {C dx : Addr} {fs : List (Str × D)} {fv : List (Str × V)} {c0 : OC} (R : Rep K w) (h : w.mu[k]? = some c0) (l0 : c0.live = true) (r : RvP K w.al w.mu.length w.vis fv fs) :
    Rep K (w.put k (.ins C fs) (.ins C dx fv)) ∧ Lt w (w.put k (.ins C fs) (.ins C dx fv)) := R.put h l0 rfl fun L => ⟨dx, fv, upd_same, L.rp r⟩
def xFld (C : Addr) (f : Str) (ea ev : E3) : S3 := fun D s μ => ev s μ fun y μ1 => ea s μ1 fun x μ2 => match x with
  | .o k => (match μ2[k]? with
    | some (.ins C' fs) => C' = C ∧ fs.length < 1000 ∧ D.nx s (μ2.set k (.ins C (putD f y fs)))
    | _ => False)
  | _ => False
theorem x_fld {C : Addr} {f : Str} {ta tv : TE} {ea ev : E3} (ha : SE K I ta ea) (hv : SE K I tv ev) : SS K I (sFldC C ta tv f) (xFld C f ea ev) := fun w σ s D D3 S h q =>
  hv w σ s _ _ S h fun w1 v1 d1 L1 R1 V1 h1 => ha w1 σ s _ _ (S.to L1 R1) h1 fun w2 v2 d2 L2 R2 V2 h2 => by
    split at h2
    · split at h2
      · rename_i k _ C' fs hx
        obtain ⟨rfl, hl, h2⟩ := h2
        obtain ⟨dx, fv, h3, h4⟩ := R2.cell k _ hx
        cases V2
        obtain ⟨R3, L3⟩ := put_ins (C := C') (dx := dx) R2 hx rfl (putD_rv (f := f) (L2.rv V1) h4)
        have hfl : fv.length = fs.length := by have := congrArg List.length h4.keys; simpa using this
        have L := L1.trans (L2.trans L3)
        exact ⟨_, dx, fv, rfl, h3, by omega, q.nx _ σ s L R3 (S.rvs.up L) h2⟩
      · exact h2.elim
    · exact h2.elim
/-! calls of methods -/
def eMeth (C : Addr) (m : Str) (sp : Sp3) (dds : List V) (X : X3) (ea : E3) (a : A3) : E3 := fun s μ Q => ea s μ fun x μ1 => wIns (insF μ1 x) fun C' fs => (C' = C ∧ fs.lookup m = none) ∧ a s μ1 fun ds μ2 => sp (x :: (ds ++ dds.map D.v)) μ2 Q X
theorem look_none {f : Str} : ∀ {fv : List (Str × V)} {fs : List (Str × D)}, fv.map (·.1) = fs.map (·.1) → fs.lookup f = none → fv.lookup f = none
  | [], _, _, _ => rfl
  | _ :: _, [], hk, _ => by simp at hk
  | (f2, v2) :: u, (f1, d1) :: t, hk, e => by
    simp only [List.map_cons, List.cons.injEq] at hk
    obtain ⟨h1, h2⟩ := hk
    subst h1
    rw [List.lookup_cons] at e ⊢
    split at e
    · cases e
    · exact look_none h2 e
theorem RvP.lookN {al : Nat → Addr} {n : Nat} {H : Hp} {fv : List (Str × V)} {fs : List (Str × D)} {f : Str} (r : RvP K al n H fv fs) (e : fs.lookup f = none) : fv.lookup f = none := look_none r.keys e
theorem s_meth {C : Addr} {m : Str} {sp : Sp3} {dvs : List V} {ta : TE} {t : TA} {ea : E3} {a : A3} (ha : SE K I ta ea) (ht : SA K I t a) : SE K I (tMeth C m (lift K sp) dvs E0 ta t) (eMeth C m sp dvs E03 ea a) := fun w σ s Q Q3 S h q =>
  ha w σ s _ _ S h fun w1 v1 d1 L1 R1 V1 h1 => by
    obtain ⟨C', fs, e, ⟨rfl, hn⟩, h1'⟩ := wIns_at h1
    obtain ⟨a, dx, fv, rfl, h2, h3⟩ := insF_at R1 V1 e
    refine ⟨a, dx, fv, rfl, h2, h3.lookN hn, ht w1 σ s _ _ (S.to L1 R1) h1' fun w2 vs ds L2 R2 V2 h4 => ?_⟩
    exact ⟨w2, d1 :: (ds ++ dvs.map D.v), Q3, E03, rfl, R2, RvL.cons (L2.rv V1) (V2.append (.vals dvs)), h4, q.up (L1.trans L2), fun _ _ _ _ _ _ _ _ z => z.elim⟩
/-- a method that may raise, in a def -/
def tMethE (C : Addr) (m : Str) (sp : Sp) (dvs : List V) (E : XK) (ta : TE) (t : TA) : TE := tMeth C m sp dvs E ta t
theorem s_methX {C : Addr} {m : Str} {sp : Sp3} {dvs : List V} {ta : TE} {t : TA} {ea : E3} {a : A3} {E : XK} {E3 : X3} (hE : ∀ w, I.ok w → PostX K w E E3) (ha : SE K I ta ea) (ht : SA K I t a) : SE K I (tMeth C m (lift K sp) dvs E ta t) (eMeth C m sp dvs E3 ea a) := fun w σ s Q Q3 S h q =>
  ha w σ s _ _ S h fun w1 v1 d1 L1 R1 V1 h1 => by
    obtain ⟨C', fs, e, ⟨rfl, hn⟩, h1'⟩ := wIns_at h1
    obtain ⟨a, dx, fv, rfl, h2, h3⟩ := insF_at R1 V1 e
    refine ⟨a, dx, fv, rfl, h2, h3.lookN hn, ht w1 σ s _ _ (S.to L1 R1) h1' fun w2 vs ds L2 R2 V2 h4 => ?_⟩
    exact ⟨w2, d1 :: (ds ++ dvs.map D.v), Q3, E3, rfl, R2, RvL.cons (L2.rv V1) (V2.append (.vals dvs)), h4, q.up (L1.trans L2), hE w2 (I.up (L1.trans L2) S.ok)⟩
/-! new instances -/
/-- what the __init__ must do so that a made instance may be told as data -/
def Makes (C : Addr) (spI spF : Sp3) : Prop := ∀ ds μ Q E, spF ds μ Q E → spI (.o μ.length :: ds) (μ ++ [.ins C []]) (fun d μ2 => d = .v .non ∧ ∃ fs, μ2 = μ ++ [.ins C fs] ∧ (∀ x ∈ fs.map (·.2), Bl μ.length x) ∧ Q (.ins C fs) μ) (fun C' fs μ2 => ∃ c, μ2 = μ ++ [c] ∧ (∀ x ∈ fs.map (·.2), Bl μ.length x) ∧ E C' fs μ)
def eMake (spF : Sp3) (dds : List V) (E : X3) (a : A3) : E3 := fun s μ Q => a s μ fun ds μ1 => spF (ds ++ dds.map D.v) μ1 Q E
theorem cut_of {w w0 : Wo} {c : OC} {μ : Mu} (R : Rep K w) (L : Lt w0 w) (e : w.mu = μ ++ [c]) (e0 : w0.mu = μ) (R0 : Rep K w0) : Rep K (w.cut μ.length) ∧ Lt w0 (w.cut μ.length) ∧ (w.cut μ.length).mu = μ := by
  have hl : w.mu.length = μ.length + 1 := by rw [e]; simp
  obtain ⟨R2, L2⟩ := R.cut L (m := μ.length) (by omega) (by rw [e0]; exact Nat.le_refl _) fun k c' hk hc => by
    rw [e, List.getElem?_append_left hk] at hc
    have := BlC.of_cell (R0.cell k c' (by rw [e0]; exact hc))
    rwa [e0] at this
  exact ⟨R2, L2, by show w.mu.take μ.length = μ; rw [e, List.take_left]⟩
theorem made_run {C : Addr} {spI spF : Sp3} (hM : Makes C spI spF) {w : Wo} {vs : List V} {ds : List D} {Q : VK} {Q3 : K3} {E : XK} {E3 : X3} (R : Rep K w) (V : w.rl K vs ds) (h : spF ds w.mu Q3 E3) (q : Post K w Q Q3) (hE : PostX K w E E3)
    (x dx : Addr) (hx : w.hp x = none) (hdx : w.hp dx = none) (ne : dx ≠ x) : lift K spI (.ref x :: vs) (upd (upd w.hp dx (.own x)) x (.ins C dx [])) (fun v H2 => v = .non ∧ Q (.ref x) H2) E := by
  have E0' : Ex w.hp (upd (upd w.hp dx (.own x)) x (.ins C dx [])) := fun b o hb => by
    rw [upd_ne (ne_of_none hb hx), upd_ne (ne_of_none hb hdx)]; exact hb
  obtain ⟨R1, L1⟩ := R.push (c := .ins C []) E0' hx (by rw [upd_same]; exact nofun) fun L => ⟨dx, [], by
    show upd (upd w.hp dx (.own x)) x (.ins C dx []) (if w.mu.length = w.mu.length then x else _) = _
    rw [if_pos rfl, upd_same], ⟨rfl, fun i v d a => by simp at a⟩⟩
  let w1 := w.push x (.ins C []) (upd (upd w.hp dx (.own x)) x (.ins C dx []))
  have ex : w1.al w.mu.length = x := if_pos rfl
  have V1 := Rv.o (K := K) (al := w1.al) (n := w1.mu.length) (H := w1.vis) w.mu.length (by show _ < (w.mu ++ [_]).length; simp)
  rw [ex] at V1
  refine ⟨w1, .o w.mu.length :: ds, _, _, rfl, R1, RvL.cons V1 (L1.rl V), hM ds w.mu Q3 E3 h, fun w2 v d L2 R2 V2 h2 => ?_, fun w2 cls dd C' fs L2 R2 X2 h2 => ?_⟩
  · obtain ⟨rfl, fs, em, hb, hq⟩ := h2
    cases V2
    refine ⟨rfl, ?_⟩
    have hk : w2.mu[w.mu.length]? = some (.ins C fs) := by rw [em, List.getElem?_concat_length]
    obtain ⟨R3, L3, V3⟩ := frzI_at R2 hk
    have em3 : (w2.kill w.mu.length).mu = w.mu ++ [.dead] := by
      show w2.mu.set w.mu.length .dead = _
      rw [em, List.set_append_right _ _ (Nat.le_refl _), Nat.sub_self]; rfl
    obtain ⟨R4, L4, em4⟩ := cut_of R3 (L1.trans (L2.trans L3)) em3 rfl R
    have e2 : w2.al w.mu.length = x := by
      rw [L2.al w.mu.length (by show _ < (w.mu ++ [_]).length; simp)]; exact ex
    rw [e2] at V3
    refine q ((w2.kill w.mu.length).cut w.mu.length) _ (.ins C fs) L4 R4 ?_ (by rw [em4]; exact hq)
    show Rv K _ ((w2.kill w.mu.length).cut w.mu.length).mu.length _ _ _
    rw [em4]
    exact V3.down (.ins hb) (cut_ex _ _)
  · obtain ⟨c, em, hb, hq⟩ := h2
    obtain ⟨R4, L4, em4⟩ := cut_of R2 (L1.trans L2) em rfl R
    refine hE (w2.cut w.mu.length) cls dd C' fs L4 R4 ⟨X2.cls, ?_⟩ (by rw [em4]; exact hq)
    refine X2.dic.imp (fun z => z) fun ⟨a, fv, e, x1, y⟩ => ⟨a, fv, e, cut_ex _ _ _ _ x1, ?_⟩
    show RvP K _ (w2.cut w.mu.length).mu.length _ fv fs
    rw [em4]
    exact y.down hb (cut_ex _ _)
theorem s_make {C : Addr} {spI spF : Sp3} {dvs : List V} {t : TA} {a : A3} {E : XK} {E3 : X3} (hM : Makes C spI spF) (hE : ∀ w, I.ok w → PostX K w E E3) (ht : SA K I t a) : SE K I (tMake C (lift K spI) dvs E t) (eMake spF dvs E3 a) := fun w σ s Q Q3 S h q =>
  ht w σ s _ _ S h fun w1 vs ds L1 R1 V1 h1 x dx hx hdx ne => made_run hM R1 (V1.append (.vals dvs)) h1 (q.up L1) (hE w1 (I.up L1 S.ok)) x dx hx hdx ne
/-- .. with keywords -/
def eMakeN (spF : Sp3) (n m : Nat) (g : List D → List D → List D) (E : X3) (a k : A3) : E3 := fun s μ Q => a s μ fun ds μ1 => k s μ1 fun es μ2 => ds.length = n ∧ es.length = m ∧ spF (g ds es) μ2 Q E
theorem pickL_rl {w : Wo} {vs : List V} {ds : List D} (r : w.rl K vs ds) : ∀ idx : List Nat, w.rl K (pickL idx vs) (pickL idx ds)
  | [] => .nil
  | i :: t => by
    have ih := pickL_rl r t
    show w.rl K (List.filterMap _ (i :: t)) (List.filterMap _ (i :: t))
    rw [List.filterMap_cons, List.filterMap_cons]
    cases e : ds[i]? with
    | none =>
      have : vs[i]? = none := List.getElem?_eq_none (by rw [r.len]; exact List.getElem?_eq_none_iff.mp e)
      rw [this]; exact ih
    | some d =>
      obtain ⟨v, h1, h2⟩ := r.get e
      rw [h1]; exact RvL.cons h2 ih
theorem s_makeN {C : Addr} {spI spF : Sp3} {n m : Nat} {idx : List Nat} {dvs : List V} {t tk : TA} {a k : A3} {E : XK} {E3 : X3} (hM : Makes C spI spF) (hE : ∀ w, I.ok w → PostX K w E E3) (ht : SA K I t a) (hk : SA K I tk k)
    (g3 : List D → List D → List D) (hg : ∀ (d0 : D) (ds es : List D), ds.length = n → es.length = m → pickL idx ((d0 :: ds) ++ dvs.map D.v ++ es) = d0 :: g3 ds es) :
    SE K I (tMakeN C n m (lift K spI) (fun vs zs => pickL idx (vs ++ dvs ++ zs)) E t tk) (eMakeN spF n m g3 E3 a k) := fun w σ s Q Q3 S h q =>
  ht w σ s _ _ S h fun w1 vs ds L1 R1 V1 h1 => hk w1 σ s _ _ (S.to L1 R1) h1 fun w2 zs es L2 R2 V2 h2 => by
    obtain ⟨l1, l2, h2⟩ := h2
    refine ⟨by rw [(L2.rl V1).len]; exact l1, by rw [V2.len]; exact l2, fun x dx hx hdx ne => ?_⟩
    have L := L1.trans L2
    have base := RvL.append (RvL.append (RvL.cons (.v (.ref x)) (L2.rl V1)) (RvL.vals dvs)) V2
    have p1 := pickL_rl base idx
    rw [hg (.v (.ref x)) ds es l1 l2] at p1
    have hne : ∃ r, pickL idx (V.ref x :: vs ++ dvs ++ zs) = .ref x :: r ∧ w2.rl K r (g3 ds es) := by
      cases e : pickL idx (V.ref x :: vs ++ dvs ++ zs) with
      | nil => rw [e] at p1; have := p1.len; simp at this
      | cons y r =>
        rw [e] at p1
        have h3 := p1.head
        cases h3
        exact ⟨r, rfl, p1.tail⟩
    obtain ⟨r, e, hr⟩ := hne
    show lift K spI (pickL idx (V.ref x :: vs ++ dvs ++ zs)) _ _ _
    rw [e]
    exact made_run hM R2 hr h2 (q.up L) (hE w2 (I.up L S.ok)) x dx hx hdx ne
/-! a tuple of the module -/
def eD (d : D) : E3 := fun _ μ Q => Q d μ
theorem s_kt {a : Addr} {xs : List V} (h : ∀ H, SqT K H a xs) : SE K I (tC (.ref a)) (eD (.tup (xs.map D.v))) := fun w σ s Q Q3 S h1 q =>
  q w _ _ (.refl w) S.rep (.tup (h _) (RvL.vals xs (K := K) (al := w.al) (n := w.mu.length) (H := w.vis)).len (RvL.vals xs).at_) h1
end
end Wb

set_option Elab.async false
set_option linter.all false
set_option maxRecDepth 100000
/-! dict displays; repr of data, dicts among it -/
namespace Wb
open PySem PySem.Spec PyProof.Rows L2
section
variable {K : PySem.W.Frag} {I : Pre} {w w1 : Wo} {a : Addr}
theorem veil_out {o : HO} (h0 : sysModules ∈ w.hx) (R : Rep K w1) (L : LtV a w w1) (h : w1.hp a = some o) :
    Rep K (w1.unveil w.hx) ∧ Lt w (w1.unveil w.hx) ∧ Ex w1.vis (w1.unveil w.hx).vis ∧ (w1.unveil w.hx).vis a = some o := by
  have E : Ex w1.vis (w1.unveil w.hx).vis := fun b u z => by
    obtain ⟨h1, h2⟩ := vis_some z
    refine vis_of (w := w1.unveil w.hx) h1 fun q => h2 ?_
    rcases q with q | q
    · exact .inl q
    · exact .inr (by rw [L.hx]; exact List.mem_cons_of_mem _ q)
  have ha : ¬ (w1.unveil w.hx).hid a := fun q => by
    rcases q with ⟨k, c, e1, _, e2⟩ | q
    · exact R.hxa k (lt_of_get e1) (by rw [show w1.al k = a from e2, L.hx]; exact List.mem_cons_self)
    · exact L.na q
  refine ⟨⟨R.inj, R.there, fun b hb => R.hxn b (by rw [L.hx]; exact List.mem_cons_of_mem _ hb), fun k hk z => R.hxa k hk (by rw [L.hx]; exact List.mem_cons_of_mem _ z), h0, fun k c hc => ?_⟩, ⟨L.le, L.al, L.ex.trans E, rfl, L.hk⟩, E, vis_of (w := w1.unveil w.hx) h ha⟩
  have q := R.cell k c hc
  cases c with
  | lst ds => obtain ⟨vs, x, y⟩ := q; exact ⟨vs, x, y.up (Nat.le_refl _) (fun _ _ => rfl) E⟩
  | dic ds => obtain ⟨vs, x, y⟩ := q; exact ⟨vs, x, y.up (Nat.le_refl _) (fun _ _ => rfl) E⟩
  | ins C ds => obtain ⟨dx, vs, x, y⟩ := q; exact ⟨dx, vs, x, y.up (Nat.le_refl _) (fun _ _ => rfl) E⟩
  | inv P => exact q
  | tab P nm => obtain ⟨a0, ps, x, y⟩ := q; exact ⟨a0, ps, x, y.up E⟩
  | dead => trivial
/-! pairs -/
def ePairs : List (E3 × E3) → St3 → Mu → (List (D × D) → Mu → Prop) → Prop
  | [], _, μ, Q => Q [] μ
  | (k, v) :: r, s, μ, Q => k s μ fun x μ1 => v s μ1 fun y μ2 => ePairs r s μ2 fun ps μ3 => Q ((x, y) :: ps) μ3
inductive SPs (K : PySem.W.Frag) (I : Pre) : List (TE × TE) → List (E3 × E3) → Prop
  | nil : SPs K I [] []
  | cons {tk tv : TE} {ek ev : E3} {tr : List (TE × TE)} {er : List (E3 × E3)} : SE K I tk ek → SE K I tv ev → SPs K I tr er → SPs K I ((tk, tv) :: tr) ((ek, ev) :: er)
structure RvQ (K : PySem.W.Frag) (w : Wo) (ps : List (V × V)) (qs : List (D × D)) : Prop where
  a : w.rl K (ps.map (·.1)) (qs.map (·.1))
  b : w.rl K (ps.map (·.2)) (qs.map (·.2))
theorem pairs_run {trs : List (TE × TE)} {ers : List (E3 × E3)} (h : SPs K I trs ers) : ∀ (w : Wo) (σ : L2.St) (s : St3) (Q : List (V × V) → Hp → Prop) (Q3 : List (D × D) → Mu → Prop), Sr K I w σ s → ePairs ers s w.mu Q3 → (∀ w' ps qs, Lt w w' → Rep K w' → RvQ K w' ps qs → Q3 qs w'.mu → Q ps w'.hp) → tPairs trs σ w.hp Q := by
  induction h with
  | nil => exact fun w σ s Q Q3 S h q => q w [] [] (.refl w) S.rep ⟨.nil, .nil⟩ h
  | cons hk hv _ ih =>
    exact fun w σ s Q Q3 S h q => hk w σ s _ _ S h fun w1 x dx L1 R1 V1 h1 => hv w1 σ s _ _ (S.to L1 R1) h1 fun w2 y dy L2 R2 V2 h2 => ih w2 σ s _ _ (S.to (L1.trans L2) R2) h2 fun w3 ps qs L3 R3 V3 h3 =>
      q w3 ((x, y) :: ps) ((dx, dy) :: qs) (L1.trans (L2.trans L3)) R3 ⟨RvL.cons ((L2.trans L3).rv V1) V3.a, RvL.cons (L3.rv V2) V3.b⟩ h3
def keyD : Key → D
  | .inl i => .v (.int i)
  | .inr x => .v (.str x)
/-- keys that are ints and texts -/
def keysOf : List (D × D) → Option (List (Key × D))
  | [] => some []
  | (.v (.int i), d) :: r => (keysOf r).map ((.inl i, d) :: ·)
  | (.v (.str s), d) :: r => (keysOf r).map ((.inr s, d) :: ·)
  | _ => none
theorem keysOf_rv : ∀ {qs : List (D × D)} {ps : List (V × V)} {kvs : List (Key × D)} {w : Wo}, keysOf qs = some kvs → RvQ K w ps qs → ∃ kv : List (Key × V), ps = kv.map (fun p => (kV p.1, p.2)) ∧ kv.map (·.1) = kvs.map (·.1) ∧ w.rl K (kv.map (·.2)) (kvs.map (·.2))
  | [], ps, kvs, w, e, r => by
    cases e
    have := r.a.unnil
    have : ps = [] := List.map_eq_nil_iff.mp this
    subst this
    exact ⟨[], rfl, rfl, .nil⟩
  | (k, d) :: t, ps, kvs, w, e, r => by
    cases ps with
    | nil => have := r.a.len; simp at this
    | cons p ps =>
      obtain ⟨x, y⟩ := p
      have rk : w.rv K x k := r.a.head
      have rd : w.rv K y d := r.b.head
      have rt : RvQ K w ps t := ⟨r.a.tail, r.b.tail⟩
      unfold keysOf at e
      split at e
      · rename_i hh
        cases hh
      · rename_i i d' r' hh
        cases hh
        cases q : keysOf t with
        | none => rw [q] at e; cases e
        | some m =>
          rw [q] at e; cases e
          obtain ⟨kv, h1, h2, h3⟩ := keysOf_rv q rt
          cases rk
          exact ⟨(.inl i, y) :: kv, by rw [h1]; rfl, by simp [h2], RvL.cons rd h3⟩
      · rename_i i d' r' hh
        cases hh
        cases q : keysOf t with
        | none => rw [q] at e; cases e
        | some m =>
          rw [q] at e; cases e
          obtain ⟨kv, h1, h2, h3⟩ := keysOf_rv q rt
          cases rk
          exact ⟨(.inr i, y) :: kv, by rw [h1]; rfl, by simp [h2], RvL.cons rd h3⟩
      · cases e
def eDisp (ps : List (E3 × E3)) : E3 := fun s μ Q => ePairs ps s μ fun qs μ1 => wSome (keysOf qs) fun kvs => (kvs.length ≤ 15 ∧ decide (kvs.map (·.1)).Nodup = true) ∧ Q (.dic kvs) μ1
theorem s_disp {trs : List (TE × TE)} {ers : List (E3 × E3)} (h : SPs K Pre.top trs ers) : SE K I (tDisp trs) (eDisp ers) := fun w σ s Q Q3 S h1 q p hp => by
  obtain ⟨R1, L1⟩ := veil_new (o := .dK []) S.rep hp
  have hm : p ∈ (w.veil p (upd w.hp p (.dK []))).hx := List.mem_cons_self
  refine pairs_run h (w.veil p (upd w.hp p (.dK []))) σ s _ _ ⟨R1, L1.rs S.rvs, trivial⟩ h1 fun w2 ps qs L2 R2 V2 h2 => ?_
  obtain ⟨kvs, ek, ⟨hl, hn⟩, h2⟩ := wSome_at h2
  obtain ⟨kv, rfl, e1, e2⟩ := keysOf_rv ek V2
  have ep : w2.hp p = some (.dK []) := (L2.hk p hm).trans upd_same
  have hlen : kv.length = kvs.length := by have := congrArg List.length e1; simpa using this
  refine ⟨ep, kv, rfl, by omega, ?_⟩
  rw [mergeK_nd e1 hn]
  obtain ⟨R3, L3, E3'⟩ := veil_set (o := .dK kv) R2 (L1.trans L2)
  obtain ⟨R4, L4, E4, V4⟩ := veil_out (o := .dK kv) S.rep.sys R3 L3 upd_same
  have r4 := (e2.up (Nat.le_refl _) (fun _ _ => rfl) E3').up (Nat.le_refl _) (fun _ _ => rfl) E4
  exact q (Wo.unveil { w2 with hp := upd w2.hp p (.dK kv) } w.hx) _ _ L4 R4 (.dic V4 e1 r4.at_) h2
theorem s_dnew : SE K I tDNewK (fun _ μ Q => Q (.dic []) μ) := fun w σ s Q Q3 S h q p hp => by
  obtain ⟨R1, L1⟩ := S.rep.more (Ex.new (o := .dK []) hp)
  exact q { w with hp := upd w.hp p (.dK []) } _ _ L1 R1 (.dic (vis_of (w := { w with hp := upd w.hp p (.dK []) }) upd_same (fun z => hid_ne S.rep hp z)) rfl fun i v d a => by simp at a) h
theorem s_dnewO : SE K I tDNewK (fun _ μ Q => Q (.o μ.length) (μ ++ [.dic []])) := fun w σ s Q Q3 S h q p hp => by
  obtain ⟨R1, L1⟩ := S.rep.push (c := .dic []) (Ex.new (o := .dK []) hp) hp (by rw [upd_same]; exact nofun) fun L => ⟨[], by
    show upd w.hp p (.dK []) (if w.mu.length = w.mu.length then p else _) = _
    rw [if_pos rfl, upd_same], ⟨rfl, fun i v d a => by simp at a⟩⟩
  have e : (w.push p (.dic []) (upd w.hp p (.dK []))).al w.mu.length = p := if_pos rfl
  have V1 := Rv.o (K := K) (al := (w.push p (.dic []) (upd w.hp p (.dK []))).al) (n := (w.push p (.dic []) (upd w.hp p (.dK []))).mu.length) (H := (w.push p (.dic []) (upd w.hp p (.dK []))).vis) w.mu.length (by show _ < (w.mu ++ [_]).length; simp)
  rw [e] at V1
  exact q _ _ _ L1 R1 V1 h
end
/-! ### data with dicts -/
def keyP : Key → PyData
  | .inl i => .int i
  | .inr x => .str x
inductive Dx (K : PySem.W.Frag) (H : Hp) : V → PyData → Prop
  | non : Dx K H .non .none
  | bl (b : Bool) : Dx K H (.bl b) (.bool b)
  | int (i : Int) : Dx K H (.int i) (.int i)
  | str (x : Str) : Dx K H (.str x) (.str x)
  | lst {a : Addr} {xs : List V} {ds : List PyData} : SqL K H a xs → a ≠ sysModules → xs.length = ds.length → (∀ (i : Nat) (v : V) (d : PyData), xs[i]? = some v → ds[i]? = some d → Dx K H v d) → Dx K H (.ref a) (.list ds)
  | tup {a : Addr} {xs : List V} {ds : List PyData} : SqT K H a xs → xs.length = ds.length → (∀ (i : Nat) (v : V) (d : PyData), xs[i]? = some v → ds[i]? = some d → Dx K H v d) → Dx K H (.ref a) (.tuple ds)
  | dic {a : Addr} {kv : List (Key × V)} {ds : List PyData} : H a = some (.dK kv) → kv.length = ds.length → (∀ (i : Nat) (v : V) (d : PyData), (kv.map (·.2))[i]? = some v → ds[i]? = some d → Dx K H v d) → Dx K H (.ref a) (.dict ((kv.map fun p => keyP p.1).zip ds))
theorem readsAll_of {h : Heap} : ∀ {xs : List V} {us : List Value} {ds : List PyData}, Vals xs us → xs.length = ds.length → (∀ (i : Nat) (v : V) (d : PyData), xs[i]? = some v → ds[i]? = some d → ∀ u, RelV v u → ∃ as, Reads h u d as ∧ sysModules ∉ as) → ∃ as, ReadsAll h us ds as ∧ sysModules ∉ as
  | [], _, [], r, _, _ => by cases r; exact ⟨_, .nil, List.not_mem_nil⟩
  | [], _, _ :: _, _, hl, _ => by simp at hl
  | _ :: _, _, [], _, hl, _ => by simp at hl
  | x :: xs, _, d :: ds, r, hl, hh => by
    cases r with
    | cons r1 r2 =>
      obtain ⟨as, h1, n1⟩ := hh 0 x d rfl rfl _ r1
      obtain ⟨bs, h2, n2⟩ := readsAll_of r2 (by simpa using hl) fun i v d a b => hh (i + 1) v d (by simpa using a) (by simpa using b)
      exact ⟨_, .cons h1 h2, fun z => (List.mem_append.mp z).elim n1 n2⟩
theorem readsKeys {P : Program} {w : World} {h : Heap} : ∀ {kv : List (Key × V)} {vs : List (Key × Value)} {es : List DictEntry}, KV kv vs → Pairs (mixKind P w) es vs → ReadsAll h (es.map (·.key)) (kv.map fun p => keyP p.1) [] ∧ Vals (kv.map (·.2)) (es.map (·.val))
  | [], _, _, r, p => by cases r; cases p; exact ⟨.nil, .nil⟩
  | (k, v) :: t, _, _, r, p => by
    cases r with
    | cons r1 r2 =>
      cases p with
      | cons p1 p2 p3 =>
        obtain ⟨h1, h2⟩ := readsKeys r2 p3
        obtain ⟨rk, rv⟩ := r1
        dsimp only at rk
        rw [← rk] at p1
        refine ⟨?_, by rw [List.map_cons, List.map_cons]; exact .cons (by rw [p2]; exact rv) h2⟩
        rw [List.map_cons, List.map_cons]
        rcases keyIs_shape p1 with ⟨i, t, e1, e2⟩ | ⟨x, t, e1, e2⟩
        · subst e1
          rw [e2]
          exact ReadsAll.cons (as := []) (bs := []) (.int i t) h1
        · subst e1
          rw [e2]
          exact ReadsAll.cons (as := []) (bs := []) (.str x t) h1
theorem Dx.reads {X : Cx} {pins : List (Addr × Obj)} {σ : L2.St} {H : Hp} {s : Shared} (I : Inv X pins σ H s) {v : V} {d : PyData} (h : Dx X.K H v d) : ∀ u, RelV v u → ∃ as, Reads s.heap u d as ∧ sysModules ∉ as := by
  induction h with
  | non => intro u r; cases r; exact ⟨_, .none, List.not_mem_nil⟩
  | bl b => intro u r; cases r; exact ⟨_, .bool b, List.not_mem_nil⟩
  | int i => intro u r; obtain ⟨t, rfl⟩ := r; exact ⟨_, .int i t, List.not_mem_nil⟩
  | str x => intro u r; obtain ⟨t, rfl⟩ := r; exact ⟨_, .str x t, List.not_mem_nil⟩
  | lst hs na hl _ ih =>
    intro u r
    cases r
    obtain ⟨its, rv, ⟨o, n, ho, hc, _, hd⟩, _⟩ := I.list hs
    obtain ⟨as, hr, hn⟩ := readsAll_of rv hl ih
    exact ⟨_, .list ho hc hd (by simpa using hr), fun z => by
      rcases List.mem_cons.mp z with q | q
      · exact na q.symm
      · exact hn q⟩
  | tup hs hl _ ih =>
    intro u r
    cases r
    obtain ⟨its, rv, ⟨o, ho, hc, n, hd⟩, _⟩ := I.tuple hs
    obtain ⟨as, hr, hn⟩ := readsAll_of rv hl ih
    exact ⟨_, .tuple ho hc hd (by simpa using hr), hn⟩
  | @dic a kv ds hs hl _ ih =>
    intro u r
    cases r
    obtain ⟨_, hb, vs, rv, o, es, ep, ho, hc, hd, _, hp, _⟩ := dk_of I.hok hs
    obtain ⟨h1, h2⟩ := readsKeys (h := s.heap) rv hp
    obtain ⟨bs, hr, hn⟩ := readsAll_of h2 (by rw [List.length_map]; exact hl) ih
    have l1 : (kv.map fun p => keyP p.1).length = ds.length := by rw [List.length_map]; exact hl
    have e1 : (((kv.map fun p => keyP p.1).zip ds).map (·.1)) = kv.map fun p => keyP p.1 := List.map_fst_zip (Nat.le_of_eq l1)
    have e2 : (((kv.map fun p => keyP p.1).zip ds).map (·.2)) = ds := List.map_snd_zip (Nat.le_of_eq l1.symm)
    refine ⟨_, .dict ho hc.1 hd (by rw [e1]; exact h1) (by rw [e2]; exact hr), fun z => ?_⟩
    rcases List.mem_append.mp z with q | q
    · rcases List.mem_cons.mp q with q | q
      · exact beq_eq_false_iff_ne.mp hb q.symm
      · exact List.not_mem_nil q
    · exact hn q
/-- repr of data -/
def rReprX (K : PySem.W.Frag) : List V → Hp → VK → Prop := fun xs H Q => ∃ (a : Addr) (d : PyData), xs = [.ref a] ∧ Dx K H (.ref a) d ∧ d.showable = true ∧ d.depth ≤ 64 ∧ d.shown.length ≤ sizeLine ∧ Q (.str d.shown) H
theorem call_reprX {X : Cx} {K : PySem.W.Frag} (hK : X.K = K) (hG : X.A.guards = some []) (hu : X.A.units + 66 < cLine) : CallR X (.builtin "repr") (rReprX K) := by
  subst hK
  intro pins s σ H xs us Q I r h
  obtain ⟨a, d, rfl, hd, h1, h3, h4, q⟩ := h
  cases r with
  | cons rx rr =>
    cases rr
    cases rx
    obtain ⟨as, hr, hn⟩ := Dx.reads I hd _ rfl
    exact repr_of_reads' hr h1 (fun _ => hn) hG (by omega) (fun _ _ e => e) (fun h' u tk hk => ⟨.str d.shown, H, I.kept (t' := tk) hk, ⟨_, rfl⟩, q⟩) h4
mutual
def px : D → Option PyData
  | .v .non => some .none
  | .v (.bl b) => some (.bool b)
  | .v (.int i) => some (.int i)
  | .v (.str s) => some (.str s)
  | .lst xs => (pxL xs).map .list
  | .tup xs => (pxL xs).map .tuple
  | .dic kvs => (pxK kvs).map fun ds => .dict ((kvs.map fun p => keyP p.1).zip ds)
  | _ => none
def pxL : List D → Option (List PyData)
  | [] => some []
  | x :: r => match px x, pxL r with
    | some a, some b => some (a :: b)
    | _, _ => none
def pxK : List (Key × D) → Option (List PyData)
  | [] => some []
  | (_, x) :: r => match px x, pxK r with
    | some a, some b => some (a :: b)
    | _, _ => none
end
def pxM (μ : Mu) : D → Option PyData
  | .o k => match μ[k]? with
    | some (.lst xs) => (pxL xs).map .list
    | _ => none
  | d => px d
section
variable {K : PySem.W.Frag} {w : Wo}
theorem vis_sys (R : Rep K w) {a : Addr} {o : HO} (h : w.vis a = some o) : a ≠ sysModules := fun z => (vis_some h).2 (.inr (by rw [z]; exact R.sys))
mutual
theorem dx_px (R : Rep K w) : ∀ (d : D) (v : V) (p : PyData), w.rv K v d → px d = some p → Dx K w.hp v p
  | .v x, v, p, r, e => by
    cases r
    cases x with
    | non => cases e; exact .non
    | bl b => cases e; exact .bl b
    | int i => cases e; exact .int i
    | str s => cases e; exact .str s
    | _ => cases e
  | .o k, v, p, r, e => by cases e
  | .ls k, v, p, r, e => by cases e
  | .ins C xs, v, p, r, e => by cases e
  | .fnc C xs, v, p, r, e => by cases e
  | .lst xs, v, p, r, e => by
    cases r with
    | lst hs hl h =>
      rw [px] at e
      cases q : pxL xs with
      | none => rw [q] at e; cases e
      | some ps =>
        rw [q] at e; cases e
        obtain ⟨l, hh⟩ := dx_pxL R xs _ ps hl h q
        exact .lst (.inl (.inl (vis_le w _ _ hs))) (vis_sys R hs) l hh
  | .tup xs, v, p, r, e => by
    cases r with
    | tup hs hl h =>
      rw [px] at e
      cases q : pxL xs with
      | none => rw [q] at e; cases e
      | some ps =>
        rw [q] at e; cases e
        obtain ⟨l, hh⟩ := dx_pxL R xs _ ps hl h q
        exact .tup (ex_t (vis_le w) hs) l hh
  | .dic kvs, v, p, r, e => by
    cases r with
    | @dic a kv ds hs hk h =>
      rw [px] at e
      cases q : pxK kvs with
      | none => rw [q] at e; cases e
      | some ps =>
        rw [q] at e; cases e
        have hl : kv.length = kvs.length := by have := congrArg List.length hk; simpa using this
        obtain ⟨l, hh⟩ := dx_pxK R kvs (kv.map (·.2)) ps (by rw [List.length_map]; exact hl) h q
        have ek : (kvs.map fun p => keyP p.1) = kv.map fun p => keyP p.1 := by
          have := congrArg (List.map keyP) hk
          rw [List.map_map, List.map_map] at this
          exact this.symm
        rw [ek]
        exact .dic (vis_le w _ _ hs) (by rw [List.length_map] at l; exact l) hh
theorem dx_pxL (R : Rep K w) : ∀ (xs : List D) (vs : List V) (ps : List PyData), vs.length = xs.length → (∀ (i : Nat) (v : V) (d : D), vs[i]? = some v → xs[i]? = some d → w.rv K v d) → pxL xs = some ps →
    vs.length = ps.length ∧ ∀ (i : Nat) (v : V) (p : PyData), vs[i]? = some v → ps[i]? = some p → Dx K w.hp v p
  | [], vs, ps, hl, h, e => by
    cases e
    cases vs with
    | nil => exact ⟨rfl, fun i v p a => by simp at a⟩
    | cons => simp at hl
  | x :: r, vs, ps, hl, h, e => by
    cases vs with
    | nil => simp at hl
    | cons v vs =>
      rw [pxL] at e
      cases q1 : px x with
      | none => rw [q1] at e; cases e
      | some a =>
        cases q2 : pxL r with
        | none => rw [q1, q2] at e; cases e
        | some b =>
          rw [q1, q2] at e; cases e
          have h0 := dx_px R x v a (h 0 v x rfl rfl) q1
          obtain ⟨l, hh⟩ := dx_pxL R r vs b (by simpa using hl) (fun i v d p q => h (i + 1) v d (by simpa using p) (by simpa using q)) q2
          refine ⟨by simp [l], fun i v' p' a b => ?_⟩
          cases i with
          | zero => simp at a b; subst a b; exact h0
          | succ i => exact hh i v' p' (by simpa using a) (by simpa using b)
theorem dx_pxK (R : Rep K w) : ∀ (xs : List (Key × D)) (vs : List V) (ps : List PyData), vs.length = xs.length → (∀ (i : Nat) (v : V) (d : D), vs[i]? = some v → (xs.map (·.2))[i]? = some d → w.rv K v d) → pxK xs = some ps →
    vs.length = ps.length ∧ ∀ (i : Nat) (v : V) (p : PyData), vs[i]? = some v → ps[i]? = some p → Dx K w.hp v p
  | [], vs, ps, hl, h, e => by
    cases e
    cases vs with
    | nil => exact ⟨rfl, fun i v p a => by simp at a⟩
    | cons => simp at hl
  | (k, x) :: r, vs, ps, hl, h, e => by
    cases vs with
    | nil => simp at hl
    | cons v vs =>
      rw [pxK] at e
      cases q1 : px x with
      | none => rw [q1] at e; cases e
      | some a =>
        cases q2 : pxK r with
        | none => rw [q1, q2] at e; cases e
        | some b =>
          rw [q1, q2] at e; cases e
          have h0 := dx_px R x v a (h 0 v x rfl rfl) q1
          obtain ⟨l, hh⟩ := dx_pxK R r vs b (by simpa using hl) (fun i v d p q => h (i + 1) v d (by simpa using p) (by simpa using q)) q2
          refine ⟨by simp [l], fun i v' p' a b => ?_⟩
          cases i with
          | zero => simp at a b; subst a b; exact h0
          | succ i => exact hh i v' p' (by simpa using a) (by simpa using b)
end
/-- what repr shows: no plain thing, not too long -/
def Shw (p : PyData) : Prop := (∀ i, p ≠ .int i) ∧ (p ≠ .none) ∧ (∀ b, p ≠ .bool b) ∧ (∀ s, p ≠ .str s) ∧ p.showable = true ∧ p.depth ≤ 64 ∧ p.shown.length ≤ sizeLine
def cRepr : C3 := fun ds μ Q => w1 ds fun d => wSome (pxM μ d) fun p => Shw p ∧ Q (.v (.str p.shown)) μ
theorem wSome_ex {α : Type} {o : Option α} {k : α → Prop} (h : wSome o k) : ∃ x, o = some x ∧ k x := by
  cases o with
  | none => exact h.elim
  | some x => exact ⟨x, rfl, h⟩
theorem c_repr {I : Pre} : SC K I (rReprX K) cRepr := fun w vs ds Q Q3 R _ r h q => by
  obtain ⟨v, d, rfl, rfl, rv, h⟩ := w1_at r h
  obtain ⟨p, e, ⟨n1, n2, n3, n4, h1, h2, h3⟩, h4⟩ := wSome_ex h
  have hd : Dx K w.hp v p := by
    cases rv with
    | o k hk =>
      unfold pxM at e
      dsimp only at e
      split at e
      · rename_i xs hx
        obtain ⟨vs, a, b⟩ := R.cell k _ hx
        cases q : pxL xs with
        | none => rw [q] at e; cases e
        | some ps =>
          rw [q] at e; cases e
          obtain ⟨l, hh⟩ := dx_pxL R xs vs ps b.len b.at_ q
          exact .lst (.inl (.inl a)) (fun z => R.hxa k hk (by rw [z]; exact R.sys)) l hh
      · cases e
    | v x => exact dx_px R (.v v) _ _ (.v _) e
    | lst a b c => exact dx_px R _ _ _ (.lst a b c) e
    | ls a b c => cases e
    | tup a b c => exact dx_px R _ _ _ (.tup a b c) e
    | dic a b c => exact dx_px R _ _ _ (.dic a b c) e
    | ins a b c => cases e
    | fnc a b c d f => cases e
  have hr : ∃ a, v = .ref a := by
    cases hd with
    | non => exact absurd rfl n2
    | bl b => exact absurd rfl (n3 b)
    | int i => exact absurd rfl (n1 i)
    | str s => exact absurd rfl (n4 s)
    | _ => exact ⟨_, rfl⟩
  obtain ⟨a, rfl⟩ := hr
  exact ⟨a, p, rfl, hd, h1, h2, h3, q w _ _ (.refl w) R (.v _) h4⟩
end
end Wb

set_option Elab.async false
set_option linter.all false
set_option maxRecDepth 100000
namespace Wb
open PySem PySem.Spec PyProof.Rows L2
section
variable {X : Cx} {CX : CXT} {k n : Nat} {f C : Addr} {fd : FuncData} {ps ks : List Str} {sp : Sp} {dvs : List V} {E : XK} {x : Str} {p pos : Pos} {e : Expr} {es : List Expr} {kws : List Keyword} {t tk : TA} {g : List Value → List Value → List Value → List Value} {gV : List V → List V → List V}
theorem pe_makeE (M : Mk X.K C f) (F : FnOk X.prog X.w X.K X.mg X.base CX k f fd ps sp) (hr : Room (k + 1) X.A) (hg : Gl X x) (hm : X.mg x = some (.ref C)) (hb : ∃ ds, Vals dvs ds ∧ Binds X.K fd ps ds) (hx : Passes CX X E)
    (ha : PA X (e :: es) t) (hdb : (x == ("__debug__" : Str)) = false := by decide) (he : starEach (e :: es) X.env = (false, eval e X.env) :: starEach es X.env := by rfl) (hpl : (backTo pos (starEach es X.env)).any (·.1) = false := by rfl) :
    PE X (.Call (.Name x p) (e :: es) [] pos) (tMake C sp dvs E t) := by
  obtain ⟨ds, hd, hb⟩ := hb
  exact pe_make M F hr hg hm hb hd hx ha hdb he hpl
theorem pe_makeNE (M : Mk X.K C f) (F : FnOk X.prog X.w X.K X.mg X.base CX k f fd ps sp) (hr : Room (k + 1) X.A) (hg : Gl X x) (hm : X.mg x = some (.ref C)) (hb : ∃ its, KBn X.K fd ps (n + 1) ks (g its) gV) (hx : Passes CX X E)
    (ha : PA X (e :: es) t) (hkw : PK X kws tk) (hall : (backToKw pos (keywordEach kws X.env)).all (·.1.isSome) = true := by rfl) (hks : (backToKw pos (keywordEach kws X.env)).filterMap (·.1) = ks := by rfl)
    (hdb : (x == ("__debug__" : Str)) = false := by decide) (he : starEach (e :: es) X.env = (false, eval e X.env) :: starEach es X.env := by rfl)
    (hpl : ((backTo pos (starEach (e :: es) X.env)).any (·.1) || (backToKw pos (keywordEach kws X.env)).any (·.1.isNone)) = false := by rfl) :
    PE X (.Call (.Name x p) (e :: es) kws pos) (tMakeN C n ks.length sp gV E t tk) := by
  obtain ⟨its, hb⟩ := hb
  exact pe_makeN M F hr hg hm hb hx ha hkw hall hks hdb he hpl
/-- C(k = v, ..) -/
theorem pe_makeN0 (M : Mk X.K C f) (F : FnOk X.prog X.w X.K X.mg X.base CX k f fd ps sp) (hr : Room (k + 1) X.A) (hg : Gl X x) (hm : X.mg x = some (.ref C)) (hb : ∃ its, KBn X.K fd ps (0 + 1) ks (g its) gV) (hx : Passes CX X E)
    (hkw : PK X kws tk) (hall : (backToKw pos (keywordEach kws X.env)).all (·.1.isSome) = true := by rfl) (hks : (backToKw pos (keywordEach kws X.env)).filterMap (·.1) = ks := by rfl)
    (hdb : (x == ("__debug__" : Str)) = false := by decide)
    (hpl : ((backTo pos (starEach [] X.env)).any (·.1) || (backToKw pos (keywordEach kws X.env)).any (·.1.isNone)) = false := by rfl) :
    PE X (.Call (.Name x p) [] kws pos) (tMakeN C 0 ks.length sp gV E tNil tk) := by
  obtain ⟨its, hb⟩ := hb
  refine ⟨fun pins s σ H Q I h => ?_⟩
  refine wpAny_Call_Name_kw (ld_glob I hg hm ?_ hdb)
  refine PySem.W.callWith_KW0 (h₀ := X.base) I.ok.mod.kin M.kp hall (thn (hkw.run pos pins s σ H _ I h) fun ws s2 ⟨zs, H2, I2, rz, l1, l2, q2⟩ => ⟨I2.kIn, ?_⟩) hpl
  rw [hks]
  exact run_makeN M F hr hb hx I2 .nil rz l1 l2 q2
end
theorem hE0 {K : PySem.W.Frag} {I : Pre} : ∀ w, I.ok w → PostX K w E0 E03 := fun _ _ _ _ _ _ _ _ _ _ h => h.elim
/-- what a def lets out -/
theorem hE_of {K : PySem.W.Frag} {I : Pre} {E : XK} {E3 : X3} (hW : WOk K I (fun cls d _ H => E cls d H) (fun C fs _ μ => E3 C fs μ)) : ∀ w, I.ok w → PostX K w E E3 := fun w ok w' cls dd C fs L R X h =>
  hW w' [] [] cls dd C fs ⟨R, ⟨rfl, fun i d e => by simp at e⟩, I.up L ok⟩ X h
section
variable {P : Program} {w : World} {K : PySem.W.Frag} {mg : Str → Option Value} {base : Heap} {x qual : Str} {params : Arguments} {body : List Stmt} {scope : Scope} {dvs : List V} {kws : List (Str × V)} {f : Addr} {fd : FuncData}
/-- a def with defaults that may raise -/
theorem _root_.L2.FunD.ok1 {N ps : List Str} {k : Nat} {sp : Sp} (F : FunD K x qual params body scope dvs kws f fd) (S : FnScope N ps scope) (len : ∀ vs H Q E, sp vs H Q E → vs.length = ps.length)
    (hb : ∀ (cdv : Value) (A : Around) (outer : List Env) (s : Shared) (H : Hp) (vs : List V) (Q : VK) (E : XK), Room k (A.deeper (envOfC qual scope s.heap.objs.size f cdv)) → sp vs H Q E →
      ∃ t, PSs (cxOf (L2.CX P w) P w K mg base N qual scope f cdv A outer s H E) body t ∧ t { nx := fun _ H' => Q .non H', rt := Q } (L2.start N vs) H) : FnOk P w K mg base (L2.CX P w) (k + 1) f fd ps sp := by
  obtain ⟨oc, od, dV, kV, doc, pm, an, cdv, ct, osl, rfl, lk, hcd, _, _⟩ := F.ex
  exact fn_of lk hcd S len fun A outer s H vs Q E hr hsp => hb cdv A outer s H vs Q E hr hsp
end
theorem wSome_some {α : Type} {x : α} {k : α → Prop} : wSome (some x) k = k x := rfl
theorem wSome_none {α : Type} {k : α → Prop} : wSome none k = False := rfl
theorem wSeq_some {x : List D} {k : List D → Prop} : wSeq (some x) k = k x := rfl
theorem wSeq_none {k : List D → Prop} : wSeq none k = False := rfl
theorem wB_v {b : Bool} {k : Bool → Prop} : wB (.v (.bl b)) k = k b := rfl
theorem wI_v {b : Int} {k : Int → Prop} : wI (.v (.int b)) k = k b := rfl
theorem wIns_some {C : Addr} {fs : List (Str × D)} {k : Addr → List (Str × D) → Prop} : wIns (some (C, fs)) k = k C fs := rfl
end Wb

set_option Elab.async false
set_option linter.all false
set_option maxRecDepth 100000
/-! comprehensions over lists of a kind; names, abouts -/
namespace Wb
open PySem PySem.Spec PyProof.Rows L2
open TL (tl)
theorem filterMap_some {α β γ : Type} (t : α → β) (f : β → Option γ) (g : α → γ) (h : ∀ a, f (t a) = some (g a)) : ∀ xs : List α, (xs.map t).filterMap f = xs.map g
  | [] => rfl
  | x :: r => by rw [List.map_cons, List.filterMap_cons, h, filterMap_some t f g h r]; rfl
theorem lc_mapT {α : Type} {vw : Vw} {b : D → Mu → (Option D → Mu → Prop) → Prop} {Q : List D → Mu → Prop} {μ : Mu} {xs : List α} {t : α → D} (g : α → D) (hv : vw μ = some (xs.map t)) (hl : xs.length ≤ 1000000)
    (hb : ∀ a ∈ xs, ∀ k : Option D → Mu → Prop, k (some (g a)) μ → b (t a) μ k) (hq : Q (xs.map g) μ) : lcE vw (xs.map t) b Q μ := by
  refine ⟨fun i acc μ' => μ' = μ ∧ acc = (xs.take i).map g, ⟨rfl, rfl⟩, ?_⟩
  rintro i acc μ' ⟨rfl, rfl⟩
  refine ⟨hv, ?_⟩
  rw [List.getElem?_map]
  cases e : xs[i]? with
  | none =>
    have : xs.length ≤ i := List.getElem?_eq_none_iff.mp e
    rw [List.take_of_length_le this]; exact hq
  | some x =>
    have ht : xs.take (i + 1) = xs.take i ++ [x] := by rw [List.take_add_one, e]; rfl
    have hi : i < xs.length := (List.getElem?_eq_some_iff.mp e).1
    refine hb x (List.mem_of_getElem? e) _ ⟨ltl (by rw [List.length_map, List.length_take]; omega), rfl, by rw [ht, List.map_append]; rfl⟩
theorem lc_filT {α : Type} {vw : Vw} {b : D → Mu → (Option D → Mu → Prop) → Prop} {Q : List D → Mu → Prop} {μ : Mu} {xs : List α} {t : α → D} (c : α → Bool) (g : α → D) (hv : vw μ = some (xs.map t)) (hl : xs.length ≤ 1000000)
    (hb : ∀ a ∈ xs, ∀ k : Option D → Mu → Prop, (if c a = true then k (some (g a)) μ else k none μ) → b (t a) μ k) (hq : Q ((xs.filter c).map g) μ) : lcE vw (xs.map t) b Q μ := by
  refine ⟨fun i acc μ' => μ' = μ ∧ acc = ((xs.take i).filter c).map g, ⟨rfl, rfl⟩, ?_⟩
  rintro i acc μ' ⟨rfl, rfl⟩
  refine ⟨hv, ?_⟩
  rw [List.getElem?_map]
  cases e : xs[i]? with
  | none =>
    have : xs.length ≤ i := List.getElem?_eq_none_iff.mp e
    rw [List.take_of_length_le this]; exact hq
  | some x =>
    have ht : xs.take (i + 1) = xs.take i ++ [x] := by rw [List.take_add_one, e]; rfl
    have hi : i < xs.length := (List.getElem?_eq_some_iff.mp e).1
    refine hb x (List.mem_of_getElem? e) _ ?_
    by_cases h : c x = true
    · rw [if_pos h]
      refine ⟨ltl ?_, rfl, by rw [ht, List.filter_append, List.map_append]; simp [h]⟩
      have h1 := List.length_filter_le c (xs.take i)
      rw [List.length_map]
      have h3 : (xs.take i).length ≤ xs.length := by rw [List.length_take]; omega
      omega
    · rw [if_neg h]
      exact ⟨rfl, by rw [ht, List.filter_append, List.map_append]; simp [h]⟩
theorem chars_eq (s : Str) : chars s = (tl s).map fun c => D.v (.str ⟨#[c]⟩) := rfl
theorem chars_len (s : Str) : (chars s).length = s.length := by rw [chars_eq, List.length_map]; rfl

/-! names, abouts, defaults -/
def onS (x : D) (f : Str → Bool) : Bool := match x with
  | .v (.str s) => f s
  | _ => false
def nameSigns : Str := Str.ofString "abcdefghijklmnopqrstuvwxyz" ++ Str.ofString "0123456789" ++ Str.ofString "-"
def isNm (s : Str) : Bool := decide (1 ≤ s.length ∧ s.length ≤ 10) && !(Txt.startswith s (Str.ofString "-") || Txt.endswith s (Str.ofString "-") || Txt.startswith s (Str.ofString "no-")) && (tl s).all fun c => subS ⟨#[c]⟩ nameSigns
def isAb (s : Str) : Bool := decide (s.length ≤ 200) && (decide (s = Str.ofString "") || (Txt.split s (Str.ofString " ")).all fun w => !decide (w = Str.ofString ""))
def isDef (x : D) (may : Bool) : Bool := isNonD x || (may && onS x fun s => decide (s.length ≤ 60))
/-- what is handed in oddly: of any kind, texts not too long -/
def Od : D → Prop
  | .v .non => True
  | .v (.int _) => True
  | .v (.bl _) => True
  | .v (.str s) => s.length ≤ 100000
  | .lst _ => True
  | .tup _ => True
  | .dic _ => True
  | _ => False
theorem od_cases {x : D} (h : Od x) : (∃ s, x = .v (.str s) ∧ s.length ≤ 100000) ∨ ((∃ T, tyD [] x = some T ∧ kitB T "str" = some false) ∧ onS x = fun _ => false) := by
  match x, h with
  | .v (.str s), h => exact .inl ⟨s, rfl, h⟩
  | .v .non, _ => exact .inr ⟨⟨_, rfl, kb_ns⟩, rfl⟩
  | .v (.int _), _ => exact .inr ⟨⟨_, rfl, kb_is⟩, rfl⟩
  | .v (.bl _), _ => exact .inr ⟨⟨_, rfl, kb_bs⟩, rfl⟩
  | .lst _, _ => exact .inr ⟨⟨_, rfl, kb_ls⟩, rfl⟩
  | .tup _, _ => exact .inr ⟨⟨_, rfl, kb_ts⟩, rfl⟩
  | .dic _, _ => exact .inr ⟨⟨_, rfl, kb_ds⟩, rfl⟩
theorem tyD_mu {μ : Mu} {x : D} (h : Od x) : tyD μ x = tyD [] x := by
  match x, h with
  | .v (.str s), h => rfl
  | .v .non, _ => rfl
  | .v (.int _), _ => rfl
  | .v (.bl _), _ => rfl
  | .lst _, _ => rfl
  | .tup _, _ => rfl
  | .dic _, _ => rfl
def Nst : D → Prop
  | .v .non => True
  | .v (.int _) => True
  | .v (.bl _) => True
  | .lst _ => True
  | .tup _ => True
  | .dic _ => True
  | _ => False
theorem od_split {x : D} (h : Od x) : (∃ s, x = .v (.str s) ∧ s.length ≤ 100000) ∨ Nst x := by
  match x, h with
  | .v (.str s), h => exact .inl ⟨s, rfl, h⟩
  | .v .non, _ => exact .inr trivial
  | .v (.int _), _ => exact .inr trivial
  | .v (.bl _), _ => exact .inr trivial
  | .lst _, _ => exact .inr trivial
  | .tup _, _ => exact .inr trivial
  | .dic _, _ => exact .inr trivial
theorem nst_cases {x : D} (h : Nst x) : x = .v .non ∨ (∃ i, x = .v (.int i)) ∨ (∃ b, x = .v (.bl b)) ∨ (∃ xs, x = .lst xs) ∨ (∃ xs, x = .tup xs) ∨ (∃ xs, x = .dic xs) := by
  match x, h with
  | .v .non, _ => simp
  | .v (.int i), _ => simp
  | .v (.bl b), _ => simp
  | .lst xs, _ => simp
  | .tup xs, _ => simp
  | .dic xs, _ => simp
theorem onS_nst {x : D} (h : Nst x) (f : Str → Bool) : onS x f = false := by
  match x, h with
  | .v .non, _ => rfl
  | .v (.int i), _ => rfl
  | .v (.bl b), _ => rfl
  | .lst xs, _ => rfl
  | .tup xs, _ => rfl
  | .dic xs, _ => rfl
theorem onS_str (s : Str) (f : Str → Bool) : onS (.v (.str s)) f = f s := rfl
theorem iteI {p : Prop} [Decidable p] {A B : Prop} (h1 : p → A) (h2 : ¬ p → B) : if p then A else B := by
  by_cases h : p
  · rw [if_pos h]; exact h1 h
  · rw [if_neg h]; exact h2 h
theorem split_len (s b : Str) (h : (b.length == 0) = false) : (Txt.split s b).length ≤ s.length + 2 := by
  have := PyProof.Rows.split_le s b
  omega
end Wb

set_option Elab.async false
set_option linter.all false
set_option maxRecDepth 100000
/-! lengths and signs of texts made; what is small, and shown -/
namespace Wb
open PySem PySem.Spec PyProof.Rows L2
open TL (tl)
theorem sgn_len (c : Nat) : Str.length ⟨#[c]⟩ = 1 := rfl
theorem gd_sgn {s : Str} {c : Nat} (h : Gd s) (k : c ∈ tl s) : Gd ⟨#[c]⟩ := Gd.one h k
theorem gd_of_ok {t : Str} (h : (tl t).all (fun c => decide (32 ≤ c ∧ c < 127)) = true) : Gd t := gd_all h
theorem tl_rep (x : Str) : ∀ n : Nat, tl ⟨(List.replicate n x.cps).foldl (· ++ ·) #[]⟩ = (List.replicate n (tl x)).flatten := by
  have : ∀ (n : Nat) (acc : Array Nat), ((List.replicate n x.cps).foldl (· ++ ·) acc).toList = acc.toList ++ (List.replicate n (tl x)).flatten := by
    intro n
    induction n with
    | zero => intro acc; simp
    | succ n ih => intro acc; rw [List.replicate_succ, List.foldl_cons, ih]; simp [List.replicate_succ, TL.tl]
  intro n
  show ((List.replicate n x.cps).foldl (· ++ ·) #[]).toList = _
  rw [this]; rfl
theorem gd_mul {x : Str} {n : Int} (h : Gd x) : Gd (Txt.mul x n) := by
  intro c hc
  unfold Txt.mul at hc
  split at hc
  · simp [TL.tl, Str.empty] at hc
  · split at hc
    · exact h c hc
    · have e := tl_rep x n.toNat
      rw [show tl _ = _ from e] at hc
      obtain ⟨l, hl, hcl⟩ := List.mem_flatten.mp hc
      rw [List.eq_of_mem_replicate hl] at hcl
      exact h c hcl
theorem mul_le {x : Str} {n : Int} (L N : Nat) (hx : x.length ≤ L) (hn : n ≤ (N : Int)) : (Txt.mul x n).length ≤ L * N := len_mul_leN hx hn
theorem sum_le {L : Nat} : ∀ {ys : List Str}, (∀ y ∈ ys, y.length ≤ L) → (ys.map (·.length)).sum ≤ ys.length * L
  | [], _ => by simp
  | y :: r, h => by
    have := sum_le (ys := r) fun z hz => h z (List.mem_cons_of_mem _ hz)
    have := h y (List.mem_cons_self ..)
    rw [List.map_cons, List.sum_cons, List.length_cons, Nat.add_mul]; omega
theorem join_le (sep : Str) (ys : List Str) : (Txt.join sep ys).length ≤ (ys.map (·.length)).sum + ys.length * sep.length := by
  rw [TL.join_eq]; exact StrLaws.join_length_le sep ys
theorem tl_joinL_mem {sep : List Nat} {P : Nat → Prop} (hs : ∀ c ∈ sep, P c) : ∀ {l : List (List Nat)}, (∀ y ∈ l, ∀ c ∈ y, P c) → ∀ c ∈ TL.joinL sep l, P c
  | [], _, c, h => by simp [TL.joinL] at h
  | [a], h, c, hc => h a (by simp) c hc
  | a :: b :: r, h, c, hc => by
    rw [TL.joinL] at hc
    rcases List.mem_append.mp hc with z | z
    · exact h a (by simp) c z
    · rcases List.mem_append.mp z with z | z
      · exact hs c z
      · exact tl_joinL_mem hs (l := b :: r) (fun y hy => h y (List.mem_cons_of_mem _ hy)) c z
theorem gd_join {sep : Str} {ys : List Str} (hs : Gd sep) (h : ∀ y ∈ ys, Gd y) : Gd (Txt.join sep ys) := by
  unfold Gd
  rw [TL.join_eq, TL.tl_join]
  refine tl_joinL_mem hs fun y hy => ?_
  obtain ⟨z, hz, rfl⟩ := List.mem_map.mp hy
  exact h z hz
/-- a comprehension that makes texts -/
theorem lc_texts {vw : Vw} {all : List D} {b : D → Mu → (Option D → Mu → Prop) → Prop} {Q : List D → Mu → Prop} {μ : Mu} (P : Str → Prop) (hv : vw μ = some all) (hl : all.length ≤ 1000000)
    (hb : ∀ x ∈ all, ∀ k : Option D → Mu → Prop, (∀ s, P s → k (some (.v (.str s))) μ) → b x μ k) (hq : ∀ ss : List Str, ss.length = all.length → (∀ a ∈ ss, P a) → Q (ss.map fun s => D.v (.str s)) μ) : lcE vw all b Q μ :=
  lc_kind (fun s => D.v (.str s)) P hv hl hb hq
theorem wsS {ss : List Str} {k : List Str → Prop} (h : k ss) : wSome (strsOf (ss.map fun s => D.v (.str s))) k := by
  have := strsOf_map id ss
  rw [show (ss.map fun a => D.v (.str (id a))) = ss.map fun s => D.v (.str s) from rfl] at this
  rw [this, List.map_id]; exact h
/-! small data -/
/-- signs of the code -/
def Vd (s : Str) : Prop := ∀ c ∈ tl s, c < 0x110000
theorem Vd.app {a b : Str} (h : Vd a) (k : Vd b) : Vd (a ++ b) := fun c hc => by
  rw [tl_app] at hc
  rcases List.mem_append.mp hc with z | z
  · exact h c z
  · exact k c z
theorem chr_lt (c : Char) : c.toNat < 0x110000 := by
  have h := c.valid
  show c.val.toNat < _
  rcases h with h | h
  · have : c.val.toNat < 0xd800 := h; omega
  · exact h.2
theorem vd_lit (s : String) : Vd (Str.ofString s) := fun c hc => by
  rw [PySem.Str.ofString_eq_toList] at hc
  obtain ⟨x, _, rfl⟩ := List.mem_map.mp (show c ∈ s.toList.map Char.toNat by simpa [TL.tl] using hc)
  exact chr_lt x
theorem Gd.vd {s : Str} (h : Gd s) : Vd s := fun c hc => Nat.lt_of_lt_of_le (h c hc).2 (by decide)
theorem Vd.ok {a : Str} (h : Vd a) : PyData.strOk a = true := by
  unfold PyData.strOk
  rw [Array.all_eq_true']
  intro x hx
  exact decide_eq_true (h x (by simpa [TL.tl] using hx))
open PySem.Builtin PySem.Builtin.Str in
theorem vd_char (q c : Nat) (hq : q < 0x110000) (hc : c < 0x110000) : ∀ x ∈ reprChar q c, x < 0x110000 := by
  have hx : ∀ w x, x ∈ List.replicate (w - ((Nat.toDigits 16 c).map Char.toNat).length) 48 ++ (Nat.toDigits 16 c).map Char.toNat → x < 0x110000 := by
    intro w x h
    rcases List.mem_append.mp h with h | h
    · rw [List.eq_of_mem_replicate h]; decide
    · obtain ⟨y, _, rfl⟩ := List.mem_map.mp h; exact chr_lt y
  intro x h
  unfold reprChar at h
  dsimp only at h
  repeat' split at h
  all_goals first
    | (rcases List.mem_append.mp h with h | h
       · simp only [List.mem_cons, List.not_mem_nil, or_false] at h; omega
       · exact hx _ _ h)
    | (simp only [List.mem_cons, List.not_mem_nil, or_false] at h; omega)
open PySem.Builtin PySem.Builtin.Str in
theorem vd_repr {x : Str} (h : Vd x) : Vd (reprText x) := by
  have hq : reprQuote x < 0x110000 := by unfold reprQuote; split <;> decide
  have key : ∀ (l : List Nat) (acc : Array Nat), (∀ c ∈ l, c < 0x110000) → (∀ c ∈ acc.toList, c < 0x110000) → ∀ c ∈ (l.foldl (fun out c => out ++ (reprChar (reprQuote x) c).toArray) acc).toList, c < 0x110000 := by
    intro l
    induction l with
    | nil => intro acc _ h c hc; exact h c hc
    | cons a r ih =>
      intro acc h1 h2
      rw [List.foldl_cons]
      refine ih _ (fun c hc => h1 c (List.mem_cons_of_mem _ hc)) fun c hc => ?_
      rw [Array.toList_append] at hc
      rcases List.mem_append.mp hc with z | z
      · exact h2 c z
      · exact vd_char _ _ hq (h1 a (List.mem_cons_self ..)) c z
  intro c hc
  unfold reprText at hc
  have hc2 : c ∈ ((x.cps.foldl (fun out c => out ++ (reprChar (reprQuote x) c).toArray) #[reprQuote x]).push (reprQuote x)).toList := hc
  rw [Array.toList_push, ← Array.foldl_toList] at hc2
  rcases List.mem_append.mp hc2 with z | z
  · exact key _ _ h (fun c hc => by simp at hc; rw [hc]; exact hq) c z
  · simp at z; rw [z]; exact hq
theorem vd_from : ∀ (ts : List Str) (k : Nat) (acc : Str), Vd acc → (∀ t ∈ ts, Vd t) → Vd (textFrom k acc ts)
  | [], _, _, h, _ => h
  | t :: r, k, acc, h, g => by
    refine vd_from r (k + 1) _ ((h.app ?_).app (g t (List.mem_cons_self ..))) fun u hu => g u (List.mem_cons_of_mem _ hu)
    exact vd_lit _
theorem vd_list {ts : List Str} (g : ∀ t ∈ ts, Vd t) : Vd (listText ts) := (vd_from ts 0 _ (vd_lit _) g).app (vd_lit _)
theorem vd_joinS {sep : Str} (hs : Vd sep) : ∀ {ts : List Str}, (∀ t ∈ ts, Vd t) → Vd (Str.join sep ts)
  | [], _ => vd_lit ""
  | [a], h => h a (by simp)
  | a :: b :: r, h => ((h a (by simp)).app hs).app (vd_joinS hs (ts := b :: r) fun t ht => h t (List.mem_cons_of_mem _ ht))
theorem vd_tup {ts : List Str} (g : ∀ t ∈ ts, Vd t) : Vd (tupleText ts) := ((vd_lit _).app (vd_joinS (vd_lit _) g)).app (vd_lit _)
def Sm (k B : Nat) (x : D) : Prop := ∃ p, px x = some p ∧ p.showable = true ∧ p.depth ≤ k ∧ p.leavesShort 30 = true ∧ p.weight ≤ B ∧ Vd p.shown
def smB (k B : Nat) (x : D) : Bool := match px x with
  | some p => p.showable && decide (p.depth ≤ k) && p.leavesShort 30 && decide (p.weight ≤ B) && (tl p.shown).all fun c => decide (c < 0x110000)
  | none => false
theorem smB_ok {k B : Nat} {x : D} (h : smB k B x = true) : Sm k B x := by
  unfold smB at h
  split at h
  · rename_i p e
    simp only [Bool.and_eq_true, decide_eq_true_eq] at h
    exact ⟨p, e, h.1.1.1.1, h.1.1.1.2, h.1.1.2, h.1.2, fun c hc => by simpa using List.all_eq_true.mp h.2 c hc⟩
  · cases h
theorem Sm.mono {k B k' B' : Nat} {x : D} (h : Sm k B x) (a : k ≤ k') (b : B ≤ B') : Sm k' B' x := by
  obtain ⟨p, h1, h2, h3, h4, h5, h6⟩ := h
  exact ⟨p, h1, h2, by omega, h4, by omega, h6⟩
theorem sm_str {B : Nat} {s : Str} (h : Gd s) (l : s.length ≤ B) : Sm 0 B (.v (.str s)) := by
  refine ⟨.str s, by simp [px], rfl, Nat.le_refl 0, ?_, l, by rw [PyData.shown]; exact vd_repr h.vd⟩
  show (s.cps.toList.all fun c => decide (c < 16 ^ 8)) = true
  exact List.all_eq_true.mpr fun c hc => decide_eq_true (Nat.lt_of_lt_of_le (h c hc).2 (by decide))
theorem sm_non : Sm 0 0 (.v .non) := smB_ok (by decide +kernel)
theorem sm_bl (b : Bool) : Sm 0 0 (.v (.bl b)) := by cases b <;> exact smB_ok (by decide +kernel)
theorem sm_L {k B : Nat} : ∀ {xs : List D}, (∀ x ∈ xs, Sm k B x) → ∃ ps, pxL xs = some ps ∧ PyData.showableAll ps = true ∧ PyData.depthAll ps ≤ k ∧ PyData.leavesShortAll 30 ps = true ∧ PyData.weightAll ps ≤ xs.length * (B + 1) ∧ ∀ t ∈ PyData.shownAll ps, Vd t
  | [], _ => ⟨[], by simp [pxL], rfl, Nat.zero_le _, rfl, by simp [PyData.weightAll], by simp [PyData.shownAll]⟩
  | x :: r, h => by
    obtain ⟨p, h1, h2, h3, h4, h5, h6⟩ := h x (List.mem_cons_self ..)
    obtain ⟨ps, g1, g2, g3, g4, g5, g6⟩ := sm_L (xs := r) fun z hz => h z (List.mem_cons_of_mem _ hz)
    refine ⟨p :: ps, by rw [pxL, h1, g1], ?_, ?_, ?_, ?_, ?_⟩
    · rw [PyData.showableAll, h2, g2]; rfl
    · rw [PyData.depthAll]; omega
    · rw [PyData.leavesShortAll, h4, g4]; rfl
    · rw [PyData.weightAll, List.length_cons, Nat.add_mul]; omega
    · rw [PyData.shownAll]
      intro t ht
      rcases List.mem_cons.mp ht with rfl | ht
      · exact h6
      · exact g6 t ht
theorem sm_lst {k B n : Nat} {xs : List D} (h : ∀ x ∈ xs, Sm k B x) (hn : xs.length ≤ n) : Sm (k + 1) (n * (B + 1)) (.lst xs) := by
  obtain ⟨ps, g1, g2, g3, g4, g5, g6⟩ := sm_L h
  have := Nat.mul_le_mul_right (B + 1) hn
  refine ⟨.list ps, by rw [px, g1]; rfl, by rw [PyData.showable]; exact g2, by rw [PyData.depth]; omega, by rw [PyData.leavesShort]; exact g4, by rw [PyData.weight]; omega, by rw [PyData.shown]; exact vd_list g6⟩
theorem sm_tup {k B n : Nat} {xs : List D} (h : ∀ x ∈ xs, Sm k B x) (hn : xs.length ≤ n) : Sm (k + 1) (n * (B + 1)) (.tup xs) := by
  obtain ⟨ps, g1, g2, g3, g4, g5, g6⟩ := sm_L h
  have := Nat.mul_le_mul_right (B + 1) hn
  refine ⟨.tuple ps, by rw [px, g1]; rfl, by rw [PyData.showable]; exact g2, by rw [PyData.depth]; omega, by rw [PyData.leavesShort]; exact g4, by rw [PyData.weight]; omega, by rw [PyData.shown]; exact vd_tup g6⟩
/-- what repr tells -/
def rpr (x : D) : Str := match px x with
  | some p => p.shown
  | none => Str.ofString ""
theorem sm_shw {k B : Nat} {xs : List D} (h : Sm k B (.lst xs)) (hk : k ≤ 64) (hB : B ≤ 400000) : ∃ p, (pxL xs).map PyData.list = some p ∧ Shw p ∧ p.shown = rpr (.lst xs) := by
  obtain ⟨p, h1, h2, h3, h4, h5, h6⟩ := h
  have e := h1
  rw [px] at e
  have s := PyData.shown_le 30 (by decide) p h4
  have hz : sizeLine = 16777216 := rfl
  refine ⟨p, e, ?_, by unfold rpr; rw [h1]⟩
  cases q : pxL xs with
  | none => rw [q] at e; cases e
  | some ps => rw [q] at e; cases e; exact ⟨fun i => by simp, by simp, fun b => by simp, fun s => by simp, h2, by omega, by rw [hz]; omega⟩
theorem rp_lst {k B : Nat} {xs : List D} {μ : Mu} {Q : Str → Prop} (h : Sm k B (.lst xs)) (hk : k ≤ 64) (hB : B ≤ 400000) (q : Q (rpr (.lst xs))) : wSome (pxM μ (.lst xs)) fun p => Shw p ∧ Q p.shown := by
  obtain ⟨p, e, w, r⟩ := sm_shw h hk hB
  have : pxM μ (.lst xs) = some p := by rw [← e]; show px (.lst xs) = _; rw [px]
  rw [this]; exact ⟨w, by rw [r]; exact q⟩
theorem rp_o {k B t : Nat} {xs : List D} {μ : Mu} {Q : Str → Prop} (ht : μ[t]? = some (.lst xs)) (h : Sm k B (.lst xs)) (hk : k ≤ 64) (hB : B ≤ 400000) (q : Q (rpr (.lst xs))) : wSome (pxM μ (.o t)) fun p => Shw p ∧ Q p.shown := by
  obtain ⟨p, e, w, r⟩ := sm_shw h hk hB
  have : pxM μ (.o t) = some p := by rw [← e]; show (match μ[t]? with | some (.lst xs) => (pxL xs).map PyData.list | _ => none) = _; rw [ht]
  rw [this]; exact ⟨w, by rw [r]; exact q⟩
theorem vd_rpr {k B : Nat} {x : D} (h : Sm k B x) : Vd (rpr x) := by
  obtain ⟨p, h1, _, _, _, _, h6⟩ := h
  unfold rpr; rw [h1]; exact h6
/-! texts compared -/
theorem lay_vd : ∀ xs : List Str, (∀ x ∈ xs, Vd x) → PyData.canLayAll0 (xs.map PyData.str) = true
  | [], _ => rfl
  | x :: xs, h => by
    show (PyData.canLay0 (.str x) && PyData.canLayAll0 (xs.map PyData.str)) = true
    rw [lay_vd xs fun y hy => h y (by simp [hy])]
    show (PyData.strOk x && true) = true
    rw [(h x (by simp)).ok]; rfl
theorem shaped_vd {xs : List Str} (h : ∀ x ∈ xs, Vd x) : SeqAt.shaped (.list (xs.map PyData.str)) = true := by
  unfold SeqAt.shaped
  rw [show PyData.canLay0 (.list (xs.map PyData.str)) = true from lay_vd xs h]
  have := depth_strs xs
  simp [PyData.depth]; omega
theorem pd_strs : ∀ ss : List Str, pdL (ss.map fun s => D.v (.str s)) = some (ss.map PyData.str)
  | [] => by simp [pdL]
  | s :: r => by rw [List.map_cons, pdL, pd_strs r, pd]; rfl
/-- two lists of texts compared -/
theorem eq_strs {k : Bool → Prop} {ss ts : List Str} (h1 : ∀ x ∈ ss, Vd x) (h2 : ∀ x ∈ ts, Vd x) (q : k (decide (ss = ts))) :
    SeqAt.shaped (.list (ss.map PyData.str)) = true ∧ SeqAt.shaped (.list (ts.map PyData.str)) = true ∧ k (PyData.eqv (.list (ss.map PyData.str)) (.list (ts.map PyData.str))) :=
  ⟨shaped_vd h1, shaped_vd h2, by rw [PyData.eqv, eqv_strs]; exact q⟩
theorem eq_nil {k : Bool → Prop} {ss : List Str} (h1 : ∀ x ∈ ss, Vd x) (q : k (decide (ss = []))) :
    wSome (Option.map PyData.list (pdL (ss.map fun s => D.v (.str s)))) fun p => SeqAt.shaped p = true ∧ SeqAt.shaped (.list []) = true ∧ k (p.eqv (.list [])) := by
  rw [pd_strs]; exact eq_strs (ts := []) h1 (fun _ h => nomatch h) q
/-! first and last signs -/
theorem ix_first {z : Str} {P : Nat → Prop} (h0 : 0 < z.length) (h : ∀ c r, tl z = c :: r → P c) : wSome (atI z.cps.toList 0) P := by
  have e : z.cps.toList = tl z := rfl
  rw [e]
  cases q : tl z with
  | nil => rw [tl_len, q] at h0; exact absurd h0 (Nat.lt_irrefl _)
  | cons c r => rw [at0]; exact h c r q
theorem ix_last {z : Str} {P : Nat → Prop} (h0 : 0 < z.length) (h : ∀ c r, tl z = r ++ [c] → P c) : wSome (atI z.cps.toList (-1)) P := by
  have e : z.cps.toList = tl z := rfl
  rw [e]
  have hl : (tl z).length ≠ 0 := by rw [← tl_len]; omega
  have hne : tl z ≠ [] := fun q => hl (by rw [q]; rfl)
  have a := List.dropLast_concat_getLast hne
  rw [← a, atI_last]
  exact h _ _ a.symm
theorem starts_one {s y : Str} {c d : Nat} {r : List Nat} (h : tl s = c :: r) (hy : tl y = [d]) : Txt.startswith s y = decide ((⟨#[c]⟩ : Str) = y) := by
  rw [starts_tl, h, hy]
  have : ((⟨#[c]⟩ : Str) = y) ↔ d = c := by rw [str_eq, hy, tl_one]; constructor <;> intro h <;> simp_all
  simp only [this, List.isPrefixOf, Bool.and_true]
  rw [Bool.eq_iff_iff]; simp
theorem ends_one {s y : Str} {c d : Nat} {r : List Nat} (h : tl s = r ++ [c]) (hy : tl y = [d]) : Txt.endswith s y = decide ((⟨#[c]⟩ : Str) = y) := by
  have : ((⟨#[c]⟩ : Str) = y) ↔ c = d := by rw [str_eq, hy, tl_one]; simp
  unfold Txt.endswith
  rw [StrLaws.subAt_eq, tl_len, tl_len]
  show (decide (0 + (tl y).length ≤ (tl s).length) && ((tl s).drop ((tl s).length - (tl y).length) |>.take (tl y).length) == tl y) = _
  rw [h, hy]
  simp only [this]
  rw [Bool.eq_iff_iff]; simp
theorem starts_cut {s y : Str} {n : Int} (hn : n = (y.length : Nat)) : (cutS s none (some n) = y) = (Txt.startswith s y = true) := by
  subst hn; exact propext (cut_starts s y)
theorem none_bad (l : List Nat) (f : Nat → Bool) (g : Nat → Str) : (((l.filter fun c => !f c).map g) = []) ↔ l.all f = true := by
  rw [List.map_eq_nil_iff, List.filter_eq_nil_iff, List.all_eq_true]; simp
/-! what is shown names nothing owned -/
mutual
theorem px_bl (m : Nat) : ∀ (d : D) (p : PyData), px d = some p → Bl m d
  | .v x, _, _ => .v x
  | .o k, p, e => by simp [px] at e
  | .lst xs, p, e => by
    rw [px] at e
    cases q : pxL xs with
    | none => rw [q] at e; cases e
    | some ps => exact .lst (px_blL m xs ps q)
  | .ls xs, p, e => by simp [px] at e
  | .tup xs, p, e => by
    rw [px] at e
    cases q : pxL xs with
    | none => rw [q] at e; cases e
    | some ps => exact .tup (px_blL m xs ps q)
  | .dic xs, p, e => by
    rw [px] at e
    cases q : pxK xs with
    | none => rw [q] at e; cases e
    | some ps => exact .dic (px_blK m xs ps q)
  | .ins C xs, p, e => by simp [px] at e
  | .fnc C xs, p, e => by simp [px] at e
theorem px_blL (m : Nat) : ∀ (xs : List D) (ps : List PyData), pxL xs = some ps → ∀ x ∈ xs, Bl m x
  | [], _, _, x, h => nomatch h
  | y :: r, ps, e, x, h => by
    rw [pxL] at e
    cases q1 : px y with
    | none => rw [q1] at e; cases e
    | some a =>
      cases q2 : pxL r with
      | none => rw [q1, q2] at e; cases e
      | some b =>
        rcases List.mem_cons.mp h with h | h
        · rw [h]; exact px_bl m y a q1
        · exact px_blL m r b q2 x h
theorem px_blK (m : Nat) : ∀ (xs : List (Key × D)) (ps : List PyData), pxK xs = some ps → ∀ x ∈ xs.map (·.2), Bl m x
  | [], _, _, x, h => nomatch h
  | (k, y) :: r, ps, e, x, h => by
    rw [pxK] at e
    cases q1 : px y with
    | none => rw [q1] at e; cases e
    | some a =>
      cases q2 : pxK r with
      | none => rw [q1, q2] at e; cases e
      | some b =>
        rcases List.mem_cons.mp h with h | h
        · rw [h]; exact px_bl m y a q1
        · exact px_blK m r b q2 x h
end
theorem Sm.bl {k B m : Nat} {x : D} (h : Sm k B x) : Bl m x := by
  obtain ⟨p, e, _⟩ := h
  exact px_bl m x p e
/-- the first of the bad ones -/
theorem bad_ones {A : Str → Prop} {ss : List Str} (q1 : ss = [] → A (Str.ofString "")) (q2 : ∀ s r, ss = s :: r → A s) : A (ss.head?.getD (Str.ofString "")) := by
  cases ss with
  | nil => exact q1 rfl
  | cons s r => exact q2 s r rfl
theorem rp_lstK {k B : Nat} {xs : List D} {μ : Mu} {P : PyData → Prop} (h : Sm k B (.lst xs)) (hk : k ≤ 64) (hB : B ≤ 400000) (q : ∀ p : PyData, p.shown = rpr (.lst xs) → P p) : wSome (pxM μ (.lst xs)) fun p => Shw p ∧ P p := by
  obtain ⟨p, e, w, r⟩ := sm_shw h hk hB
  have : pxM μ (.lst xs) = some p := by rw [← e]; show px (.lst xs) = _; rw [px]
  rw [this]; exact ⟨w, q p r⟩
theorem rp_oK {k B t : Nat} {xs : List D} {μ : Mu} {P : PyData → Prop} (ht : μ[t]? = some (.lst xs)) (h : Sm k B (.lst xs)) (hk : k ≤ 64) (hB : B ≤ 400000) (q : ∀ p : PyData, p.shown = rpr (.lst xs) → P p) : wSome (pxM μ (.o t)) fun p => Shw p ∧ P p := by
  obtain ⟨p, e, w, r⟩ := sm_shw h hk hB
  have : pxM μ (.o t) = some p := by rw [← e]; show (match μ[t]? with | some (.lst xs) => (pxL xs).map PyData.list | _ => none) = _; rw [ht]
  rw [this]; exact ⟨w, q p r⟩
/-- the same texts are the same -/
theorem eq_same {ss ts : List Str} {A B : Prop} (e : ss = ts) (h : ∀ x ∈ ss, Vd x) (q : B) : SeqAt.shaped (.list (ss.map PyData.str)) = true ∧ SeqAt.shaped (.list (ts.map PyData.str)) = true ∧ if PyData.eqv (.list (ss.map PyData.str)) (.list (ts.map PyData.str)) = false then A else B := by
  subst e
  exact eq_strs (k := fun b => if b = false then A else B) h h (by rw [decide_eq_true rfl, if_neg (by decide)]; exact q)
theorem vd2 {a b : Str} (h : Vd a) (k : Vd b) : ∀ x ∈ [a, b], Vd x := fun x hx => by
  simp only [List.mem_cons, List.not_mem_nil, or_false] at hx
  rcases hx with rfl | rfl
  · exact h
  · exact k
end Wb

set_option Elab.async false
set_option linter.all false
set_option maxRecDepth 100000
/-! is True, is False -/
namespace Wb
open PySem PySem.Spec PyProof.Rows L2
def isBlD (x : D) (b : Bool) : Bool := match x with
  | .v (.bl c) => decide (c = b)
  | _ => false
theorem op_isB {X : Cx} : OpR X (compareOp .Is) (fun x y H Q => ∃ b, y = .bl b ∧ Q (.bl (decide (x = .bl b))) H) := by
  intro pins s σ H x y v u Q I rx ry h
  obtain ⟨b, rfl, q⟩ := h
  cases (show u = Value.bool b from ry)
  by_cases e : x = .bl b
  · subst e
    cases (show v = Value.bool b from rx)
    exact wpAny_is_self rfl ⟨.bl true, H, I, rfl, by simpa using q⟩
  · have hv : v ≠ Value.bool b := fun z => e (by
      subst z
      cases x <;> first
        | (cases rx <;> rfl)
        | (obtain ⟨t, z⟩ := rx; cases z))
    have hp : plainIs v (Value.bool b) = true := by
      cases x <;> first
        | (cases rx; rfl)
        | (obtain ⟨t, rfl⟩ := rx; rfl)
    exact wpAny_is_other hp hv ⟨.bl false, H, I, rfl, by simpa [e] using q⟩
def oIsB : R3 := fun x y μ Q => match y with
  | .v (.bl b) => Q (.v (.bl (isBlD x b))) μ
  | _ => False
theorem isBl_at {K : PySem.W.Frag} {w : Wo} {v : V} {d : D} {b : Bool} (r : w.rv K v d) : decide (v = .bl b) = isBlD d b := by
  cases r with
  | v x => cases v <;> simp [isBlD]
  | _ => simp [isBlD]
theorem r_isB {K : PySem.W.Frag} {I : Pre} : SR K I (fun x y H Q => ∃ b, y = .bl b ∧ Q (.bl (decide (x = .bl b))) H) oIsB := fun w x y dx dy Q Q3 R _ rx ry h q => by
  unfold oIsB at h
  split at h
  · cases ry
    rw [← isBl_at rx] at h
    exact ⟨_, rfl, q w _ _ (.refl w) R (.v _) h⟩
  · exact h.elim
/-! a, b, .. = a list -/
theorem pg_lstK {X : Cx} {K : PySem.W.Frag} {pos : Pos} (hK : X.K = K) {es : List Expr} {k : Nat} {t : TGs} {n : Nat} (hc : X.calm = true) (h : PGs X es t) (hn : (assignEach es X.env).length = n := by rfl) (hst : (assignEach es X.env).findIdx? (·.1) = none := by rfl) : PG X (.Tuple es k pos) (gLst K n t) := by
  subst hK; exact pg_lst hc h hn hst
def kLst (n : Nat) (g : Gs3) : G3 := fun d s μ Q => match seqL μ d with
  | some xs => xs.length = n ∧ g xs s μ Q
  | none => False
theorem g_lst {K : PySem.W.Frag} {I : Pre} {n : Nat} {g : TGs} {f : Gs3} (hg : SGs K I g f) : SG K I (gLst K n g) (kLst n f) := fun w σ s v d Q Q3 S r h q => by
  unfold kLst at h
  split at h
  · rename_i ds e
    obtain ⟨a, xs, rfl, h1, h2⟩ := seqL_at S.rep r e
    exact ⟨a, xs, rfl, h1, by rw [h2.len]; exact h.1, hg w σ s xs ds Q Q3 S h2 h.2 q⟩
  · exact h.elim
end Wb

set_option Elab.async false
set_option linter.all false
set_option maxRecDepth 100000
/-! isinstance(x, C) for a class of the program's own -/
namespace Wb
open PySem PySem.Spec PyProof.Rows L2
/-- what isinstance asks of an instance's class -/
structure InsT (K : PySem.W.Frag) (C : Addr) : Prop where
  cl : Cls K C
  ha : PySem.W.findIn K (.ref C) "__class__" = some (some (.builtin "object.__class__"))
  hn : PySem.W.specialIn K (.builtin "object.__class__") "__get__" = some (some (.builtin "getset_descriptor.__get__"))
  htk : PySem.W.takesIn K (.builtin "object.__class__") = some true
  hm : PySem.W.mroIn K C (.type "object") = some true
def cIsiO (K : PySem.W.Frag) : C3 := fun ds μ Q => w2 ds fun x y => match y with
  | .v (.ref C) => (match x with
    | .ins C' _ => InsT K C' ∧ ∃ b, PySem.W.kitOne K (.ref C') (.ref C) = some b ∧ Q (.v (.bl b)) μ
    | x => wSome (tyD μ x) fun T => ∃ b, PySem.W.kitOne K (.type T) (.ref C) = some b ∧ Q (.v (.bl b)) μ)
  | _ => False
theorem c_isiO {K : PySem.W.Frag} {I : Pre} : SC K I (rIsi K) (cIsiO K) := fun w vs ds Q Q3 R _ r h q => by
  obtain ⟨v, u, d, e, rfl, rfl, r1, r2, h⟩ := w2_at r h
  split at h
  · rename_i C
    cases r2
    split at h
    · rename_i C' fs
      obtain ⟨it, b, e, h⟩ := h
      have z := q w _ _ (.refl w) R (.v _) h
      cases r1 with
      | ins hs hl hh => exact ⟨_, _, _, _, b, rfl, .own _, .base (.ins (vis_le w _ _ hs) it.cl it.ha it.hn it.htk it.hm), e, z⟩
    · obtain ⟨T, e1, h⟩ := wSome_at h
      obtain ⟨b, e, h⟩ := h
      have z := q w _ _ (.refl w) R (.v _) h
      rcases tyD_at R r1 e1 with ⟨s, rfl, rfl⟩ | ⟨s, rfl, rfl⟩ | ⟨s, rfl, rfl⟩ | ⟨rfl, rfl⟩ | ⟨a, rfl, t⟩
      · exact ⟨_, _, _, _, b, rfl, .own _, .base (.str s), e, z⟩
      · exact ⟨_, _, _, _, b, rfl, .own _, .base (.int s), e, z⟩
      · exact ⟨_, _, _, _, b, rfl, .own _, .base (.bl s), e, z⟩
      · exact ⟨_, _, _, _, b, rfl, .own _, .base .non, e, z⟩
      · exact ⟨_, _, _, _, b, rfl, .own _, t, e, z⟩
  · exact h.elim
theorem call_isiO {X : Cx} {K : PySem.W.Frag} (hK : X.K = K) : CallR X (.builtin "isinstance") (rIsi K) := by
  subst hK; exact call_isi
end Wb

set_option Elab.async false
set_option linter.all false
set_option maxRecDepth 100000
/-! several except clauses with names; defs that a suite calls with its exception, at the level of data -/
namespace Wb
open PySem PySem.Spec PyProof.Rows L2
/-! ### below the level of data: except .. as n, several -/
def wManyAs (K : PySem.W.Frag) (Wout : WX) (D : Ends) (i : Nat) : List (Value × (Addr → Value → Option Addr → TS)) → WX
  | [] => Wout
  | (c, ts) :: r => wAs K c i ts (wManyAs K Wout D i r) D
/-- isinstance of an exception that is pinned -/
theorem call_isXp {X : Cx} {K : PySem.W.Frag} {mg : Str → Option Value} (hK : X.K = K) (hm : X.mg = mg) {p : Addr × Obj} {cls : Value} {d : Option Addr} (hp : p ∈ X.pn) (hz : Zc cls d p.2) (hf : ∃ vs, p.2.data = .fields vs) : CallR X (.builtin "isinstance") (rIsX K mg p.1 cls d) := by
  subst hK hm
  obtain ⟨a, oe⟩ := p
  intro pins s σ H xs us Q I r h
  unfold rIsX at h
  split at h
  · rename_i b c
    rcases h with ⟨rfl, x, D, cv, rr, ec, E, hc, e, hdd, q⟩ | h
    · subst ec
      cases r with
      | cons rx rr' =>
        cases rr' with
        | cons rt rr'' =>
          cases rr''
          cases rx
          have ec := hc.eq rt
          subst ec
          obtain ⟨hget, _⟩ := I.pin (b, oe) (List.mem_append_left _ hp)
          obtain ⟨vs, hv⟩ := hf
          obtain ⟨oc, od, oda, osl⟩ := oe
          obtain ⟨h1, h2⟩ := hz
          dsimp only at h1 h2 hv
          subst h1 h2 hv
          rcases hdd with rfl | ⟨dd, fs, rfl, ea⟩
          · exact PySem.W.kia_one (PySem.W.kitx_exc (od := none) (hasDict_cls E.hd) E.ga E.gg E.T.exC E.ha E.hn E.ht E.hm) I.kIn ⟨hget, rfl, rfl, trivial⟩ e (fun z => nomatch z) fun tk => ⟨.bl rr, H, I.kept (t' := tk) fun _ _ z => z, rfl, q⟩
          · have hx : ObjOk X.prog X.w H s.heap dd (.xd fs) := I.hok dd _ ea
            obtain ⟨mA, hns, _⟩ := hx
            obtain ⟨od, ho, _⟩ := lookIn_ns hns
            exact PySem.W.kia_one (PySem.W.kitx_exc (od := some od) (hasDict_cls E.hd) E.ga E.gg E.T.exC E.ha E.hn E.ht E.hm) I.kIn ⟨hget, rfl, rfl, ho⟩ e (fun z => nomatch z) fun tk => ⟨.bl rr, H, I.kept (t' := tk) fun _ _ z => z, rfl, q⟩
    · exact call_isiP rfl pins s σ H _ us Q I r h
  · exact call_isiP rfl pins s σ H _ us Q I r h
/-! == of a dict and a text -/
theorem str_eq_declines_dict (b : Str) (u : Tok) (l : Addr) (es : Array DictEntry) (ep : Nat) (dd : Option Addr) (sl : Array (Option Value)) :
    Meets (Builtin.«str.__eq__» ⟨[.str b u, .ref l], []⟩) (fun _ R s => s.heap.get? l = some { cls := .type "dict", dict := dd, data := .dict es ep, slots := sl } ∧ R (.ok (.ret .notImplemented)) s) :=
  .of_wp fun prog w A R s h => by obtain ⟨hp, g, d, tk, os⟩ := s; obtain ⟨hl, h⟩ := h; have f1 := F.sub_dict_str; wp_walk using AutoSeq1.wpAny_loadPart' hl, wpAny_load hl; exact ⟨_, rfl, h⟩
theorem compare_dict_str {P : Program} {w : World} {A : Around} {E : Value → Shared → Prop} {s : Shared} {Q : Value → Shared → Prop} {l : Addr} {kv : List (Key × Value)} {b : Str} {u : Tok} (da : s.heap.DictOf (mixKind P w) l kv) (hu : A.units < cLine) (h : Q (.bool false) s) :
    wpAny (model P w) A (compareOp .Eq (.ref l) (.str b u)) Q E s := by
  obtain ⟨⟨oc, od, odt, osl⟩, es, ep, ho, ⟨h1, h2, h3⟩, hd, _⟩ := id da
  dsimp only at h1 h2 h3 hd
  subst h1 h2 h3 hd
  show wpAny _ _ (richCompare .Eq _ _) _ _ _
  refine SeqAt.rc_eq_decline_or (k := false) da.typeIs (typeIs_str s b u) (by decide) F.sub_str_dict F.slot_dict_eq F.slot_str_eq_refl (fun Q' hq => ?_)
    (fun _ hq => call_meets F.slot_str_eq_refl (typeIs_str s b u) F.entry_str_eq (F.args_str_eq_2 _ _) (str_eq_declines_dict b u l es ep none #[]) ⟨ho, hq⟩)
    (fun _ hq => wpAny_of_eq (rfl : isSame (.ref l) (.str b u) = pure false) hq) (.inr hu) h
  refine wpAny_call_entry F.slot_dict_eq da.typeIs F.entry_dict_eq ?_ (F.args_dict_eq_2 _ _)
  show wpAny _ _ (Builtin.Dict.dictSlotArgs "__eq__" ⟨[.ref l, .str b u], []⟩ >>= _) _ _ s
  refine wpAny_bind ?_
  unfold Builtin.Dict.dictSlotArgs
  refine wpAny_bind (wpAny_notOrdered_dict da.typeIs ?_)
  show wpAny _ _ (pure (Value.ref l, Value.str b u)) _ _ s
  refine wpAny_pure ?_
  refine wpAny_bind (wpAny_isInstance (T := "str") (typeIs_str s b u) F.sub_str_dict ?_)
  simp only [Bool.not_false, if_true]
  exact wpAny_bind (wpAny_rule (wpAny_pure ⟨_, rfl, hq⟩))
def rEqX (K : PySem.W.Frag) : R2 := fun x y H Q => (∃ (a : Addr) (kv : List (Key × V)) (s : Str), x = .ref a ∧ y = .str s ∧ H a = some (.dK kv) ∧ Q (.bl false) H) ∨ (∃ (b : Bool) (s : Str), x = .bl b ∧ y = .str s ∧ Q (.bl false) H) ∨ rEqP K x y H Q
theorem op_eqX {X : Cx} {K : PySem.W.Frag} (hK : X.K = K) (hu : X.A.units + 64 < cLine) : OpR X (compareOp .Eq) (rEqX K) := by
  subst hK
  intro pins s σ H x y v u Q I rx ry h
  rcases h with ⟨a, kv, t, rfl, rfl, e, q⟩ | ⟨b, t, rfl, rfl, q⟩ | h
  · cases (show v = Value.ref a from rx)
    obtain ⟨tk, rfl⟩ := ry
    obtain ⟨_, _, vs, _, hd⟩ := (show ObjOk X.prog X.w H s.heap a (.dK kv) from I.hok a _ e)
    exact compare_dict_str hd (by omega) ⟨.bl false, H, I, rfl, q⟩
  · cases (show v = Value.bool b from rx)
    obtain ⟨tk, rfl⟩ := ry
    exact SeqAt.RcAt.bool_str b t tk _ _ _ _ ⟨.bl false, H, I, rfl, q⟩
  · exact op_eqP rfl hu pins s σ H x y v u Q I rx ry h
def oEqX : R3 := fun x y μ Q => match x, y with
  | .dic _, .v (.str _) => Q (.v (.bl false)) μ
  | .v (.bl _), .v (.str _) => Q (.v (.bl false)) μ
  | x, y => oEq false x y μ Q
theorem r_eqX {K : PySem.W.Frag} {I : Pre} : SR K I (rEqX K) oEqX := fun w x y dx dy Q Q3 R ok rx ry h q => by
  unfold oEqX at h
  split at h
  · cases ry
    cases rx with
    | dic hs hl hh => exact .inl ⟨_, _, _, rfl, rfl, vis_le w _ _ hs, q w _ _ (.refl w) R (.v _) h⟩
  · cases ry; cases rx
    exact .inr (.inl ⟨_, _, rfl, rfl, q w _ _ (.refl w) R (.v _) h⟩)
  · exact .inr (.inr (r_eq (I := I) w x y dx dy Q Q3 R ok rx ry h q))
/-! ### at the level of data -/
def wManyAs3 (K : PySem.W.Frag) (i : Nat) (Wo' : W3) (D0 : Ends3) : List (Value × (Addr → Addr → List (Str × D) → S3)) → W3
  | [] => Wo'
  | (c, ts) :: r => wAs3 K c i ts (wManyAs3 K i Wo' D0 r) D0
def xTryMany (K : PySem.W.Frag) (i : Nat) (l : List (Value × (Addr → Addr → List (Str × D) → S3))) (tb : W3 → S3) (Wo' : W3) : S3 := fun D s μ => tb (wManyAs3 K i Wo' D l) D s μ
section
variable {K : PySem.W.Frag} {I : Pre}
inductive HdS (K : PySem.W.Frag) (I : Pre) : List (Value × (Addr → Value → Option Addr → TS)) → List (Value × (Addr → Addr → List (Str × D) → S3)) → Prop
  | nil : HdS K I [] []
  | cons {c : Value} {ts : Addr → Value → Option Addr → TS} {ts3 : Addr → Addr → List (Str × D) → S3} {l : List (Value × (Addr → Value → Option Addr → TS))} {l3 : List (Value × (Addr → Addr → List (Str × D) → S3))}
      (hs : ∀ a cls d C fs, SS K (I.and K cls d C fs) (ts a cls d) (ts3 a C fs)) (r : HdS K I l l3) : HdS K I ((c, ts) :: l) ((c, ts3) :: l3)
theorem wok_many {i : Nat} {Wout : WX} {Wo' : W3} (hW : WOk K I Wout Wo') {w : Wo} {D0 : Ends} {D3 : Ends3} (q : PostD K w D0 D3) {l : List (Value × (Addr → Value → Option Addr → TS))} {l3 : List (Value × (Addr → Addr → List (Str × D) → S3))} (h : HdS K I l l3) :
    WOk K (I.since w) (wManyAs K Wout D0 i l) (wManyAs3 K i Wo' D3 l3) := by
  induction h with
  | nil => exact fun w1 σ1 s1 cls dd C fs S1 X h1 => hW w1 σ1 s1 cls dd C fs ⟨S1.rep, S1.rvs, S1.ok.1⟩ X h1
  | cons hs r ih =>
    intro w1 σ1 s1 cls dd C fs S1 X h1
    obtain ⟨b, hb, h2, h3⟩ := h1
    obtain ⟨I1, L1⟩ := S1.ok
    have ec := X.cls
    subst ec
    refine ⟨b, hb, fun e a na => ?_, fun e => ih w1 σ1 s1 _ dd C fs S1 X (h3 e)⟩
    have qq := q.up L1
    exact hs a (.ref C) dd C fs w1 _ _ _ _ ⟨S1.rep, S1.rvs.set (.v _), I1, X⟩ (h2 e a) ⟨fun w2 σ2 s2 L2 R2 V2 h => qq.nx w2 _ _ L2 R2 (V2.unset none) h, qq.rt, fun w2 σ2 s2 L2 R2 V2 h => qq.bk w2 _ _ L2 R2 (V2.unset none) h, fun w2 σ2 s2 L2 R2 V2 h => qq.ct w2 _ _ L2 R2 (V2.unset none) h⟩
theorem x_try_many {i : Nat} {tb : WX → TS} {Wout : WX} {tb3 : W3 → S3} {Wo' : W3} {l : List (Value × (Addr → Value → Option Addr → TS))} {l3 : List (Value × (Addr → Addr → List (Str × D) → S3))} (hW : WOk K I Wout Wo')
    (hb : ∀ (I : Pre) (W : WX) (W' : W3), WOk K I W W' → SS K I (tb W) (tb3 W')) (hs : HdS K I l l3) :
    SS K I (fun D σ H => tb (wManyAs K Wout D i l) D σ H) (xTryMany K i l3 tb3 Wo') := fun w σ s D D3 S h q =>
  hb (I.since w) _ _ (wok_many hW q hs) w σ s D D3 ⟨S.rep, S.rvs, S.ok, .refl w⟩ h q
end
/-- a def's promise of an exception at a, of the class C with the fields fs -/
abbrev SpP3 := Addr → Addr → List (Str × D) → Sp3
def liftP (K : PySem.W.Frag) (sp : SpP3) : Addr → Value → Option Addr → Sp := fun a cls d vs H Q E => ∃ w ds Q3 E3 C fs, w.hp = H ∧ Rep K w ∧ w.rl K vs ds ∧ XR K w cls d C fs ∧ sp a C fs ds w.mu Q3 E3 ∧ Post K w Q Q3 ∧ PostX K w E E3
theorem liftP_len {K : PySem.W.Frag} {sp : SpP3} {n : Nat} (h : ∀ a C fs ds μ Q E, sp a C fs ds μ Q E → ds.length = n) : ∀ a cls d vs H Q E, liftP K sp a cls d vs H Q E → vs.length = n := fun a cls d vs H Q E ⟨w, ds, Q3, E3, C, fs, _, _, r, _, z, _, _⟩ => by rw [r.len]; exact h _ _ _ _ _ _ _ z
def DoesP (e : Addr → List (Str × D) → S3) (N : List Str) (sp : Addr → List (Str × D) → Sp3) : Prop := ∀ C fs ds μ Q3 E3, sp C fs ds μ Q3 E3 → e C fs { nx := fun _ μ' => RtC μ Q3 (.v .non) μ', rt := RtC μ Q3 } (start3 N ds) μ
theorem run_bodyP {K : PySem.W.Frag} {N : List Str} {t : TS} {e : Addr → List (Str × D) → S3} {sp : SpP3} {a : Addr} {cls : Value} {d : Option Addr} {vs : List V} {H : Hp} {Q : VK} {E : XK} (hl : liftP K sp a cls d vs H Q E)
    (ht : ∀ (I : Pre) (C : Addr) (fs : List (Str × D)), SS K (I.and K cls d C fs) t (e C fs)) (hd : DoesP e N (sp a)) :
    t { nx := fun _ H' => Q .non H', rt := Q } (L2.start N vs) H := by
  obtain ⟨w0, ds, Q3, E3, C, fs, rfl, R0, r, X, hsp, q, x⟩ := hl
  have q' := q.cut R0
  refine ht (preOf K w0) C fs w0 (L2.start N vs) (start3 N ds) _ _ ⟨R0, start_rv r, .refl w0, X⟩ (hd C fs ds w0.mu Q3 E3 hsp)
    ⟨fun w' σ s L R V h => q' w' _ _ L R (.v _) h, fun w' v d L R V h => q' w' v d L R V h, fun _ _ _ _ _ _ h => h.elim, fun _ _ _ _ _ _ h => h.elim⟩
/-- a suite calls it -/
def eCallP (sp : Sp3) (a : A3) : E3 := fun s μ Q => a s μ fun ds μ1 => sp ds μ1 Q E03
theorem s_callP {K : PySem.W.Frag} {I : Pre} {sp : SpP3} {a : Addr} {cls : Value} {d : Option Addr} {C : Addr} {fs : List (Str × D)} {t : TA} {ea : A3} (ht : SA K (I.and K cls d C fs) t ea) : SE K (I.and K cls d C fs) (tCallP (liftP K sp a cls d) t) (eCallP (sp a C fs) ea) := fun w σ s Q Q3 S h q =>
  ht w σ s _ _ S h fun w1 vs ds L1 R1 V1 h1 => ⟨w1, ds, Q3, E03, C, fs, rfl, R1, V1, S.ok.2.up L1, h1, q.up L1, fun _ _ _ _ _ _ _ _ z => z.elim⟩
/-- a raise whose __init__ takes its default -/
def eMkD (C : Addr) (f : Str) (v : V) : St3 → Mu → X3 → Prop := fun s μ Q => Q C [(f, .v v)] μ
theorem mk_D {K : PySem.W.Frag} {I : Pre} {C : Addr} {f : Str} {v : V} {ta : TA} {ea : A3} (ha : SA K I ta ea) (he : ea = eNil) : SMk K I (tMkO C (sp_exi1 C f) [v] ta) (eMkD C f v) := fun w σ s Q Q3 S h q => by
  subst he
  refine ha w σ s _ (fun ds μ => ds = [] ∧ eMkD C f v s μ Q3) S ⟨rfl, h⟩ fun w1 vs ds L1 R1 V1 h1 => ?_
  obtain ⟨rfl, h1⟩ := h1
  have := V1.unnil
  subst this
  refine w_mk1 (y := v) rfl fun d hd => ?_
  obtain ⟨R2, L2, X2⟩ := xd_new (fv := [(f, v)]) (fs := [(f, .v v)]) R1 hd ⟨rfl, fun i v' d' a b => by
    cases i with
    | zero => simp at a b; subst a b; exact .v _
    | succ i => simp at a⟩ C
  exact q _ _ _ _ _ (L1.trans L2) R2 X2 h1
end Wb

set_option Elab.async false
set_option linter.all false
set_option maxRecDepth 100000
/-! where an exception is handled: walks, tuples taken apart, comprehensions; exceptions whose context is None -/
namespace Wb
open PySem PySem.Spec PyProof.Rows L2
open HotX
/-- the handled exception is known in every state of the context -/
def HotG (X : Cx) : Prop := ∀ (pins : List (Addr × Obj)) (σ : L2.St) (H : Hp) (s : Shared), Inv X pins σ H s → ∃ x1, HotAt X.A x1 s.heap
theorem HotG.of {X : Cx} (c : L2H.HotC X) : HotG X := fun _ _ _ _ I => c.at I
/-- in a block: it stood at the block's beginning -/
theorem HotG.blk {X : Cx} {pins : List (Addr × Obj)} {σ : L2.St} {H : Hp} {s : Shared} {scope : Scope} {ce : Env} {fp : List Addr} (c : L2H.HotC X) (I : Inv X pins σ H s) (hfp : ∀ b ∈ fp, FpOk X pins H b) : HotG (X.blk s H scope ce fp) := by
  obtain ⟨p, ⟨hh, vs, e1, c1⟩, hp⟩ := c
  obtain ⟨p1, p2, p3, p4, p5⟩ := I.pin p (List.mem_append_left _ hp)
  intro pins' σ' H' s' J
  have nf : p.1 ∉ (X.blk s H scope ce fp).fs := fun hm => (List.mem_cons.mp (I.stkSub p.1 hm)).elim p3 p4
  have ne : p.1 ∉ (X.blk s H scope ce fp).ex := fun hm => (hfp p.1 hm).2.2.2.2.2 p (List.mem_append_left _ hp) rfl
  exact ⟨p.1, hh, p.2, vs, J.base.keep p.1 p.2 p1 p2 nf ne, e1, c1⟩
section
variable {prog : Program} {w : World} {A : Around} {E : Value → Shared → Prop} {s : Shared}
theorem hot_set {x1 it : Addr} {h : Heap} {o : Obj} {vs : Array Value} {f : Obj → Obj} (hot : HotAt A x1 h) (ho : h.get? it = some o) (hd : o.data = .fields vs) (hne : x1 ≠ it) : HotAt A x1 (h.update it f) := by
  obtain ⟨hh, o1, vs1, h1, d1, c1⟩ := hot
  exact ⟨hh, o1, vs1, by rw [Heap.get?_update_other _ _ (Ne.symm hne)]; exact h1, d1, c1⟩
theorem nextOf_list_end_hot {it l : Addr} {i : Nat} {items} {Q : Value → Shared → Prop} {x1 : Addr} (hot : HotAt A x1 s.heap) (hx1 : x1 ≠ it)
    (hit : s.heap.IsListIter it l i) (hl : s.heap.IsList l items) (hx : items[i]? = none)
    (hE : ∀ h' e, Heap.ExtBut it s.heap h' → (∃ o, h'.get? e = some o ∧ o.cls = .type "StopIteration") → E (.ref e) { s with heap := h' }) :
    wpAny (model prog w) A (Builtin.SmallTypes.nextOf (.ref it)) Q E s := by
  obtain ⟨o, ho, hc, hd⟩ := id hit
  obtain ⟨ol, hol, _, nl, hdl⟩ := hl
  unfold Builtin.SmallTypes.nextOf
  refine wpAny_bind (wpAny_callSpecial?_slot (name := Str.ofString "__next__") hit.typeIs slot_listiter_next
    (wpAny_call_entry slot_listiter_next hit.typeIs entry_listiter_next ?_ (args_listiter_next _)))
  show wpAny _ _ (field (.ref it) 0 >>= _) _ _ s
  refine wpAny_bind (wpAny_field ho hd (x := .ref l) rfl ?_)
  show wpAny _ _ (if (Value.ref l == Value.none) = true then _ else _) _ _ s
  rw [if_neg (show ¬ ((Value.ref l == Value.none) = true) from Bool.false_ne_true)]
  show wpAny _ _ (field (.ref it) 1 >>= _) _ _ s
  refine wpAny_bind (wpAny_field ho hd (x := .int i 0) rfl ?_)
  show wpAny _ _ (seqItems? (.ref l) >>= _) _ _ s
  refine wpAny_bind (wpAny_seqItems hol hdl ?_)
  simp only [Int.toNat_natCast, hx]
  refine wpAny_bind (wpAny_rule (wpAny_bind (wpAny_setField ho hd (by simp) ?_)))
  show wpAny _ _ (newExc (.type "StopIteration") [] >>= _) _ _ _
  refine wpAny_bind ?_
  simp only [newExc, newTuple]
  refine wpAny_bind (wpAny_newObj_type ?_ (by size_fits))
  refine wpAny_bind (m := firstArgMember _ _) (wpAny_of_eq (a := Value.none) (by first | rfl | (simp only [firstArgMember]; rfl)) ?_)
  refine wpAny_newObj_type ?_ (by size_fits)
  obtain ⟨hh, o1, vs1, h1, d1, c1⟩ := hot_set (f := Obj.mapFields (·.setIfInBounds 0 .none)) hot ho hd hx1
  refine raiseNew_hot ⟨hh, o1, vs1, Heap.get?_push_of_some _ (Heap.get?_push_of_some _ h1), d1, c1⟩ (Nat.ne_of_lt (Heap.lt_size (Heap.get?_push_of_some _ h1))) (Heap.get?_push_size _ rfl) rfl (by first | (simp; done) | (simp; omega) | (simp only [Array.size_append]; simp; omega)) ?_
  refine hE _ _ (fun b o hb e => ?_) ⟨_, Heap.get?_update_self _ (Heap.get?_push_size _ rfl) rfl, rfl⟩
  have e0 : (s.heap.update it (Obj.mapFields (·.setIfInBounds 0 .none))).get? b = some o := by rw [Heap.get?_update_other _ _ (Ne.symm hb)]; exact e
  rw [Heap.get?_update_other _ _ (Nat.ne_of_gt (Heap.lt_size (Heap.get?_push_of_some _ e0)))]
  exact Heap.get?_push_of_some _ (Heap.get?_push_of_some _ e0)
theorem zip_next_end_hot {z TI TO i1 i2 l1 l2 : Addr} {k1 k2 : Nat} {xs ys : Array Value} {a b : Value} {Q : Fin → Shared → Prop} {x1 : Addr} (hot : HotAt A x1 s.heap) (nz : x1 ≠ z) (n1 : x1 ≠ i1) (n2 : x1 ≠ i2) (nTO : x1 ≠ TO) (D : ZipApart z TI TO i1 i2 l1 l2)
    (hz : IsZip s.heap z TI TO .none) (hTI : IsPair s.heap TI (.ref i1) (.ref i2)) (hTO : IsPair s.heap TO a b)
    (h1 : s.heap.IsListIter i1 l1 k1) (h2 : s.heap.IsListIter i2 l2 k2) (hl1 : s.heap.IsList l1 xs) (hl2 : s.heap.IsList l2 ys) (hend : xs[k1]? = none ∨ ys[k2]? = none)
    (hE : ∀ h' e, (∀ c o, c ≠ z → c ≠ TO → c ≠ i1 → c ≠ i2 → s.heap.get? c = some o → h'.get? c = some o) → (∃ o, h'.get? e = some o ∧ o.cls = .type "StopIteration") → E (.ref e) { s with heap := h' }) :
    wpAny (model prog w) A (Builtin.«zip.__next__» ⟨[.ref z], []⟩) Q E s := by
  obtain ⟨hh, oX, vX, hX, dX, cX⟩ := hot
  show wpAny _ _ (field (.ref z) 2 >>= _) _ _ _
  refine wpAny_bind (wpAny_field hz rfl (x := .bool false) rfl ?_)
  show wpAny _ _ (field (.ref z) 3 >>= _) _ _ _
  refine wpAny_bind (wpAny_field hz rfl (x := .ref TI) rfl ?_)
  refine wpAny_bind (wpAny_seqItems hTI rfl ?_)
  show wpAny _ _ (Builtin.SmallTypes.ownedTupleIsFree (.ref z) >>= _) _ _ _
  refine wpAny_bind ?_
  unfold Builtin.SmallTypes.ownedTupleIsFree
  refine wpAny_bind (wpAny_field hz rfl (x := .none) rfl (wpAny_pure ?_))
  simp only [if_true]
  refine wpAny_bind (wpAny_rule ?_)
  refine wpAny_bind (wpAny_field hz rfl (x := .ref TO) rfl ?_)
  refine wpAny_bind (wpAny_setField_rec hz (by simp) fun h₁ hz₁ hs₁ => ?_)
  replace hz₁ : IsZip h₁ z TI TO .ellipsis := hz₁
  refine wpAny_bind ?_
  simp only [List.zipIdx_cons, List.zipIdx_nil, List.forIn_cons, List.forIn_nil]
  refine wpAny_bind (wpAny_bind (wpAny_onRaise ?_))
  show wpAny _ _ (Builtin.SmallTypes.nextOf (.ref i1) >>= _) _ _ _
  cases hx : xs[k1]? with
  | none =>
    refine wpAny_bind (nextOf_list_end_hot ⟨hh, oX, vX, hs₁.extBut _ _ nz hX, dX, cX⟩ n1 (h1.extBut hs₁.extBut D.i1z) (hl1.extBut hs₁.extBut D.l1z) hx fun h₂ e hs₂ he => ?_)
    obtain ⟨oe, hoe, hce⟩ := he
    have hz₂ : IsZip h₂ z TI TO .ellipsis := hs₂ _ _ D.i1z.symm hz₁
    have hez : e ≠ z := fun x => by subst x; rw [hz₂] at hoe; cases hoe; simp at hce
    refine wpAny_setField_rec hz₂ (by simp) fun h₃ _ hs₃ => hE h₃ e (fun c o c1 _ c3 _ x => hs₃.extBut _ _ c1 (hs₂ _ _ c3 (hs₁.extBut _ _ c1 x))) ⟨oe, hs₃.extBut _ _ hez hoe, hce⟩
  | some x =>
    have hy : ys[k2]? = none := by rcases hend with h | h; rw [hx] at h; cases h; exact h
    refine wpAny_bind (wpAny_nextOf_list_item (h1.extBut hs₁.extBut D.i1z) (hl1.extBut hs₁.extBut D.l1z) hx fun h₂ h1₂ hs₂ => wpAny_pure ?_)
    have hTO₂ : IsPair h₂ TO a b := hs₂.extBut _ _ D.TOi1 (hs₁.extBut _ _ D.TOz hTO)
    refine wpAny_bind (wpAny_seqItems hTO₂ rfl ?_)
    refine wpAny_bind (wpAny_updateSeq_pair hTO₂ fun h₃ hTO₃ hs₃ => ?_)
    refine wpAny_bind (wpAny_letGo (wpAny_pure ?_))
    refine wpAny_bind (wpAny_bind (wpAny_onRaise ?_))
    show wpAny _ _ (Builtin.SmallTypes.nextOf (.ref i2) >>= _) _ _ _
    refine wpAny_bind (nextOf_list_end_hot ⟨hh, oX, vX, hs₃.extBut _ _ nTO (hs₂.extBut _ _ n1 (hs₁.extBut _ _ nz hX)), dX, cX⟩ n2 (((h2.extBut hs₁.extBut D.i2z).extBut hs₂.extBut D.i12.symm).extBut hs₃.extBut D.TOi2.symm)
      (((hl2.extBut hs₁.extBut D.l2z).extBut hs₂.extBut D.l2i1).extBut hs₃.extBut D.l2TO) hy fun h₄ e hs₄ he => ?_)
    obtain ⟨oe, hoe, hce⟩ := he
    have hz₄ : IsZip h₄ z TI TO .ellipsis := hs₄ _ _ D.i2z.symm (hs₃.extBut _ _ D.TOz.symm (hs₂.extBut _ _ D.i1z.symm hz₁))
    have hez : e ≠ z := fun x => by subst x; rw [hz₄] at hoe; cases hoe; simp at hce
    refine wpAny_setField_rec hz₄ (by simp) fun h₅ _ hs₅ => hE h₅ e (fun c o c1 c2 c3 c4 x => hs₅.extBut _ _ c1 (hs₄ _ _ c4 (hs₃.extBut _ _ c2 (hs₂.extBut _ _ c3 (hs₁.extBut _ _ c1 x))))) ⟨oe, hs₅.extBut _ _ hez hoe, hce⟩

theorem pyNext_zip_end_hot {z TI TO i1 i2 l1 l2 : Addr} {k1 k2 : Nat} {xs ys : Array Value} {a b : Value} {Q : Option Value → Shared → Prop} {x1 : Addr} (hot : HotAt A x1 s.heap) (nz : x1 ≠ z) (n1 : x1 ≠ i1) (n2 : x1 ≠ i2) (nTO : x1 ≠ TO) (D : ZipApart z TI TO i1 i2 l1 l2)
    (hz : IsZip s.heap z TI TO .none) (hTI : IsPair s.heap TI (.ref i1) (.ref i2)) (hTO : IsPair s.heap TO a b)
    (h1 : s.heap.IsListIter i1 l1 k1) (h2 : s.heap.IsListIter i2 l2 k2) (hl1 : s.heap.IsList l1 xs) (hl2 : s.heap.IsList l2 ys) (hend : xs[k1]? = none ∨ ys[k2]? = none)
    (hQ : ∀ h', (∀ c o, c ≠ z → c ≠ TO → c ≠ i1 → c ≠ i2 → s.heap.get? c = some o → h'.get? c = some o) → Q none { s with heap := h' }) : wpAny (model prog w) A (pyNext (.ref z)) Q E s := by
  have hT : s.TypeIs (.ref z) "zip" := ⟨_, hz, rfl⟩
  unfold pyNext
  refine wpAny_bind (wpAny_attempt (wpAny_callSpecial?_slot (name := Str.ofString "__next__") hT F.slot_zip_next
    (wpAny_call_entry F.slot_zip_next hT F.entry_zip_next (zip_next_end_hot hot nz n1 n2 nTO D hz hTI hTO h1 h2 hl1 hl2 hend fun h' e hk he => ?_) (F.args_zip_next_1 _))))
  obtain ⟨o, ho, hc⟩ := he
  refine wpAny_bind (wpAny_isInstance (T := "StopIteration") (b := true) ⟨o, ho, hc⟩ isSubtype_stop ?_)
  exact wpAny_pure (hQ _ hk)

theorem next_tuple_end_hot {it t : Addr} {i : Nat} {items} {Q : Option Value → Shared → Prop} {x1 : Addr} (hot : HotAt A x1 s.heap) (hx1 : x1 ≠ it)
    (hit : IsTupIter s.heap it t i) (ht : IsTup s.heap t items) (hx : items[i]? = none)
    (hQ : ∀ h', Heap.ExtBut it s.heap h' → Q none { s with heap := h' }) : wpAny (model prog w) A (pyNext (.ref it)) Q E s := by
  obtain ⟨o, ho, hc, hd⟩ := id hit
  obtain ⟨ol, hol, _, nl, hdl⟩ := ht
  unfold pyNext
  refine wpAny_bind (wpAny_attempt (wpAny_callSpecial?_slot (name := Str.ofString "__next__") hit.typeIs slot_tupleiter_next
    (wpAny_call_entry slot_tupleiter_next hit.typeIs entry_tupleiter_next ?_ (args_tupleiter_next _))))
  show wpAny _ _ (field (.ref it) 0 >>= _) _ _ s
  refine wpAny_bind (wpAny_field ho hd (x := .ref t) rfl ?_)
  show wpAny _ _ (if (Value.ref t == Value.none) = true then _ else _) _ _ s
  rw [if_neg (show ¬ ((Value.ref t == Value.none) = true) from Bool.false_ne_true)]
  show wpAny _ _ (field (.ref it) 1 >>= _) _ _ s
  refine wpAny_bind (wpAny_field ho hd (x := .int i 0) rfl ?_)
  show wpAny _ _ (seqItems? (.ref t) >>= _) _ _ s
  refine wpAny_bind (wpAny_seqItems hol hdl ?_)
  simp only [Int.toNat_natCast, hx]
  refine wpAny_bind (wpAny_rule (wpAny_bind (wpAny_setField ho hd (by simp) ?_)))
  show wpAny _ _ (newExc (.type "StopIteration") [] >>= _) _ _ _
  refine wpAny_bind ?_
  simp only [newExc, newTuple]
  refine wpAny_bind (wpAny_newObj_type ?_ (by size_fits))
  refine wpAny_bind (m := firstArgMember _ _) (wpAny_of_eq (a := Value.none) (by first | rfl | (simp only [firstArgMember]; rfl)) ?_)
  refine wpAny_newObj_type ?_ (by size_fits)
  obtain ⟨hh, o1, vs1, h1, d1, c1⟩ := hot_set (f := Obj.mapFields (·.setIfInBounds 0 .none)) hot ho hd hx1
  refine raiseNew_hot ⟨hh, o1, vs1, Heap.get?_push_of_some _ (Heap.get?_push_of_some _ h1), d1, c1⟩ (Nat.ne_of_lt (Heap.lt_size (Heap.get?_push_of_some _ h1))) (Heap.get?_push_size _ rfl) rfl (by first | (simp; done) | (simp; omega) | (simp only [Array.size_append]; simp; omega)) ?_
  refine wpAny_bind (wpAny_isInstance (T := "StopIteration") (b := true) ⟨_, Heap.get?_update_self _ (Heap.get?_push_size _ rfl) rfl, rfl⟩ isSubtype_stop ?_)
  refine wpAny_pure (hQ _ fun b o hb e => ?_)
  have e0 : (s.heap.update it (Obj.mapFields (·.setIfInBounds 0 .none))).get? b = some o := by rw [Heap.get?_update_other _ _ (Ne.symm hb)]; exact e
  rw [Heap.get?_update_other _ _ (Nat.ne_of_gt (Heap.lt_size (Heap.get?_push_of_some _ e0)))]
  exact Heap.get?_push_of_some _ (Heap.get?_push_of_some _ e0)
theorem unpackItems_tuple_hot {t : Addr} {items : Array Value} {Q : List Value → Shared → Prop} {x1 : Addr} (hot : HotAt A x1 s.heap) (ht : IsTup s.heap t items)
    (hQ : ∀ h', Heap.ExtBut s.heap.objs.size s.heap h' → Q items.toList { s with heap := h' }) : wpAny (model prog w) A (unpackItems (.ref t) items.size none) Q E s := by
  have hlt : t ≠ s.heap.objs.size := by obtain ⟨o, ho, _⟩ := ht; exact Nat.ne_of_lt (Heap.lt_size ho)
  unfold unpackItems
  refine wpAny_bind ?_
  · unfold notIterableAtAll
    refine wpAny_bind (wpAny_specialOf ht.typeIs slot_tuple_iter.lookup ?_)
    refine wpAny_pure ?_
    simp only [Bool.false_eq_true, if_false]
    refine wpAny_bind (wpAny_holding (iter_tuple ht ?_))
    refine wpAny_bind (wpAny_holding (draw_tuple hlt items.size 0 _ _ ⟨_, Heap.get?_push_size _ rfl, rfl, rfl⟩ (ht.push _) (by omega) fun h₁ hit₁ hs₁ => ?_))
    have hall : List.take items.size (List.drop 0 items.toList) = items.toList := by
      rw [List.drop_zero]; exact List.take_of_length_le (by simp)
    rw [hall]
    rw [if_neg (by simp)]
    have ht₁ : IsTup h₁ t items := (ht.push _).extBut hs₁.extBut hlt
    refine wpAny_bind (wpAny_holding (next_tuple_end_hot (x1 := x1) (by
        obtain ⟨hh, o1, vs1, h1, d1, c1⟩ := hot
        exact ⟨hh, o1, vs1, hs₁.extBut x1 o1 (Nat.ne_of_lt (Heap.lt_size h1)) (Heap.get?_push_of_some _ h1), d1, c1⟩) (by
        obtain ⟨hh, o1, vs1, h1, d1, c1⟩ := hot
        exact Nat.ne_of_lt (Heap.lt_size h1)) hit₁ ht₁ (by simp) fun h₂ he₂ => ?_))
    simp only [Option.isSome_none, Bool.false_eq_true, if_false]
    refine wpAny_pure (hQ h₂ fun b o hb e => he₂ b o hb (hs₁.extBut b o hb (Heap.get?_push_of_some _ e)))

theorem unpack_tuple_hot {t : Addr} {items : Array Value} {targets : List (Bool × (Value → Sem Unit))} {Q : Unit → Shared → Prop} {x1 : Addr} (hot : HotAt A x1 s.heap) (ht : IsTup s.heap t items)
    (hn : targets.length = items.size) (hstar : targets.findIdx? (·.1) = none)
    (h : ∀ h', Heap.ExtBut s.heap.objs.size s.heap h' → wpAny (model prog w) A (assignInOrder (targets.map (·.2)) items.toList) Q E { s with heap := h' }) :
    wpAny (model prog w) A (unpack (.ref t) targets) Q E s := by
  unfold unpack
  rw [hn, hstar]
  exact wpAny_bind (wpAny_holding (unpackItems_tuple_hot hot ht h))
end
theorem pg_tupG {X : Cx} {pos : Pos} {es : List Expr} {k : Nat} {t : TGs} {n : Nat} (hc : HotG X) (h : PGs X es t)
    (hn : (assignEach es X.env).length = n := by rfl) (hst : (assignEach es X.env).findIdx? (·.1) = none := by rfl) : PG X (.Tuple es k pos) (gTup X.K n t) := by
  refine ⟨fun pins s σ H v u Q I r hw => ?_⟩
  obtain ⟨a, xs, e1, hq, hl, hw⟩ := hw
  subst e1
  cases r
  obtain ⟨its, rv, ht, hz⟩ := I.tuple hq
  obtain ⟨x1, hot⟩ := hc pins σ H s I
  rw [assign_Tuple]
  refine wpAny_bind (wpAny_standAt (unpack_tuple_hot hot ht (by simp [hn, ← hl, rv.length]) hst fun h' hx => ?_))
  have I1 : Inv X pins σ H { s with heap := h' } := I.kept (t' := s.toks) fun b o e => hx b o (Nat.ne_of_lt (Heap.lt_size e)) e
  exact h.run pins _ σ H xs _ Q I1 (by simpa using rv) hw
structure TurnG (P : Program) (w : World) (K : PySem.W.Frag) (tg : Expr) (J : It) (fp : List Addr) (it : Addr) (tn : Nat → Heap → Prop) : Prop where
  mem : it ∈ fp
  obj : ∀ i h, tn i h → ∀ b ∈ fp, ∃ o, h.get? b = some o ∧ ∀ v, o.data ≠ .cell v
  keep : ∀ i h h', tn i h → (∀ b ∈ fp, ∀ o, h.get? b = some o → h'.get? b = some o) → tn i h'
  item : ∀ (X : Cx), X.prog = P → X.w = w → X.K = K → ∀ (i : Nat) (pins : List (Addr × Obj)) (s : Shared) (σ : L2.St) (H : Hp) (E : Value → Shared → Prop), Inv X pins σ H s → (∀ b ∈ fp, FpOk X pins H b) → tn i s.heap → J.go i H →
    wpAny (model P w) X.A (pyNext (.ref it)) (fun r s1 => ∃ u, r = some u ∧
      wpAny (model P w) X.A (letOwnedTupleGo tg (.ref it) u) (fun _ s2 => ∃ x H', Inv X pins σ H' s2 ∧ RelV x u ∧ J.yld i H x H' ∧ tn (i + 1) s2.heap ∧ ∀ b ∈ fp, H' b = none) E s1) E s
  done : ∀ (X : Cx), X.prog = P → X.w = w → X.K = K → ∀ (x1 : Addr) (i : Nat) (pins : List (Addr × Obj)) (s : Shared) (σ : L2.St) (H : Hp) (E : Value → Shared → Prop), HotAt X.A x1 s.heap → x1 ∉ fp → Inv X pins σ H s → (∀ b ∈ fp, FpOk X pins H b) → tn i s.heap → J.stop i H →
    wpAny (model P w) X.A (pyNext (.ref it)) (fun r s1 => r = none ∧ Inv X pins σ H s1) E s
  self : ∀ (A : Around) (i : Nat) (s : Shared) (Q : Value → Shared → Prop) (E : Value → Shared → Prop), tn i s.heap → Q (.ref it) s → wpAny (model P w) A (pyIter (.ref it)) Q E s
def PIEG (X : Cx) (pins : List (Addr × Obj)) (σ : L2.St) (tg : Expr) (R : It → Hp → Prop) (itv : Value) (s2 : Shared) : Prop :=
  ∃ (it : Addr) (fp : List Addr) (tn : Nat → Heap → Prop) (J : It) (H' : Hp), itv = .ref it ∧ Inv X pins σ H' s2 ∧ TurnG X.prog X.w X.K tg J fp it tn ∧ tn 0 s2.heap ∧ (∀ b ∈ fp, FpOk X pins H' b) ∧ R J H'
structure PIG (X : Cx) (tg iter : Expr) (wi : TI) : Prop where
  run : ∀ (pins : List (Addr × Obj)) (s : Shared) (σ : L2.St) (H : Hp) (R : It → Hp → Prop), Inv X pins σ H s → wi σ H R →
    wpAny (model X.prog X.w) X.A (eval iter X.env) (fun v s1 => wpAny (model X.prog X.w) X.A (pyIter v) (PIEG X pins σ tg R) X.xe s1) X.xe s
theorem turn_zipG {P : Program} {w : World} {K : PySem.W.Frag} {elts : List Expr} {kk : Nat} {tpos : Pos} {a b z TI TO i1 i2 : Addr} (D : ZipApart z TI TO i1 i2 a b) :
    TurnG P w K (.Tuple elts kk tpos) (Itz K a b) [z, TI, TO, i1, i2] z (fun i h => IsZip h z TI TO .none ∧ IsPair h TI (.ref i1) (.ref i2) ∧ (∃ x y, IsPair h TO x y) ∧ h.IsListIter i1 a i ∧ h.IsListIter i2 b i) where
  mem := by simp
  obj := fun i h st c hc => by
    obtain ⟨hz, hTI, ⟨x, y, hTO⟩, ⟨o1, e1, _, d1⟩, ⟨o2, e2, _, d2⟩⟩ := st
    have e' : c = z ∨ c = TI ∨ c = TO ∨ c = i1 ∨ c = i2 := by simpa using hc
    rcases e' with q | q | q | q | q
    · rw [q]; exact ⟨_, hz, fun v q => nomatch q⟩
    · rw [q]; exact ⟨_, hTI, fun v q => nomatch q⟩
    · rw [q]; exact ⟨_, hTO, fun v q => nomatch q⟩
    · rw [q]; exact ⟨o1, e1, fun v q => by rw [d1] at q; cases q⟩
    · rw [q]; exact ⟨o2, e2, fun v q => by rw [d2] at q; cases q⟩
  keep := fun i h h' st k => by
    obtain ⟨hz, hTI, ⟨x, y, hTO⟩, h1, h2⟩ := st
    exact ⟨k z (by simp) _ hz, k TI (by simp) _ hTI, ⟨x, y, k TO (by simp) _ hTO⟩, h1.at fun o q => k i1 (by simp) o q, h2.at fun o q => k i2 (by simp) o q⟩
  item := by
    intro X hP hw hK i pins s σ H E I hf st hg
    subst hP hw hK
    obtain ⟨hz, hTI, ⟨x0, y0, hTO⟩, h1, h2⟩ := st
    obtain ⟨xs, ys, x, y, hqx, hqy, hx, hy⟩ := hg
    obtain ⟨its, rv, p, _⟩ := I.list hqx
    obtain ⟨its2, rv2, p2, _⟩ := I.list hqy
    obtain ⟨u, hu, ru⟩ := rv.get hx
    obtain ⟨u2, hu2, ru2⟩ := rv2.get hy
    have hzl : z < s.heap.objs.size := Heap.lt_size hz
    refine wpAny_pyNext_zip_item D hz hTI hTO h1 h2 p.isList p2.isList (x := u) (y := u2) (by simpa using hu) (by simpa using hu2) fun h' z' TO' h1' h2' hT hsz hk => ?_
    refine ⟨_, rfl, wpAny_letOwnedTupleGo_zip (s := { s with heap := h' }) z' fun h'' z'' sb => ?_⟩
    have hT2 : h''.get? s.heap.objs.size = some { cls := .type "tuple", data := .seq #[u, u2] } := (sb.2 _ (Nat.ne_of_gt hzl)).trans hT
    have new : ObjOk X.prog X.w (upd H s.heap.objs.size (.tup [x, y])) h'' s.heap.objs.size (.tup [x, y]) :=
      ⟨by show 2 ≤ sizeLine; decide, [u, u2], .cons ru (.cons ru2 .nil), ⟨_, hT2, rfl, _, rfl⟩⟩
    have I1 : Inv X pins σ (upd H s.heap.objs.size (.tup [x, y])) { s with heap := h'' } :=
      I.turnedNew (t' := s.toks) (ch := [z, TI, TO, i1, i2]) (fun c o hb q => (sb.2 c (fun q' => hb (by simp [q']))).trans (hk c o (fun q' => hb (by simp [q'])) (fun q' => hb (by simp [q'])) (fun q' => hb (by simp [q'])) (fun q' => hb (by simp [q'])) q)) hf (Nat.le_refl _) new
    refine ⟨.ref s.heap.objs.size, _, I1, rfl, ⟨_, x, y, rfl, I.hok.fresh (Nat.le_refl _), rfl, fun l hl => by rw [I.list_inj hl hqx]; exact hx, fun l hl => by rw [I.list_inj hl hqy]; exact hy⟩, ⟨z'', ?_, ⟨u, u2, ?_⟩, ?_, ?_⟩, fun c hcm => ?_⟩
    · exact (sb.2 _ D.TIz).trans (hk _ _ D.TIz D.TITO D.TIi1 D.TIi2 hTI)
    · exact (sb.2 _ D.TOz).trans TO'
    · exact h1'.at fun o q => (sb.2 _ D.i1z).trans q
    · exact h2'.at fun o q => (sb.2 _ D.i2z).trans q
    · have hlt : c < s.heap.objs.size := by
        have e' : c = z ∨ c = TI ∨ c = TO ∨ c = i1 ∨ c = i2 := by simpa using hcm
        rcases e' with q | q | q | q | q
        · rw [q]; exact hzl
        · rw [q]; exact Heap.lt_size hTI
        · rw [q]; exact Heap.lt_size hTO
        · rw [q]; obtain ⟨_, e1, _⟩ := h1; exact Heap.lt_size e1
        · rw [q]; obtain ⟨_, e2, _⟩ := h2; exact Heap.lt_size e2
      rw [upd_ne (Nat.ne_of_lt hlt)]
      exact (hf c hcm).1
  done := by
    intro X hP hw hK x1 i pins s σ H E hot nx I hf st hg
    subst hP hw hK
    obtain ⟨hz, hTI, ⟨x0, y0, hTO⟩, h1, h2⟩ := st
    obtain ⟨xs, ys, hqx, hqy, hend⟩ := hg
    obtain ⟨its, rv, p, _⟩ := I.list hqx
    obtain ⟨its2, rv2, p2, _⟩ := I.list hqy
    have l1 := rv.length
    have l2 := rv2.length
    have he : its.toArray[i]? = none ∨ its2.toArray[i]? = none := by
      rcases hend with q | q
      · exact .inl (by simp; omega)
      · exact .inr (by simp; omega)
    exact pyNext_zip_end_hot hot (fun q => nx (by simp [q])) (fun q => nx (by simp [q])) (fun q => nx (by simp [q])) (fun q => nx (by simp [q])) D hz hTI hTO h1 h2 p.isList p2.isList he fun h' hk => ⟨rfl, I.turnedL (t' := s.toks) (ch := [z, TI, TO, i1, i2]) (fun c o hb q =>
      hk c o (fun q' => hb (by simp [q'])) (fun q' => hb (by simp [q'])) (fun q' => hb (by simp [q'])) (fun q' => hb (by simp [q'])) q) hf⟩
  self := fun A i s Q E st h => wpAny_pyIter_zip st.1 h
theorem pi_zipG {X : Cx} {e e2 : Expr} {ta : TA} {p pos tpos : Pos} {elts : List Expr} {kk : Nat} (hg : Gl X "zip") (hm : X.mg "zip" = none) (ha : PA X [e, e2] ta)
    (hs : starEach [e, e2] X.env = (false, eval e X.env) :: starEach [e2] X.env := by rfl) (hpl : (backTo pos (starEach [e2] X.env)).any (·.1) = false := by rfl) :
    PIG X (.Tuple elts kk tpos) (.Call (.Name "zip" p) [e, e2] [] pos) (iZip X.K ta) := by
  refine ⟨fun pins s σ H R I h => ?_⟩
  refine Call_ (ld_blt I hg hm PyProof.Rows.boot_zip (PyProof.Rows.callWith_type1 (thn (ha.run pos pins s σ H _ I h) fun us s1 ⟨vs, H1, I1, r1, q1⟩ => ?_) hs hpl))
  obtain ⟨a, b, xs, ys, ex, hqx, hqy, q⟩ := q1
  subst ex
  cases r1 with
  | cons r rr =>
    cases rr with
    | cons r' rr =>
      cases rr
      cases r
      cases r'
      obtain ⟨its, rv, p1, _⟩ := I1.list hqx
      obtain ⟨its2, rv2, p2, _⟩ := I1.list hqy
      have la : a < s1.heap.objs.size := p1.lt
      have lb : b < s1.heap.objs.size := p2.lt
      refine call_zip_2 p1.isList p2.isList fun h' hz hTI hTO h1 h2 hsz hk => wpAny_pyIter_zip hz ?_
      have I2 : Inv X pins σ H1 { s1 with heap := h' } := I1.kept (t' := s1.toks) hk
      refine ⟨s1.heap.objs.size + 4, [s1.heap.objs.size + 4, s1.heap.objs.size + 2, s1.heap.objs.size + 3, s1.heap.objs.size, s1.heap.objs.size + 1], _, _, H1, rfl, I2, turn_zipG (PySem.W.ktu_apart s1.heap.objs.size a b la lb), ⟨hz, hTI, ⟨_, _, hTO⟩, h1, h2⟩, fun c hcm => ?_, q⟩
      have e' : c = s1.heap.objs.size + 4 ∨ c = s1.heap.objs.size + 2 ∨ c = s1.heap.objs.size + 3 ∨ c = s1.heap.objs.size ∨ c = s1.heap.objs.size + 1 := by simpa using hcm
      have hle : s1.heap.objs.size ≤ c := by
        rcases e' with z | z | z | z | z
        · rw [z]; exact Nat.le_add_right _ _
        · rw [z]; exact Nat.le_add_right _ _
        · rw [z]; exact Nat.le_add_right _ _
        · rw [z]; exact Nat.le_refl _
        · rw [z]; exact Nat.le_add_right _ _
      exact I1.fpOk hle (I1.hok.fresh hle)
theorem lc_coreG {X : Cx} {pins : List (Addr × Obj)} {s : Shared} {σ : L2.St} {H : Hp} {Q : VK} {elt tg iter : Expr} {ifs : List Expr} {scope : Scope} {own : List (Str × Nat)} {pos pos' : Pos} {wi : TI} {g : TG} {tt : TT} {te : TE} {use : Option (Value → Sem Unit)} {Qf : Value → Shared → Prop}
    (hc : L2H.HotC X) (hN : X.N.Nodup) (I : Inv X pins σ H s) (hi : PIG X tg iter wi) (ok : BlkOk X.N X.env.scope scope own)
    (hg : ∀ (s : Shared) (H : Hp) (C : Addr) (cl : List (Str × Addr)) (fp : List Addr), HotG (X.blk s H scope (compEnvC scope cl C X.env) fp) → PG (X.blk s H scope (compEnvC scope cl C X.env) fp) tg g) (ht : ∀ (s : Shared) (H : Hp) (C : Addr) (cl : List (Str × Addr)) (fp : List Addr), PTs (X.blk s H scope (compEnvC scope cl C X.env) fp) ifs tt)
    (he : ∀ (s : Shared) (H : Hp) (C : Addr) (cl : List (Str × Addr)) (fp : List Addr), PE (X.blk s H scope (compEnvC scope cl C X.env) fp) elt te) (hs : ∀ x, foldedSetIterable iter X.env x = pure x)
    (h : tLc wi g tt te (own.map (·.2)) σ H Q)
    (hRR : ∀ D C s' m H', Inv X pins σ H' s' → Q (.ref D) H' → s'.heap.Ns C m → FpOk X pins H' C → compPost (model X.prog X.w) X.A X.xe use Qf (.ref D) C (.ok .next) s') :
    wpAny (model X.prog X.w) X.A (comprehension (.ListComp elt [⟨tg, iter, ifs, 0⟩] scope pos) scope X.env pos' (newList []) false (eval iter X.env) use) Qf X.xe s := by
  have hfree : ∀ y ∈ scope.names, y.2 = .free → ∃ c, X.env.cells.lookup y.1 = some c := fun y hy e => by
    rcases ok.free y hy e with k | k
    · exact I.ok.has _ (.inl k)
    · exact I.ok.has _ (.inr k)
  refine wpAny_comprehension_free (use := use) rfl hs (closure_ok hfree) ok.kind (fun y hy e => by rw [ok.uniq y hy, e])
    (thn (hi.run pins s σ H _ I h) fun xv s1 hx => thn hx fun itv s2 h2 => ?_)
  obtain ⟨it, fp, tn, J, H2, e, I2, T, st2, f2, q⟩ := h2
  subst e
  refine wpAny_newObj_type (newEnv_comp ?_) (by show 0 ≤ sizeLine; decide)
  generalize hD : s2.heap.objs.size = D
  have hDn : H2 D = none := I2.hok.fresh (Nat.le_of_eq hD)
  obtain ⟨W, ⟨m0, w0⟩, turn⟩ := q D hDn
  -- the new list
  generalize hs3 : ({ s2 with heap := s2.heap.push { cls := .type "list", data := .seq ([] : List Value).toArray } } : Shared) = s3
  have I3 : Inv X pins σ (upd H2 D (.lst [])) s3 := by
    rw [← hs3]
    refine I2.laid (t' := s2.toks) (fun b o e => Heap.get?_push_of_some _ e) (Nat.le_of_eq hD) ⟨Nat.zero_le _, [], 0, .nil, ?_⟩
    rw [← hD]
    exact Heap.get?_push_size _ rfl
  have h3 : s3.heap = s2.heap.push { cls := .type "list", data := .seq ([] : List Value).toArray } := by rw [← hs3]
  have sz : ∀ b ∈ fp, b < s2.heap.objs.size := fun b hb => by
    obtain ⟨o, e, _⟩ := T.obj _ _ st2 b hb
    exact Heap.lt_size e
  have f3 : ∀ b ∈ fp, FpOk X pins (upd H2 D (.lst [])) b ∧ b < s3.heap.objs.size := fun b hb => by
    have hlt := sz b hb
    refine ⟨⟨?_, (f2 b hb).2⟩, by rw [h3, Heap.size_push]; exact Nat.lt_succ_of_lt hlt⟩
    rw [upd_ne (by rw [← hD]; exact Nat.ne_of_lt hlt)]
    exact (f2 b hb).1
  have st3 : tn 0 s3.heap := T.keep _ _ _ st2 fun b _ o e => by rw [h3]; exact Heap.get?_push_of_some _ e
  have I4 := block_start I3 ok hN f3
  have hotB : ∀ ce : Env, HotG (X.blk s3 (upd H2 D (.lst [])) scope ce fp) := fun ce => HotG.blk hc I3 fun b hb => (f3 b hb).1
  have pg := hg s3 (upd H2 D (.lst [])) s3.heap.objs.size (cellsFrom (s3.heap.objs.size + 1) scope.names (cloFrom X.env.cells scope.names [])) fp (hotB _)
  have pt := ht s3 (upd H2 D (.lst [])) s3.heap.objs.size (cellsFrom (s3.heap.objs.size + 1) scope.names (cloFrom X.env.cells scope.names [])) fp
  have pe := he s3 (upd H2 D (.lst [])) s3.heap.objs.size (cellsFrom (s3.heap.objs.size + 1) scope.names (cloFrom X.env.cells scope.names [])) fp
  show codeAny _ _ (.compStart (.ListComp elt [⟨tg, iter, ifs, 0⟩] scope pos) 0 (.ref it) (.ref D) (compEnvC scope (cellsFrom (s3.heap.objs.size + 1) scope.names (cloFrom X.env.cells scope.names [])) s3.heap.objs.size X.env)) (compPost (model X.prog X.w) X.A X.xe use Qf (.ref D) s3.heap.objs.size) { s3 with heap := pushCells (s3.heap.push { cls := .type "dict", data := .dict #[] }) scope.names }
  have nfp : ∀ b ∈ fp, (upd H2 D (.lst [])) b = none := fun b hb => (f3 b hb).1.1
  generalize hce : compEnvC scope (cellsFrom (s3.heap.objs.size + 1) scope.names (cloFrom X.env.cells scope.names [])) s3.heap.objs.size X.env = ce at I4 pg pt pe ⊢
  have cL : ce.locals = s3.heap.objs.size := by subst hce; rfl
  generalize hH3 : upd H2 D (.lst []) = H3 at I3 I4 pg pt pe w0 nfp f3 hotB
  generalize hs4 : ({ s3 with heap := pushCells (s3.heap.push { cls := .type "dict", data := .dict #[] }) scope.names } : Shared) = s4 at I4 ⊢
  have st4 : tn 0 s4.heap := T.keep _ _ _ st3 fun b _ o e => by rw [← hs4]; exact pushCells_keeps _ _ _ _ (Heap.get?_push_of_some _ e)
  have stat : ∀ {σ' : L2.St} {H' : Hp} {s' : Shared}, Inv (X.blk s3 H3 scope ce fp) [] σ' H' s' → (∀ b ∈ fp, H' b = none) → ∀ b ∈ fp, FpOk (X.blk s3 H3 scope ce fp) [] H' b := fun {σ' H' s'} I' hn b hb =>
    ⟨hn b hb, (I'.ok.exf b hb).1, I'.ok.exfs b hb, .inl hb, fun x c e => (I'.ok.exf b hb).2 x c e, fun p hp => absurd (show p ∈ ([] : List (Addr × Obj)) ++ [] from hp) (by simp)⟩
  have loop : codeAny (model X.prog X.w) X.A (.compLoop (.ListComp elt [⟨tg, iter, ifs, 0⟩] scope pos) 0 (.ref it) (.ref D) ce) (compPost (model X.prog X.w) X.A X.xe use Qf (.ref D) s3.heap.objs.size) s4 := by
    refine compLoop_any (fun n s' => ∃ i H', Inv (X.blk s3 H3 scope ce fp) [] (wipe σ (own.map (·.2))) H' s' ∧ tn i s'.heap ∧ (∀ b ∈ fp, H' b = none) ∧ W i n H') ?_ m0 ⟨0, H3, I4, st4, nfp, w0⟩
    rintro n s5 ⟨i, H5, I5, st5, n5, w5⟩
    rcases turn i n H5 w5 with ⟨stop, qq⟩ | ⟨go, Nx, hNx, step⟩
    · obtain ⟨x1, hot1⟩ := hotB ce [] _ _ _ I5
      have nx1 : x1 ∉ fp := fun hm => by
        obtain ⟨p, ⟨hh, _, _, _⟩, hp⟩ := hc
        obtain ⟨hh1, _⟩ := hot1
        have e := hh.symm.trans hh1
        have e2 : p.1 = x1 := by simpa using e
        exact (f3 x1 hm).1.2.2.2.2.2 p (List.mem_append_left _ hp) e2
      have td := T.done (X.blk s3 H3 scope ce fp) rfl rfl rfl x1 i [] s5 _ H5 (fun _ _ => False) hot1 nx1 I5 (stat I5 n5) st5 stop
      refine thnF td fun r s6 ⟨hr, I6⟩ => ?_
      subst hr
      -- back in the def's context
      have I7 : Inv X pins σ H5 s6 := I3.call' (ch := fp) I6.os I6.base I6.hok I6.bare fun b hb => ⟨(f3 b hb).1.2.2.2.1, (f3 b hb).1.2.1, (f3 b hb).1.2.2.2.2.1, (f3 b hb).1.2.2.2.2.2⟩
      have nC : H5 s3.heap.objs.size = none := by
        have z : H5 ce.locals = none := I6.free
        rw [cL] at z
        exact z
      obtain ⟨m, hn, _⟩ := I6.loc
      have hn : s6.heap.Ns ce.locals m := hn
      rw [cL] at hn
      exact hRR D s3.heap.objs.size s6 m H5 I7 qq hn (I3.fpOk (Nat.le_refl _) nC)
    · have ti := T.item (X.blk s3 H3 scope ce fp) rfl rfl rfl i [] s5 _ H5 (fun _ _ => False) I5 (stat I5 n5) st5 go
      refine thnF ti fun r s6 ⟨u, hr, h6⟩ => ?_
      subst hr
      refine thnF h6 fun _ s7 ⟨x, H7, I7, r7, y7, st7, n7⟩ => ?_
      have I7' := I7.pinned (stat I7 n7) (T.obj _ _ st7)
      refine thnF (pg.run _ s7 _ H7 x u _ I7' r7 (step x H7 y7)) fun _ s8 ⟨σ8, H8, I8, hw8, q8⟩ => ?_
      refine thnF (pt.run _ s8 σ8 H8 _ I8 q8) fun b s9 ⟨H9, I9, q9⟩ => ?_
      -- the turn's end
      have fin : ∀ {s' : Shared} {H' : Hp}, Inv (X.blk s3 H3 scope ce fp) ([] ++ pinsAt fp s7.heap) σ8 H' s' → Nx H' → ∃ m, m < n ∧ ∃ i H', Inv (X.blk s3 H3 scope ce fp) [] (wipe σ (own.map (·.2))) H' s' ∧ tn i s'.heap ∧ (∀ b ∈ fp, H' b = none) ∧ W i m H' := fun {s' H'} I' nx => by
        obtain ⟨m', hm, w'⟩ := hNx H' nx
        have pin' : ∀ b ∈ fp, ∀ o, s7.heap.get? b = some o → s'.heap.get? b = some o ∧ H' b = none := fun b hb o e =>
          let z := I'.pin (b, o) (List.mem_append_right _ (List.mem_append_right _ (mem_pinsAt hb e)))
          ⟨z.1, z.2.1⟩
        have hl : (wipe σ (own.map (·.2))).length = σ8.length := by rw [← hw8, wipe_length]
        refine ⟨m', hm, i + 1, H', (I'.unpinned (pins := [])).weak hl (fun j v e => ?_), T.keep _ _ _ st7 fun b hb o e => (pin' b hb o e).1, fun b hb => ?_, w'⟩
        · rw [← hw8] at e
          exact (wipe_some e).1
        · obtain ⟨o, e, _⟩ := T.obj _ _ st7 b hb
          exact (pin' b hb o e).2
      cases b with
      | false =>
        simp only [Bool.false_eq_true, if_false] at q9 ⊢
        exact fin I9 q9
      | true =>
        simp only [if_true] at q9 ⊢
        refine thnF (pe.run _ s9 σ8 H9 _ I9 q9) fun z s10 ⟨yv, H10, I10, r10, acc, hD10, hz10, nx⟩ => ?_
        exact app_ok (X := X.blk s3 H3 scope ce fp) I10 hD10 hz10 r10 fun s11 I11 => fin I11 nx
  exact codeAny_compStart_list loop (T.self X.A 0 _ _ _ st4 loop)
theorem pe_lcG {X : Cx} {elt tg iter : Expr} {ifs : List Expr} {scope : Scope} {own : List (Str × Nat)} {pos : Pos} {wi : TI} {g : TG} {tt : TT} {te : TE} (hc : L2H.HotC X) (hN : X.N.Nodup) (hi : PIG X tg iter wi) (ok : BlkOk X.N X.env.scope scope own)
    (hg : ∀ (s : Shared) (H : Hp) (C : Addr) (cl : List (Str × Addr)) (fp : List Addr), HotG (X.blk s H scope (compEnvC scope cl C X.env) fp) → PG (X.blk s H scope (compEnvC scope cl C X.env) fp) tg g) (ht : ∀ (s : Shared) (H : Hp) (C : Addr) (cl : List (Str × Addr)) (fp : List Addr), PTs (X.blk s H scope (compEnvC scope cl C X.env) fp) ifs tt)
    (he : ∀ (s : Shared) (H : Hp) (C : Addr) (cl : List (Str × Addr)) (fp : List Addr), PE (X.blk s H scope (compEnvC scope cl C X.env) fp) elt te) (hs : ∀ x, foldedSetIterable iter X.env x = pure x := by intro _; rfl) :
    PE X (.ListComp elt [⟨tg, iter, ifs, 0⟩] scope pos) (tLc wi g tt te (own.map (·.2))) := by
  refine ⟨fun pins s σ H Q I h => ?_⟩
  rw [eval_ListComp]
  refine lc_coreG hc hN I hi ok hg ht he hs h fun D C s' m H' I' q hn f => ⟨m, hn, fun h'' sb => ?_⟩
  obtain ⟨f0, f1, f2, f3, f4, f5⟩ := f
  exact ⟨.ref D, H', I'.turned (t' := s'.toks) (fun b o hb e => (sb.2 b hb).trans e) f0 f1 f3 f4 f5, rfl, q⟩

/-! ### exceptions whose context is None -/
theorem passLN {X : Cx} : Passes (L2N.CX X.prog X.w) X E0 := fun _ _ _ _ _ _ _ h => by
  obtain ⟨_, _, _, _, _, _, _, _, _, _, _, _, z⟩ := h
  exact z.elim
theorem takes0N {X : Cx} : L2N.Takes X (fun _ _ _ _ => False) := fun _ _ x => by
  obtain ⟨_, _, _, _, _, _, _, _, _, _, _, _, _, _, _, _, z⟩ := x
  exact z.elim
theorem _root_.L2.Fun.okXN {P : Program} {w : World} {K : PySem.W.Frag} {mg : Str → Option Value} {base : Heap} {x qual : Str} {st : Stmt} {f : Addr} {fd : FuncData} {N ps : List Str} {k : Nat} {sp : Sp} (F : Fun K x qual st f fd) (S : FnScope N ps (defScope st)) (len : ∀ vs H Q E, sp vs H Q E → vs.length = ps.length)
    (hb : ∀ (cdv : Value) (A : Around) (outer : List Env) (s : Shared) (H : Hp) (vs : List V) (Q : VK) (E : XK), Room k (A.deeper (envOfC qual (defScope st) s.heap.objs.size f cdv)) → sp vs H Q E →
      ∃ t, PSs (cxOf (L2N.CX P w) P w K mg base N qual (defScope st) f cdv A outer s H E) (defBody st) t ∧ t { nx := fun _ H' => Q .non H', rt := Q } (L2.start N vs) H) : FnOk P w K mg base (L2N.CX P w) (k + 1) f fd ps sp := by
  obtain ⟨oc, od, kV, doc, pm, an, cdv, ct, osl, rfl, lk, hcd⟩ := F.ex
  exact fn_of lk hcd S len fun A outer s H vs Q E hr hsp => hb cdv A outer s H vs Q E hr hsp
theorem _root_.L2.FunD.ok1N {P : Program} {w : World} {K : PySem.W.Frag} {mg : Str → Option Value} {base : Heap} {x qual : Str} {params : Arguments} {body : List Stmt} {scope : Scope} {dvs : List V} {kws : List (Str × V)} {f : Addr} {fd : FuncData} {N ps : List Str} {k : Nat} {sp : Sp} (F : FunD K x qual params body scope dvs kws f fd) (S : FnScope N ps scope) (len : ∀ vs H Q E, sp vs H Q E → vs.length = ps.length)
    (hb : ∀ (cdv : Value) (A : Around) (outer : List Env) (s : Shared) (H : Hp) (vs : List V) (Q : VK) (E : XK), Room k (A.deeper (envOfC qual scope s.heap.objs.size f cdv)) → sp vs H Q E →
      ∃ t, PSs (cxOf (L2N.CX P w) P w K mg base N qual scope f cdv A outer s H E) body t ∧ t { nx := fun _ H' => Q .non H', rt := Q } (L2.start N vs) H) : FnOk P w K mg base (L2N.CX P w) (k + 1) f fd ps sp := by
  obtain ⟨oc, od, dV, kV, doc, pm, an, cdv, ct, osl, rfl, lk, hcd, _, _⟩ := F.ex
  exact fn_of lk hcd S len fun A outer s H vs Q E hr hsp => hb cdv A outer s H vs Q E hr hsp
theorem ps_rsN {X : Cx} {W : WX} {e : Expr} {t : L2.St → Hp → XK → Prop} {pos : Pos} (hc : X.calm = true) (tk : L2N.Takes X W) (he : L2N.PMk X e t) : PS X (.Raise (some e) none pos) (tRs W t) := L2N.ps_raise hc tk he
/-- C(..) of an own exception, behind its arguments -/
theorem oex_core {X : Cx} {CX : CXT} {pins : List (Addr × Obj)} {σ : L2.St} {H : Hp} {s : Shared} {Q : XK} {C fI : Addr} {k : Nat} {fd : FuncData} {ps : List Str} {sp : Sp} {ds us : List Value} {dvs vs : List V} (T : OexC X.K C) (iC : PySem.W.findIn X.K (.ref C) "__init__" = some (some (.ref fI)))
    (tI : PySem.W.typeIn X.K (.ref fI) = some (.type "function")) (F1 : FnOk X.prog X.w X.K X.mg X.base CX k fI fd ps sp) (hr : Room (k + 1) X.A) (hb : Binds X.K fd ps ds) (hd : Vals dvs ds) (hx : Passes CX X (fun _ _ _ => False)) (I : Inv X pins σ H s) (r1 : Vals vs us) (hz : vs.length ≤ 1000)
    (q1 : ∀ a, H a = none → sp (.ref a :: (vs ++ dvs)) (upd H a (exo a C none)) (fun v H2 => v = .non ∧ ∃ (d : Addr) (fs : List (Str × V)), H2 a = some (exo a C (some d)) ∧ H2 d = some (exd d fs) ∧ H d = none ∧ Q (.ref C) (some d) (upd (del H2 a) d (.xd fs))) (fun _ _ _ => False)) :
    wpAny (model X.prog X.w) X.A (call (.ref C) us) (L2N.MkP X pins σ Q) X.xe s := by
  obtain ⟨nm, q, N, bs, bm, sn, sub, ab, col, dd, k0, k1, k2, k3, k5, hC, hbm⟩ := T.cls
  obtain ⟨hp, g, dr, tk, os⟩ := s
  have hsz : hp.objs.size ≤ hp.objs.size + 1 := Nat.le_succ _
  have hn : H (hp.objs.size + 1) = none := I.hok.fresh hsz
  have hq := q1 (hp.objs.size + 1) hn
  have kk : ∀ b o, hp.get? b = some o → ((hp.push (PySem.W.kdv_tup us)).push (PySem.HandSPX.excO C hp.objs.size)).get? b = some o := fun b o e => Heap.get?_push_of_some _ (Heap.get?_push_of_some _ e)
  have hget : ((hp.push (PySem.W.kdv_tup us)).push (PySem.HandSPX.excO C hp.objs.size)).get? (hp.objs.size + 1) = some (PySem.HandSPX.excO C hp.objs.size) := by heap_get
  have I2 := I.laid (t' := tk) (a := hp.objs.size + 1) (o := exo (hp.objs.size + 1) C none) (h' := (hp.push (PySem.W.kdv_tup us)).push (PySem.HandSPX.excO C hp.objs.size)) kk hsz (exo_ok hget)
  have r2 : Vals (V.ref (hp.objs.size + 1) :: (vs ++ dvs)) (Value.ref (hp.objs.size + 1) :: (us ++ ds)) := .cons rfl (r1.append hd)
  have hl : (Value.ref (hp.objs.size + 1) :: us ++ ds).length = ps.length := by
    have e := r2.length
    have e2 := F1.len _ _ _ _ hq
    rw [e2] at e
    exact e.symm
  have hus : us.length ≤ sizeLine := by
    rw [← Paired.length r1, sizeLine_eq]
    omega
  refine wpAny_call (PySem.HandSPX.call_own F.excBase_ValueError (fun Y => PySem.HandSPX.refsVE_contains Y bm hbm) (I.kIn _ _ hC) (PySem.W.looks_findIn I.kIn iC) (fun self => PySem.W.bind_fn I.kIn self tI) hus
    (codeAny_mono (F1.run _ X.stack _ _ ⟨Value.ref (hp.objs.size + 1) :: us, []⟩ (Value.ref (hp.objs.size + 1) :: (us ++ ds)) _ _ (fun _ _ _ => False) (hr.make C us []) (I2.env0.make C us []) (hb _ (Value.ref (hp.objs.size + 1) :: us) I2.kIn hl) r2 hq) fun r s' hq' => ?_))
  cases r with
  | error er => exact hx pins σ _ _ er s' I2 hq'
  | ok fl =>
    cases fl with
    | ret u =>
      obtain ⟨v, H2, os2, bare2, un2, hok2, rv, ev, d, fs, ea, ed, hd1, q2⟩ := hq'
      subst ev
      obtain ⟨h2, g2, d2, t2, os'⟩ := s'
      obtain ⟨t0, G, J, kG, ge, hoe, na⟩ := mk_end0 (d2 := d2) (t2 := t2) I hsz kk un2 hok2 os2 bare2 ea ed hd1
      exact ⟨rv, _, _, _, ⟨G, g2, d2, t2, os'⟩, _, .ref C, some d, rfl, J, kG, ge, hoe, ⟨rfl, rfl, fun vs e => by cases e; rfl⟩, rfl, rfl, na, rfl, bare2, raises_own T.exC T.tyC, q2⟩
    | next => exact False.elim hq'
    | brk => exact False.elim hq'
    | cont => exact False.elim hq'
theorem pmk_oexN {X : Cx} {CX : CXT} {x : Str} {C fI : Addr} {k : Nat} {fd : FuncData} {ps : List Str} {sp : Sp} {ds : List Value} {dvs : List V} {e : Expr} {es : List Expr} {ta : TA} {p pos : Pos} (T : OexC X.K C) (iC : PySem.W.findIn X.K (.ref C) "__init__" = some (some (.ref fI)))
    (tI : PySem.W.typeIn X.K (.ref fI) = some (.type "function")) (F1 : FnOk X.prog X.w X.K X.mg X.base CX k fI fd ps sp) (hr : Room (k + 1) X.A) (hb : Binds X.K fd ps ds) (hd : Vals dvs ds) (hx : Passes CX X (fun _ _ _ => False)) (hg : Gl X x) (hm : X.mg x = some (.ref C)) (ha : PA X (e :: es) ta)
    (hdb : (x == ("__debug__" : Str)) = false := by decide) (he : starEach (e :: es) X.env = (false, eval e X.env) :: starEach es X.env := by rfl) (hpl : (backTo pos (starEach es X.env)).any (·.1) = false := by rfl) :
    L2N.PMk X (.Call (.Name x p) (e :: es) [] pos) (tMkO C sp dvs ta) := fun pins s σ H Q I h =>
  wpAny_Call_Name_kw (ld_glob I hg hm (PySem.W.callWith_K (h₀ := X.base) I.ok.mod.kin T.kC (thn (ha.run pos pins s σ H _ I h) fun us s1 ⟨vs, H1, I1, r1, hz, q1⟩ => ⟨I1.kIn, oex_core T iC tI F1 hr hb hd hx I1 r1 hz q1⟩) he hpl) hdb)
theorem pmk_oex0 {X : Cx} {CX : CXT} {x : Str} {C fI : Addr} {k : Nat} {fd : FuncData} {ps : List Str} {sp : Sp} {dvs : List V} {p pos : Pos} (T : OexC X.K C) (iC : PySem.W.findIn X.K (.ref C) "__init__" = some (some (.ref fI)))
    (tI : PySem.W.typeIn X.K (.ref fI) = some (.type "function")) (F1 : FnOk X.prog X.w X.K X.mg X.base CX k fI fd ps sp) (hr : Room (k + 1) X.A) (hb : ∃ ds, Vals dvs ds ∧ Binds X.K fd ps ds) (hx : Passes CX X (fun _ _ _ => False)) (hg : Gl X x) (hm : X.mg x = some (.ref C))
    (hdb : (x == ("__debug__" : Str)) = false := by decide) : L2N.PMk X (.Call (.Name x p) [] [] pos) (tMkO C sp dvs tNil) := fun pins s σ H Q I h => by
  obtain ⟨ds, hd, hb⟩ := hb
  exact wpAny_Call_Name_kw (ld_glob I hg hm (PySem.W.callWith_K0 I.kIn T.kC (oex_core (us := []) T iC tI F1 hr hb hd hx I .nil h.1 h.2)) hdb)
/-- several clauses, each with the name n -/
inductive HdsAs (X : Cx) (n : Str) : List ExceptHandler → List (Value × (Addr → Value → Option Addr → TS)) → Prop
  | nil : HdsAs X n [] []
  | cons {x : Str} {c : Value} {ts : Addr → Value → Option Addr → TS} {b₀ : Stmt} {suite : List Stmt} {np pos' : Pos} {hds : List ExceptHandler} {l : List (Value × (Addr → Value → Option Addr → TS))} (hc : Names X x c)
      (hsu : ∀ (a : Addr) (oe : Obj) (cls : Value) (d : Option Addr) (pn : List (Addr × Obj)), L2N.Zn cls d oe → (∃ vs, oe.data = .fields vs) → PSs (X.suite a ((a, oe) :: pn)) (b₀ :: suite) (ts a cls d)) (r : HdsAs X n hds l) :
      HdsAs X n (.ExceptHandler (some (.Name x np)) (some n) (b₀ :: suite) pos' :: hds) ((c, ts) :: l)
section
variable {X : Cx} {n : Str} {i : Nat} {body : List Stmt} {h₀ : ExceptHandler} {hds : List ExceptHandler} {l : List (Value × (Addr → Value → Option Addr → TS))} {pos : Pos} {tb : WX → TS} {Wout : WX}
theorem ps_try_manyAs (hs : X.stack = X.env :: X.outer) (hf : X.env.frame = some X.env.locals) (hN : X.N.Nodup) (hi : X.N[i]? = some n) (hln : X.env.kindOf n = some .local) (tk : L2N.Takes X Wout)
    (hb : ∀ (W : WX) (pn : List (Addr × Obj)) (xe : Value → Shared → Prop), L2N.Takes (X.tr pn xe) W → PassesOwn (model X.prog X.w) X.A X.env xe → PSs (X.tr pn xe) body (tb W))
    (hh : HdsAs X n (h₀ :: hds) l) : PS X (.Try body (h₀ :: hds) [] [] pos) (fun D σ H => tb (wManyAs X.K Wout D i l) D σ H) := by
  refine ⟨fun pins s σ H D I h => ?_⟩
  have ok := I.ok
  have hfr : X.A.frames = some (X.env :: X.outer) := by rw [ok.frames, hs]
  have hloc : Loc X.env.scope n := .inl hln
  refine wpAny_Try_except ?_
  refine wpAny_mono ((hb (wManyAs X.K Wout D i l) (X.pn ++ pins) (fun e s₁ => wpAny (model X.prog X.w) X.A (noteFrame e X.env) (fun _ s₂ => wpAny (model X.prog X.w) X.A (setFlight e none) (fun _ s₃ =>
    wpAny (model X.prog X.w) X.A (handleBy e X.env (h₀ :: hds)) (SP X pins D) X.xe s₃) X.xe s₂) X.xe s₁) (fun u s' xx => ?_) PassesOwn.looking).run [] s σ H D (I.toTry _) h) (fun f s1 hsp => ?_) (fun e s1 he => he)
  · obtain ⟨a, B, sI, pins', σ', H', cls, d, rfl, J', nb, up, sky, na, os, ag, w⟩ := xx
    have J : Inv X pins σ' H' sI := J'.ofTry ok
    have sky' : Sky B (X.env :: X.outer) a (L2N.Zn cls d) X.env.locals s'.heap := by rw [← hs]; exact sky
    show wpAny (model X.prog X.w) X.A (noteFrame (.ref a) X.env) _ _ _
    refine L2N.Sky.land L2N.Zn.steady hfr hf sky' fun h3 fl3 up3 => ?_
    have J3 : Inv X pins σ' H' { s' with heap := h3 } := J.landed nb fl3.1 (up.trans up3) os ag
    obtain ⟨oe3, vs3, he3, hz3, hd3⟩ := fl3.there
    have notFr : ∀ {h : Heap} {o : Obj} {vs : Array Value}, h.FunFrames B (X.env :: X.outer) → h.get? a = some o → o.data = .fields vs → a ∉ frs (X.env :: X.outer) := fun {h o vs} ff e dd hm => by
      obtain ⟨_, o', e', hnf⟩ := ff.mem hm
      rw [e] at e'; cases e'
      exact hnf _ dd
    have nfr := notFr fl3.2.2.1 he3 hd3
    have nL : a ≠ X.env.locals := fun z => nfr (List.mem_filterMap.mpr ⟨X.env, List.mem_cons_self, by rw [hf, z]⟩)
    have nF : a ∉ X.fs := fun hm => by
      obtain ⟨e, he, q⟩ := List.mem_filterMap.mp hm
      exact nfr (List.mem_filterMap.mpr ⟨e, List.mem_cons_of_mem _ he, q⟩)
    have S3 := J3.suite he3 hd3 na nL nF
    have go : ∀ {hds' : List ExceptHandler} {l' : List (Value × (Addr → Value → Option Addr → TS))}, HdsAs X n hds' l' → wManyAs X.K Wout D i l' cls d σ' H' →
        wpAny (model X.prog X.w) X.A (handleBy (.ref a) X.env hds') (SP X pins D) X.xe { s' with heap := h3 } := by
      intro hds' l' hk
      induction hk with
      | nil =>
        intro w
        refine wpAny_handleBy_nil ?_
        obtain ⟨k1, k2, k3, oe, vs, T, oT, ts', he, hz, hd, h1, hr⟩ := id fl3
        unfold PySem.passOn
        refine wpAny_bind (wpAny_field he hd h1 ?_)
        rw [if_neg (show ¬ ((Value.ref T == Value.none) = true) from by simp)]
        have fin : wpAny (model X.prog X.w) X.A (setFlight (.ref a) X.env.frame) (fun _ s4 => wpAny (model X.prog X.w) X.A (throw (.ref a) : Sem Flow) (SP X pins D) X.xe s4) X.xe { s' with heap := h3 } := by
          rw [hf]
          refine HandSPX.setFlight_upZ fl3 fun h4 hh4 up4 => wpAny_throw (tk _ _ ?_)
          exact ⟨a, B, sI, pins, σ', H', cls, d, rfl, J, nb, (up.trans up3).trans up4, .inr (.inr (by rw [hs]; exact hh4)), na, os, ag, w⟩
        first
          | exact wpAny_bind (wpAny_pure (wpAny_bind fin))
          | exact wpAny_bind fin
      | @cons x c ts b₀ suite np pos' hds2 l2 hc hsu r ih =>
        intro w
        obtain ⟨b, hb1, hyes, hno⟩ := w
        refine wpAny_handleBy_cons (codeAny_handlers_test ?_) (by intro q; cases q)
        have LT : PySem.W.Looks (model X.prog X.w) h3 (typeOf (.ref a)) cls := fun A Q E s k q => wpAny_typeOf_ref (k _ _ he3) (by rw [hz3.1]; exact q)
        have LM := PySem.W.exm_one (M := model X.prog X.w) (J3.kIn) LT hb1
        have test : ∀ {Q : Value → Shared → Prop} {E : Value → Shared → Prop}, Q c { s' with heap := h3 } → wpAny (model X.prog X.w) (X.A.mark (some (.ref a))) (eval (.Name x np) X.env) Q E { s' with heap := h3 } := fun {Q E} q => by
          obtain ⟨hg, hdbg, hm | ⟨hm, hv, hnn⟩⟩ := hc
          · exact ld_glob (X := X.suite a ((a, oe3) :: (X.pn ++ pins))) S3 hg hm q hdbg
          · exact ld_blt (X := X.suite a ((a, oe3) :: (X.pn ++ pins))) S3 hg hm hv q hnn hdbg
        refine test (LM.here ?_)
        cases b with
        | true =>
          refine codeAny_handlers_suite_as ?_
          refine HandSPX.lands_againZ fl3 fun h4 fl4 up4 => ?_
          have J4 : Inv X pins σ' H' { s' with heap := h4 } := J.landed nb fl4.1 ((up.trans up3).trans up4) os ag
          obtain ⟨oe4, vs4, he4, hz4, hd4⟩ := fl4.there
          have S4 := J4.suite he4 hd4 na nL nF
          refine store_ok (X := X.suite a ((a, oe4) :: (X.pn ++ pins))) (v := .ref a) S4 hN hi hloc rfl (fun s5 S5 => ?_) (.inr hln)
          refine wpAny_mono ((hsu a oe4 cls d (X.pn ++ pins) hz4 ⟨_, hd4⟩).run [] s5 _ H' _ S5 (hyes rfl a na)) (fun f s6 hsp => ?_) (fun _ _ z => False.elim z)
          have end_ : ∀ {σ6 : L2.St} {H6 : Hp} {Q : Shared → Prop}, Inv (X.suite a ((a, oe4) :: (X.pn ++ pins))) [] σ6 H6 s6 → (∀ s7, Inv X pins (σ6.set i none) H6 s7 → Q s7) →
              wpAny (model X.prog X.w) X.A (do bindName X.env n .none; unbindBehindTheSuite X.env n pos') (fun _ s7 => Q s7) X.xe s6 := fun {σ6 H6 Q} S6 hq => gone_ok (S6.unsuite ok) hN hi hln hq
          cases f with
          | next =>
            obtain ⟨σ6, H6, S6, q6⟩ := hsp
            exact end_ S6 fun s7 J7 => ⟨_, _, J7, q6⟩
          | brk =>
            obtain ⟨σ6, H6, S6, q6⟩ := hsp
            exact end_ S6 fun s7 J7 => ⟨_, _, J7, q6⟩
          | cont =>
            obtain ⟨σ6, H6, S6, q6⟩ := hsp
            exact end_ S6 fun s7 J7 => ⟨_, _, J7, q6⟩
          | ret u =>
            obtain ⟨v6, σ6, H6, S6, r6, q6⟩ := hsp
            exact end_ S6 fun s7 J7 => ⟨_, _, _, J7, r6, q6⟩
        | false =>
          show wpAny _ X.A (handleBy (.ref a) X.env hds2) _ _ _
          exact ih (hno rfl)
    exact go hh w
  · cases f with
    | next =>
      obtain ⟨σ', H', J', q⟩ := hsp
      exact wpAny_execs_nil ⟨σ', H', J'.ofTry ok, q⟩
    | brk =>
      obtain ⟨σ', H', J', q⟩ := hsp
      exact ⟨σ', H', J'.ofTry ok, q⟩
    | cont =>
      obtain ⟨σ', H', J', q⟩ := hsp
      exact ⟨σ', H', J'.ofTry ok, q⟩
    | ret u =>
      obtain ⟨v, σ', H', J', r, q⟩ := hsp
      exact ⟨v, σ', H', J'.ofTry ok, r, q⟩
end

/-! ### defs that a suite calls with its exception; they may walk -/
theorem hotC_suite {X : Cx} {a : Addr} {oe : Obj} {cls : Value} {d : Option Addr} {pn : List (Addr × Obj)} (hz : L2N.Zn cls d oe) (hf : ∃ vs, oe.data = .fields vs) : L2H.Hot1 (X.suite a ((a, oe) :: pn)).A (a, oe) := by
  obtain ⟨vs, e⟩ := hf
  exact ⟨rfl, vs, e, hz.2.2 vs e⟩
structure FnPH (P : Program) (w : World) (K : PySem.W.Frag) (mg : Str → Option Value) (base : Heap) (k : Nat) (f : Addr) (fd : FuncData) (ps : List Str) (sp : Addr → Value → Option Addr → Sp) : Prop where
  len : ∀ a cls d vs H Q E, sp a cls d vs H Q E → vs.length = ps.length
  run : ∀ (A : Around) (outer : List Env) (s : Shared) (H : Hp) (args : Args) (us : List Value) (vs : List V) (Q : VK) (E : XK) (p : Addr × Obj) (cls : Value) (d : Option Addr), L2H.RoomH k A → L2H.Hot1 A p → Zc cls d p.2 → (∃ vs, p.2.data = .fields vs) → L2H.PinOk outer H s p →
    Env0 P w K mg base A outer s H → BindsTo s fd args (ps.zip us) → Vals vs us → sp p.1 cls d vs H Q E → codeAny (model P w) A (.call (.ref f) args) (CR CX0 outer P w H s Q E) s
theorem _root_.L2.Fun.okPH {P : Program} {w : World} {K : PySem.W.Frag} {mg : Str → Option Value} {base : Heap} {x qual : Str} {st : Stmt} {f : Addr} {fd : FuncData} {N ps : List Str} {k : Nat} {sp : Addr → Value → Option Addr → Sp} (F : Fun K x qual st f fd) (S : FnScope N ps (defScope st)) (len : ∀ a cls d vs H Q E, sp a cls d vs H Q E → vs.length = ps.length)
    (hb : ∀ (cdv : Value) (A : Around) (outer : List Env) (s : Shared) (H : Hp) (vs : List V) (Q : VK) (E : XK) (p : Addr × Obj) (cls : Value) (d : Option Addr), L2H.Hot1 A p → L2H.RoomH k (A.deeper (envOfC qual (defScope st) s.heap.objs.size f cdv)) → Zc cls d p.2 → (∃ vs, p.2.data = .fields vs) → sp p.1 cls d vs H Q E →
      ∃ t, PSs (L2H.cxH CX0 P w K mg base N qual (defScope st) f cdv A outer s H E p) (defBody st) t ∧ t { nx := fun _ H' => Q .non H', rt := Q } (L2.start N vs) H) : FnPH P w K mg base (k + 1) f fd ps sp := by
  refine ⟨len, fun A outer s H args us vs Q E p cls d hr hot hz hf hpin e0 hbt r hsp => ?_⟩
  obtain ⟨oc, od, kV, doc, pm, an, cdv, ct, osl, rfl, lk, hcd⟩ := F.ex
  have hl := len _ _ _ _ _ _ _ hsp
  have KX : K.In s.heap := e0.mod.kin.keeps fun b o e => (e0.bs b o e).1
  have lim : s.heap.NoLimit := e0.mod.nolimit.keeps fun b o e => (e0.bs b o e).1
  have hkind : ∀ y ∈ ps.zip us, (defScope st).names.lookup y.1 = some .local ∨ ((defScope st).names.lookup y.1 = some .cell ∧ ((cellsFrom (s.heap.objs.size + 1) (defScope st).names []).lookup y.1).isSome = true) := fun ⟨n, v⟩ hy => by
    rcases S.par n (List.of_mem_zip hy).1 with q | q
    · exact .inl q
    · exact .inr ⟨q, PySem.W.cellsFrom_some _ _ _ (.inl q)⟩
  refine codeAny_call_function hr.depth (KX _ _ lk) rfl S.co S.gen rfl (PySem.W.codeRec_of KX hcd) (hbt _ _ _ _ ?_)
  refine wpAny_newFunctionEnv_cells S.kind hkind fun env he s1 x => ?_
  subst he
  refine ⟨lim.keeps x.toInCall.keep, codeAny_func ?_⟩
  obtain ⟨t, ht, hq⟩ := hb cdv A outer s H vs Q E p cls d hot (hr.deeper _) hz hf hsp
  have I := L2H.inv_startH (CX := CX0) (E := E) (cd := cdv) (f := f) (qual := qual) S hpin e0 hl r x
  have fin : ∀ {σ' : L2.St} {H' : Hp} {v : V} {u : Value} {s' : Shared}, Inv (L2H.cxH CX0 P w K mg base N qual (defScope st) f cdv A outer s H E p) [] σ' H' s' → RelV v u → Q v H' → CE outer P w H s Q u s' :=
    fun {σ' H' v u s'} J rv q => ⟨v, H', J.os, J.bare, J.base, J.hok, rv, q⟩
  refine wpAny_mono (ht.run [] s1 (L2.start N vs) H _ I hq) (fun fl s' hs => ?_) fun e s' hs => hs
  cases fl with
  | ret u =>
    obtain ⟨v, σ', H', J, rv, q⟩ := hs
    exact fin J rv q
  | next =>
    obtain ⟨σ', H', J, q⟩ := hs
    exact fin (v := V.non) (u := Value.none) J rfl q
  | brk =>
    obtain ⟨_, _, _, q⟩ := hs
    exact False.elim q
  | cont =>
    obtain ⟨_, _, _, q⟩ := hs
    exact False.elim q
theorem pe_callPH {X : Cx} {k : Nat} {f : Addr} {fd : FuncData} {ps : List Str} {sp : Addr → Value → Option Addr → Sp} {x : Str} {q pos : Pos} {e : Expr} {es : List Expr} {t : TA} {a : Addr} {oe : Obj} {pn : List (Addr × Obj)} {cls : Value} {d : Option Addr}
    (F : FnPH X.prog X.w X.K X.mg X.base k f fd ps sp) (hr : L2H.RoomH k (X.suite a ((a, oe) :: pn)).A) (hz : L2N.Zn cls d oe) (hf : ∃ vs, oe.data = .fields vs) (hg : Gl (X.suite a ((a, oe) :: pn)) x) (hm : X.mg x = some (.ref f)) (hk : PySem.W.keepIn X.K (.ref f) = true) (hb : Binds X.K fd ps [])
    (ha : PA (X.suite a ((a, oe) :: pn)) (e :: es) t) (hdb : (x == ("__debug__" : Str)) = false := by decide) (he : starEach (e :: es) X.env = (false, eval e X.env) :: starEach es X.env := by rfl) (hpl : (backTo pos (starEach es X.env)).any (·.1) = false := by rfl) :
    PE (X.suite a ((a, oe) :: pn)) (.Call (.Name x q) (e :: es) [] pos) (tCallP (sp a cls d) t) := by
  refine ⟨fun pins s σ H Q I h => ?_⟩
  refine wpAny_Call_Name_kw (ld_glob I hg hm ?_ hdb)
  refine PySem.W.callWith_K (h₀ := X.base) I.ok.mod.kin hk (thn (ha.run pos pins s σ H _ I h) fun us s1 ⟨vs, H1, I1, r, q⟩ => ⟨I1.kIn, ?_⟩) he hpl
  have hl : us.length = ps.length := by rw [← r.length]; exact F.len _ _ _ _ _ _ _ q
  have b := hb s1 us I1.kIn (by rw [List.append_nil]; exact hl)
  rw [List.append_nil] at b
  have P1 := I1.pin (a, oe) (List.mem_append_left _ List.mem_cons_self)
  have hpin : L2H.PinOk X.stack H1 s1 (a, oe) := ⟨P1.1, P1.2.1, fun hm => (List.mem_cons.mp (I1.stkSub a hm)).elim P1.2.2.1 P1.2.2.2.1, P1.2.2.2.2⟩
  refine wpAny_call (codeAny_mono (F.run _ X.stack s1 H1 ⟨us, []⟩ us vs Q E0 (a, oe) cls d hr (hotC_suite hz hf) hz.zc hf hpin I1.env0 b r q) fun r s' hq => ?_)
  cases r with
  | error e => exact False.elim hq
  | ok fl =>
    cases fl with
    | ret u => exact I1.after hq
    | next => exact False.elim hq
    | brk => exact False.elim hq
    | cont => exact False.elim hq
theorem hotC_cxH {CX : CXT} {P : Program} {w : World} {K : PySem.W.Frag} {mg : Str → Option Value} {base : Heap} {N : List Str} {qual : Str} {scope : Scope} {f : Addr} {cd : Value} {A : Around} {outer : List Env} {s : Shared} {H : Hp} {E : XK} {p : Addr × Obj} (h : L2H.Hot1 A p) :
    L2H.HotC (L2H.cxH CX P w K mg base N qual scope f cd A outer s H E p) := ⟨p, h, List.mem_singleton.mpr rfl⟩
theorem pg_tupGK {X : Cx} {K : PySem.W.Frag} {pos : Pos} (hK : X.K = K) {es : List Expr} {k : Nat} {t : TGs} {n : Nat} (hc : HotG X) (h : PGs X es t) (hn : (assignEach es X.env).length = n := by rfl) (hst : (assignEach es X.env).findIdx? (·.1) = none := by rfl) : PG X (.Tuple es k pos) (gTup K n t) := by
  subst hK; exact pg_tupG hc h hn hst
end Wb

set_option Elab.async false
set_option linter.all false
set_option maxRecDepth 100000
/-! function values; dicts read, owned; dicts of the module with text keys -/
namespace Wb
open PySem PySem.Spec PyProof.Rows L2
/-! ### a local that holds a def -/
def eCallV (OK : Addr → Sp3 → Prop) (i : Nat) (W : W3) (a : A3) : E3 := fun s μ Q => match s[i]? with
  | some (some (.v (.ref f))) => ∃ sp : Sp3, OK f sp ∧ a s μ fun ds μ1 => sp ds μ1 Q fun C fs μ2 => W C fs s μ2
  | _ => False
theorem s_callV {K : PySem.W.Frag} {I : Pre} {OK : Addr → Sp → Prop} {OK3 : Addr → Sp3 → Prop} {i : Nat} {W : WX} {W' : W3} {ta : TA} {ea : A3} (ho : ∀ f sp, OK3 f sp → OK f (lift K sp)) (hW : WOk K I W W') (ha : SA K I ta ea) :
    SE K I (tCallV OK i (fun σ => WE W σ) ta) (eCallV OK3 i W' ea) := fun w σ s Q Q3 S h q => by
  unfold eCallV at h
  split at h
  · rename_i f hd
    obtain ⟨v, a, b⟩ := S.rvs.at_ i _ hd
    cases b
    obtain ⟨sp, ok, h⟩ := h
    exact ⟨f, lift K sp, a, ho _ _ ok, ha w σ s _ _ S h fun w1 vs ds L1 R1 V1 h1 => ⟨w1, ds, Q3, _, rfl, R1, V1, h1, q.up L1, fun w2 cls dd C fs L2 R2 x h2 => hW w2 σ s cls dd C fs (S.to (L1.trans L2) R2) x h2⟩⟩
  · exact h.elim
/-! ### dicts -/
def dicF (μ : Mu) : D → Option (List (Key × D))
  | .dic kvs => some kvs
  | .o k => match μ[k]? with
    | some (.dic kvs) => some kvs
    | _ => none
  | _ => none
def valD (kvs : List (Key × D)) (k : Key) : Option D := (kvs.find? fun p => decide (p.1 = k)).map (·.2)
def keyV : D → Option Key
  | .v (.str s) => some (.inr s)
  | .v (.int i) => some (.inl i)
  | _ => none
theorem valD_at {al : Nat → Addr} {n : Nat} {H : Hp} {K : PySem.W.Frag} {k : Key} {d : D} : ∀ {kv : List (Key × V)} {kvs : List (Key × D)}, RvP K al n H kv kvs → valD kvs k = some d → ∃ v, valV kv k = some v ∧ Rv K al n H v d
  | [], [], _, e => by cases e
  | [], _ :: _, r, _ => by have := r.keys; simp at this
  | _ :: _, [], r, _ => by have := r.keys; simp at this
  | (k1, v1) :: t, (k2, d2) :: t2, r, e => by
    have hk := r.keys
    simp only [List.map_cons, List.cons.injEq] at hk
    obtain ⟨rfl, hk⟩ := hk
    unfold valD at e
    unfold valV
    rw [List.find?_cons] at e ⊢
    by_cases h : k1 = k
    · simp only [h, decide_true, Option.map_some, Option.some.injEq] at e ⊢
      subst e
      exact ⟨v1, rfl, r.at_ 0 v1 d2 rfl rfl⟩
    · simp only [h, decide_false] at e ⊢
      exact valD_at (kv := t) (kvs := t2) ⟨hk, fun i v d a b => r.at_ (i + 1) v d (by simpa using a) (by simpa using b)⟩ e
section
variable {K : PySem.W.Frag} {I : Pre}
theorem dicF_at {w : Wo} {v : V} {d : D} {kvs : List (Key × D)} (R : Rep K w) (r : w.rv K v d) (e : dicF w.mu d = some kvs) : ∃ a kv, v = .ref a ∧ w.hp a = some (.dK kv) ∧ RvP K w.al w.mu.length w.vis kv kvs := by
  cases r with
  | dic hs hl h =>
    cases e
    exact ⟨_, _, rfl, vis_le w _ _ hs, ⟨hl, h⟩⟩
  | o k hk =>
    unfold dicF at e
    dsimp only at e
    split at e
    · rename_i kvs hx
      cases e
      obtain ⟨kv, a, b⟩ := R.cell k _ hx
      exact ⟨_, kv, rfl, a, b⟩
    · cases e
  | _ => cases e
theorem keyV_at {w : Wo} {v : V} {d : D} {k : Key} (r : w.rv K v d) (e : keyV d = some k) : v = kV k := by
  unfold keyV at e
  split at e
  · cases e; cases r; rfl
  · cases e; cases r; rfl
  · cases e
def eDGet (ed ey : E3) : E3 := fun s μ Q => ed s μ fun x μ1 => ey s μ1 fun y μ2 => wSome (keyV y) fun k => wSome (dicF μ2 x) fun kvs => wSome (valD kvs k) fun d => Q d μ2
theorem s_dget {td ty : TE} {ed ey : E3} (hd : SE K I td ed) (hy : SE K I ty ey) : SE K I (tDGet td ty) (eDGet ed ey) := fun w σ s Q Q3 S h q =>
  hd w σ s _ _ S h fun w1 v1 d1 L1 R1 V1 h1 => hy w1 σ s _ _ (S.to L1 R1) h1 fun w2 v2 d2 L2 R2 V2 h2 => by
    obtain ⟨k, ek, h2⟩ := wSome_at h2
    obtain ⟨kvs, ed, h2⟩ := wSome_at h2
    obtain ⟨d, ev, h2⟩ := wSome_at h2
    obtain ⟨a, kv, rfl, ha, r⟩ := dicF_at R2 (L2.rv V1) ed
    have := keyV_at V2 ek
    subst this
    obtain ⟨v, e1, e2⟩ := valD_at r ev
    exact ⟨a, v, rfl, by rw [← e1]; exact DGet.k ha, q w2 v d (L1.trans L2) R2 e2 h2⟩
/-- sorted(a dict) -/
def rSortedD : List V → Hp → VK → Prop := fun xs H Q => ∃ (a : Addr) (kvs : List (Key × V)) (ks : List Str), xs = [.ref a] ∧ Rd H a (.dK kvs) ∧ kvs.map (·.1) = ks.map Sum.inr ∧ ks.length < 64 ∧
  ∀ ys p, ys.Perm ks → sortedS ys = true → H p = none → Q (.ref p) (upd H p (.lst (ys.map V.str)))
theorem call_sortedDK {X : Cx} (hc : X.calm = true) : CallR X (.builtin "sorted") rSortedD := call_sortedD hc
def keysS : List (Key × D) → Option (List Str)
  | [] => some []
  | (.inr s, _) :: r => (keysS r).map (s :: ·)
  | _ => none
theorem keysS_eq : ∀ {kvs : List (Key × D)} {ks : List Str}, keysS kvs = some ks → kvs.map (·.1) = ks.map Sum.inr
  | [], ks, e => by cases e; rfl
  | (.inl i, d) :: r, ks, e => by cases e
  | (.inr s, d) :: r, ks, e => by
    unfold keysS at e
    cases q : keysS r with
    | none => rw [q] at e; cases e
    | some m => rw [q] at e; cases e; rw [List.map_cons, List.map_cons, keysS_eq q]
def cSortedD : C3 := fun ds μ Q => w1 ds fun x => wSome (dicF μ x) fun kvs => wSome (keysS kvs) fun ks => ks.length < 64 ∧ Q (.lst ((sortS ks).map fun s => .v (.str s))) μ
theorem c_sortedD : SC K I rSortedD cSortedD := fun w vs ds Q Q3 R _ r h q => by
  obtain ⟨v, d, rfl, rfl, rv, h⟩ := w1_at r h
  obtain ⟨kvs, ed, h⟩ := wSome_at h
  obtain ⟨ks, ek, hl, h⟩ := wSome_at h
  obtain ⟨a, kv, rfl, ha, r2⟩ := dicF_at R rv ed
  refine ⟨a, kv, ks, rfl, .of ha, r2.keys.trans (keysS_eq ek), hl, fun ys p hp hs np => ?_⟩
  have e3 : ys = sortS ks := sort_is hp hs
  subst e3
  obtain ⟨R1, L1, V1⟩ := sqL_new R np (RvL.strs (sortS ks))
  exact q _ _ _ L1 R1 V1 h
/-- d.clear() of an owned dict -/
def mDClear : D → C3 := fun x ds μ Q => match x with
  | .o k => (match μ[k]? with
    | some (.dic kvs) => ds = [] ∧ Q (.v .non) (μ.set k (.dic []))
    | _ => False)
  | _ => False
theorem m_dclear : SM K I rDClear mDClear := fun w x vs d ds Q Q3 R _ rx rl h q => by
  unfold mDClear at h
  split at h
  · split at h
    · rename_i k _ kvs hx
      obtain ⟨rfl, h⟩ := h
      have := rl.unnil
      subst this
      cases rx
      obtain ⟨kv, h1, h2⟩ := R.cell k _ hx
      obtain ⟨R1, L1⟩ := R.put (c := .dic []) (o := .dK []) hx rfl rfl fun L => ⟨[], upd_same, ⟨rfl, fun i v d a => by simp at a⟩⟩
      exact ⟨_, kv, rfl, rfl, h1, q _ _ _ L1 R1 (.v _) h⟩
    · exact h.elim
  · exact h.elim
def tyD' (d : D) (μ : Mu) : Prop := (dicF μ d).isSome = true
theorem ty_d : STy K "dict" tyD' := fun w x d R r h => by
  unfold tyD' at h
  cases e : dicF w.mu d with
  | none => rw [e] at h; cases h
  | some kvs =>
    obtain ⟨a, kv, rfl, h1, h2⟩ := dicF_at R r e
    exact .inr (.inr (.inl ⟨rfl, .inl ⟨kv, h1⟩⟩))
/-- the veiled object is owned from now on -/
theorem veil_ownG {w w1 : Wo} {a : Addr} {c : OC} {o : HO} (h0 : sysModules ∈ w.hx) (R : Rep K w1) (L : LtV a w w1) (h : w1.hp a = some o)
    (hc : ∀ w' : Wo, w'.hp = w1.hp → w1.mu.length ≤ w'.mu.length → (∀ k, k < w1.mu.length → w'.al k = w1.al k) → Ex w1.vis w'.vis → w'.al w1.mu.length = a → Cell K w' w1.mu.length c) :
    ∃ w', w'.hp = w1.hp ∧ w'.mu = w1.mu ++ [c] ∧ Rep K w' ∧ Lt w w' ∧ w'.rv K (.ref a) (.o w1.mu.length) := by
  have hne : ∀ k, k < w1.mu.length → w1.al k ≠ a := fun k hk z => R.hxa k hk (by rw [z, L.hx]; exact List.mem_cons_self)
  refine ⟨⟨fun k => if k = w1.mu.length then a else w1.al k, w1.mu ++ [c], w1.hp, w.hx⟩, rfl, rfl, ?_⟩
  have hal : ∀ k, k < w1.mu.length → (if k = w1.mu.length then a else w1.al k) = w1.al k := fun k hk => if_neg (Nat.ne_of_lt hk)
  have E : Ex w1.vis (⟨fun k => if k = w1.mu.length then a else w1.al k, w1.mu ++ [c], w1.hp, w.hx⟩ : Wo).vis := fun b u z => by
    obtain ⟨h1, h2⟩ := vis_some z
    refine vis_of (w := ⟨fun k => if k = w1.mu.length then a else w1.al k, w1.mu ++ [c], w1.hp, w.hx⟩) h1 fun q => h2 ?_
    rcases q with ⟨k, c', e1, e2, e3⟩ | q
    · have e1 : (w1.mu ++ [c])[k]? = some c' := e1
      have e3 : (if k = w1.mu.length then a else w1.al k) = b := e3
      by_cases hk : k < w1.mu.length
      · rw [hal k hk] at e3
        rw [List.getElem?_append_left hk] at e1
        exact .inl ⟨k, c', e1, e2, e3⟩
      · have : k < (w1.mu ++ [c]).length := (List.getElem?_eq_some_iff.mp e1).1
        rw [List.length_append, List.length_singleton] at this
        rw [if_pos (by omega)] at e3
        exact .inr (by rw [← e3, L.hx]; exact List.mem_cons_self)
    · exact .inr (by rw [L.hx]; exact List.mem_cons_of_mem _ q)
  have hln : w1.mu.length ≤ (w1.mu ++ [c]).length := by simp
  refine ⟨⟨fun i j hi hj hij => ?_, fun k hk => ?_, fun b hb => R.hxn b (by rw [L.hx]; exact List.mem_cons_of_mem _ hb), fun k hk => ?_, h0, fun k c' hc' => ?_⟩, ⟨Nat.le_trans L.le hln, fun k hk => (hal k (Nat.lt_of_lt_of_le hk L.le)).trans (L.al k hk), L.ex.trans E, rfl, L.hk⟩, ?_⟩
  · have hi : i < (w1.mu ++ [c]).length := hi
    have hj : j < (w1.mu ++ [c]).length := hj
    rw [List.length_append, List.length_singleton] at hi hj
    have hij : (if i = w1.mu.length then a else w1.al i) = (if j = w1.mu.length then a else w1.al j) := hij
    by_cases h1 : i = w1.mu.length <;> by_cases h2 : j = w1.mu.length
    · omega
    · rw [if_pos h1, if_neg h2] at hij; exact absurd hij.symm (hne j (by omega))
    · rw [if_neg h1, if_pos h2] at hij; exact absurd hij (hne i (by omega))
    · rw [if_neg h1, if_neg h2] at hij; exact R.inj i j (by omega) (by omega) hij
  · have hk : k < (w1.mu ++ [c]).length := hk
    rw [List.length_append, List.length_singleton] at hk
    show w1.hp (if k = w1.mu.length then a else w1.al k) ≠ none
    by_cases h1 : k = w1.mu.length
    · rw [if_pos h1, h]; exact nofun
    · rw [if_neg h1]; exact R.there k (by omega)
  · have hk : k < (w1.mu ++ [c]).length := hk
    rw [List.length_append, List.length_singleton] at hk
    show (if k = w1.mu.length then a else w1.al k) ∉ w.hx
    by_cases h1 : k = w1.mu.length
    · rw [if_pos h1]; exact L.na
    · rw [if_neg h1]; exact fun z => R.hxa k (by omega) (by rw [L.hx]; exact List.mem_cons_of_mem _ z)
  · have hc' : (w1.mu ++ [c])[k]? = some c' := hc'
    by_cases hk : k < w1.mu.length
    · rw [List.getElem?_append_left hk] at hc'
      have q := R.cell k c' hc'
      cases c' with
      | lst ds => obtain ⟨vs, x, y⟩ := q; exact ⟨vs, by show w1.hp (if k = w1.mu.length then a else w1.al k) = _; rw [hal k hk]; exact x, y.up hln hal E⟩
      | dic ds => obtain ⟨vs, x, y⟩ := q; exact ⟨vs, by show w1.hp (if k = w1.mu.length then a else w1.al k) = _; rw [hal k hk]; exact x, y.up hln hal E⟩
      | ins C ds => obtain ⟨dx, vs, x, y⟩ := q; exact ⟨dx, vs, by show w1.hp (if k = w1.mu.length then a else w1.al k) = _; rw [hal k hk]; exact x, y.up hln hal E⟩
      | inv P => obtain ⟨vs, x, y⟩ := q; exact ⟨vs, by show w1.hp (if k = w1.mu.length then a else w1.al k) = _; rw [hal k hk]; exact x, y⟩
      | tab P nm => obtain ⟨a0, ps, x, y⟩ := q; exact ⟨by show (if k = w1.mu.length then a else w1.al k) = P; rw [hal k hk]; exact a0, ps, by show w1.hp (if k = w1.mu.length then a else w1.al k) = _; rw [hal k hk]; exact x, y.up E⟩
      | dead => trivial
    · have h3 : k < (w1.mu ++ [c]).length := (List.getElem?_eq_some_iff.mp hc').1
      rw [List.length_append, List.length_singleton] at h3
      have h4 : k = w1.mu.length := by omega
      subst h4
      rw [List.getElem?_concat_length] at hc'
      cases hc'
      exact hc _ rfl hln hal E (if_pos rfl)
  · have e : (if w1.mu.length = w1.mu.length then a else w1.al w1.mu.length) = a := if_pos rfl
    have := Rv.o (K := K) (al := fun k => if k = w1.mu.length then a else w1.al k) (n := (w1.mu ++ [c]).length) (H := (⟨fun k => if k = w1.mu.length then a else w1.al k, w1.mu ++ [c], w1.hp, w.hx⟩ : Wo).vis) w1.mu.length (by simp)
    rw [e] at this
    exact this
/-- a dict display, owned -/
def eDispO (ps : List (E3 × E3)) : E3 := fun s μ Q => ePairs ps s μ fun qs μ1 => wSome (keysOf qs) fun kvs => (kvs.length ≤ 15 ∧ decide (kvs.map (·.1)).Nodup = true) ∧ Q (.o μ1.length) (μ1 ++ [.dic kvs])
theorem s_dispO {trs : List (TE × TE)} {ers : List (E3 × E3)} (h : SPs K Pre.top trs ers) : SE K I (tDisp trs) (eDispO ers) := fun w σ s Q Q3 S h1 q p hp => by
  obtain ⟨R1, L1⟩ := veil_new (o := .dK []) S.rep hp
  have hm : p ∈ (w.veil p (upd w.hp p (.dK []))).hx := List.mem_cons_self
  refine pairs_run h (w.veil p (upd w.hp p (.dK []))) σ s _ _ ⟨R1, L1.rs S.rvs, trivial⟩ h1 fun w2 ps qs L2 R2 V2 h2 => ?_
  obtain ⟨kvs, ek, ⟨hl, hn⟩, h2⟩ := wSome_at h2
  obtain ⟨kv, rfl, e1, e2⟩ := keysOf_rv ek V2
  have ep : w2.hp p = some (.dK []) := (L2.hk p hm).trans upd_same
  have hlen : kv.length = kvs.length := by have := congrArg List.length e1; simpa using this
  refine ⟨ep, kv, rfl, by omega, ?_⟩
  rw [mergeK_nd e1 hn]
  obtain ⟨R3, L3, E3'⟩ := veil_set (o := .dK kv) R2 (L1.trans L2)
  have r3 := e2.up (Nat.le_refl _) (fun _ _ => rfl) E3'
  obtain ⟨w4, eh, em, R4, L4, V4⟩ := veil_ownG (c := .dic kvs) (o := .dK kv) S.rep.sys R3 L3 upd_same fun w' e1' e2' e3' e4' e5' => ⟨kv, by rw [e5', e1']; exact upd_same, e1, (r3.up e2' e3' e4').at_⟩
  have := q w4 _ _ L4 R4 V4 (by rw [em]; exact h2)
  rw [eh] at this
  exact this
end
/-! ### dicts of the module -/
/-- at d a written dict with text keys -/
def KD (K : PySem.W.Frag) (w : World) (d : Addr) (kvs : List (Str × V)) : Prop := ∃ es n, KDict K w d es n ∧ Paired (fun (e : DictEntry) (p : Str × V) => ∃ t, e.key = .str p.1 t ∧ RelV p.2 e.val) es.toList kvs
theorem kd_look {K : PySem.W.Frag} {d : Addr} {z : Str} {c : Value} {od : Option Addr} {n : Nat} {sl : Array (Option Value)} {es : Array DictEntry} {kvs : List (Str × V)} (hl : K.lookup d = some ⟨c, od, .dict es n, sl⟩)
    (hp : Paired (fun (e : DictEntry) (p : Str × V) => ∃ t, e.key = .str p.1 t ∧ RelV p.2 e.val) es.toList kvs) :
    (∀ v, kvs.lookup z = some v → ∃ u, PySem.W.nsIn K d z = some (some u) ∧ RelV v u) ∧ (kvs.lookup z = none → PySem.W.nsIn K d z = some none) := by
  have aux : ∀ {l : List DictEntry} {kvs : List (Str × V)}, Paired (fun (e : DictEntry) (p : Str × V) => ∃ t, e.key = .str p.1 t ∧ RelV p.2 e.val) l kvs →
      (∀ v, kvs.lookup z = some v → ∃ e, l.find? (·.key.isStr z) = some e ∧ RelV v e.val) ∧ (kvs.lookup z = none → l.find? (·.key.isStr z) = none ∧ l.any (·.refKey) = false) := by
    intro l kvs h
    induction h with
    | nil => exact ⟨fun v e => (nomatch e), fun _ => ⟨rfl, rfl⟩⟩
    | @cons e p l kvs h1 h2 ih =>
      obtain ⟨t, ek, r⟩ := h1
      obtain ⟨x, v0⟩ := p
      dsimp only at ek r
      have hi : e.key.isStr z = (x == z) := by rw [ek]; rfl
      have hr : e.refKey = false := by unfold DictEntry.refKey; rw [ek]
      refine ⟨fun v e1 => ?_, fun e1 => ?_⟩
      · rw [List.lookup_cons] at e1
        rw [List.find?_cons, hi]
        by_cases hz : z = x
        · subst hz
          rw [beq_self_eq_true] at e1 ⊢
          cases e1
          exact ⟨e, rfl, r⟩
        · rw [beq_eq_false_iff_ne.mpr hz] at e1
          rw [beq_eq_false_iff_ne.mpr (Ne.symm hz)]
          exact ih.1 v e1
      · rw [List.lookup_cons] at e1
        rw [List.find?_cons, hi, List.any_cons, hr]
        by_cases hz : z = x
        · subst hz
          rw [beq_self_eq_true] at e1
          cases e1
        · rw [beq_eq_false_iff_ne.mpr hz] at e1
          rw [beq_eq_false_iff_ne.mpr (Ne.symm hz)]
          exact ⟨(ih.2 e1).1, by rw [(ih.2 e1).2]; rfl⟩
  obtain ⟨a1, a2⟩ := aux hp
  unfold PySem.W.nsIn
  rw [hl]
  refine ⟨fun v e => ?_, fun e => ?_⟩
  · obtain ⟨en, e1, r⟩ := a1 v e
    exact ⟨en.val, by dsimp only; rw [e1], r⟩
  · obtain ⟨e1, e2⟩ := a2 e
    dsimp only
    rw [e1, e2]
    rfl
def rKdIn (neg : Bool) (d : Addr) (kvs : List (Str × V)) : R2 := fun x y H Q => ∃ z, x = .str z ∧ y = .ref d ∧ Q (.bl (neg ^^ (kvs.lookup z).isSome)) H
def rKdIx (d : Addr) (kvs : List (Str × V)) : R2 := fun x y H Q => ∃ z v, x = .ref d ∧ y = .str z ∧ kvs.lookup z = some v ∧ Q v H
section
variable {X : Cx} {K : PySem.W.Frag} {w : World} {d : Addr} {kvs : List (Str × V)}
theorem op_kdIn (hK : X.K = K) (hw : X.w = w) (D : KD K w d kvs) : OpR X (compareOp .In) (rKdIn false d kvs) := by
  subst hK hw
  obtain ⟨es, n, D, hp⟩ := D
  intro pins s σ H x y v u Q I rx ry h
  obtain ⟨z, rfl, rfl, q⟩ := h
  obtain ⟨a1, a2⟩ := kd_look (z := z) D.at_ hp
  cases e : kvs.lookup z with
  | none => rw [e] at q; exact op_in_kd D pins s σ H _ _ v u Q I rx ry ⟨z, _, rfl, rfl, a2 e, q⟩
  | some x => rw [e] at q; obtain ⟨u', e1, _⟩ := a1 x e; exact op_in_kd D pins s σ H _ _ v u Q I rx ry ⟨z, _, rfl, rfl, e1, q⟩
theorem op_kdNotIn (hK : X.K = K) (hw : X.w = w) (D : KD K w d kvs) : OpR X (compareOp .NotIn) (rKdIn true d kvs) := by
  subst hK hw
  obtain ⟨es, n, D, hp⟩ := D
  intro pins s σ H x y v u Q I rx ry h
  obtain ⟨z, rfl, rfl, q⟩ := h
  obtain ⟨a1, a2⟩ := kd_look (z := z) D.at_ hp
  cases e : kvs.lookup z with
  | none => rw [e] at q; exact op_notIn_kd D pins s σ H _ _ v u Q I rx ry ⟨z, _, rfl, rfl, a2 e, q⟩
  | some x => rw [e] at q; obtain ⟨u', e1, _⟩ := a1 x e; exact op_notIn_kd D pins s σ H _ _ v u Q I rx ry ⟨z, _, rfl, rfl, e1, q⟩
theorem pe_kdget {o i : Expr} {to ti : TE} {pos : Pos} (hK : X.K = K) (hw : X.w = w) (D : KD K w d kvs) (ho : PE X o to) (hi : PE X i ti) (hs : NoSl i) : PE X (.Subscript o i pos) (tOp (rKdIx d kvs) to ti) := by
  subst hK hw
  obtain ⟨es, n, D, hp⟩ := D
  refine ⟨fun pins s σ H Q I h => ?_⟩
  refine subD_of PySem.F.slot_dict_getitem.lookup hs (thn (ho.run pins s σ H _ I h) fun u s1 ⟨x, H1, I1, rx, q1⟩ => thn (hi.run pins s1 σ H1 _ I1 q1) fun iv s2 ⟨y, H2, I2, ry, z, v, ex, ey, e, q2⟩ => ?_)
  obtain ⟨a1, _⟩ := kd_look (z := z) D.at_ hp
  obtain ⟨u', e1, r⟩ := a1 v e
  have rx' := rx
  subst ex
  obtain rfl : u = Value.ref d := rx
  exact ⟨kd_type D I2, op_item_kd D pins s2 σ H2 _ y _ iv Q I2 rx' ry ⟨z, u', v, rfl, ey, e1, r, q2⟩⟩
end
section
variable {K : PySem.W.Frag} {I : Pre}
def oKdIn (neg : Bool) (d : Addr) (kvs : List (Str × V)) : R3 := fun x y μ Q => match x, y with
  | .v (.str z), .v (.ref a) => a = d ∧ Q (.v (.bl (neg ^^ (kvs.lookup z).isSome))) μ
  | _, _ => False
def oKdIx (d : Addr) (kvs : List (Str × V)) : R3 := fun x y μ Q => match x, y with
  | .v (.ref a), .v (.str z) => a = d ∧ wSome (kvs.lookup z) fun v => Q (.v v) μ
  | _, _ => False
theorem r_kdIn {neg : Bool} {d : Addr} {kvs : List (Str × V)} : SR K I (rKdIn neg d kvs) (oKdIn neg d kvs) := fun w x y dx dy Q Q3 R _ rx ry h q => by
  unfold oKdIn at h
  split at h
  · obtain ⟨rfl, h⟩ := h
    cases rx; cases ry
    exact ⟨_, rfl, rfl, q w _ _ (.refl w) R (.v _) h⟩
  · exact h.elim
theorem r_kdIx {d : Addr} {kvs : List (Str × V)} : SR K I (rKdIx d kvs) (oKdIx d kvs) := fun w x y dx dy Q Q3 R _ rx ry h q => by
  unfold oKdIx at h
  split at h
  · obtain ⟨rfl, h⟩ := h
    obtain ⟨v, e, h⟩ := wSome_at h
    cases rx; cases ry
    exact ⟨_, v, rfl, rfl, e, q w _ _ (.refl w) R (.v _) h⟩
  · exact h.elim
end
/-! ### tuples shown -/
theorem sm_shwT {k B : Nat} {xs : List D} (h : Sm k B (.tup xs)) (hk : k ≤ 64) (hB : B ≤ 400000) : ∃ p, px (.tup xs) = some p ∧ Shw p ∧ p.shown = rpr (.tup xs) := by
  obtain ⟨p, h1, h2, h3, h4, h5, h6⟩ := h
  have e := h1
  rw [px] at e
  have s := PyData.shown_le 30 (by decide) p h4
  have hz : sizeLine = 16777216 := rfl
  refine ⟨p, h1, ?_, by unfold rpr; rw [h1]⟩
  cases q : pxL xs with
  | none => rw [q] at e; cases e
  | some ps => rw [q] at e; cases e; exact ⟨fun i => by simp, by simp, fun b => by simp, fun s => by simp, h2, by omega, by rw [hz]; omega⟩
theorem rp_tupK {k B : Nat} {xs : List D} {μ : Mu} {P : PyData → Prop} (h : Sm k B (.tup xs)) (hk : k ≤ 64) (hB : B ≤ 400000) (q : ∀ p : PyData, p.shown = rpr (.tup xs) → P p) : wSome (pxM μ (.tup xs)) fun p => Shw p ∧ P p := by
  obtain ⟨p, e, w, r⟩ := sm_shwT h hk hB
  have : pxM μ (.tup xs) = some p := e
  rw [this]; exact ⟨w, q p r⟩
end Wb

set_option Elab.async false
set_option linter.all false
set_option maxRecDepth 100000
/-! texts cut at a sign -/
namespace Wb
open PySem PySem.Spec PyProof.Rows L2
open TL (tl)
abbrev sg1 (c : Nat) : Str := ⟨#[c]⟩
theorem tl_sg1 (c : Nat) : tl (sg1 c) = [c] := rfl
theorem join_snoc {y : Str} (a : Str) : ∀ {ps : List Str}, ps ≠ [] → Txt.join y (ps ++ [a]) = Txt.join y ps ++ y ++ a
  | [], h => absurd rfl h
  | [p], _ => by
    rw [TL.join_eq, TL.join_eq]; rfl
  | p :: q :: r, _ => by
    have ih := join_snoc (y := y) a (ps := q :: r) (List.cons_ne_nil _ _)
    rw [TL.join_eq, TL.join_eq] at ih ⊢
    show p ++ y ++ Str.join y ((q :: r) ++ [a]) = (p ++ y ++ Str.join y (q :: r)) ++ y ++ a
    rw [ih]
    rw [str_eq]
    simp only [tl_app, List.append_assoc]
theorem join_one {y a : Str} : Txt.join y [a] = a := by rw [TL.join_eq]; rfl
/-- parts of a text at a sign, told by what they are -/
theorem split_is {c : Nat} (hc : c < 256) {s : Str} {ps : List Str} (hne : ps ≠ []) (hp : ∀ p ∈ ps, c ∉ tl p) (hj : Txt.join (sg1 c) ps = s) : Txt.split s (sg1 c) = ps := by
  subst hj
  exact TL.split_join (tl_sg1 c) (by simp [sg1, hc]) hne hp
theorem join_parts (s : Str) (c : Nat) : Txt.join (sg1 c) (Txt.split s (sg1 c)) = s := by rw [TL.join_eq]; exact StrLaws.join_split _ _
theorem parts_free (s : Str) (c : Nat) : ∀ p ∈ Txt.split s (sg1 c), c ∉ tl p := fun p hp => StrLaws.split_free s c p hp
theorem parts_ne (s : Str) {c : Nat} (hc : c < 256) : Txt.split s (sg1 c) ≠ [] := fun e => by
  have h := TL.split_spl s (sg1 c) (by rw [tl_sg1]; simp) (TL.kind_ok (by simp [sg1, hc]))
  rw [e] at h
  have h : TL.spl (tl (sg1 c)) 0 [] (tl s) = [] := h.symm
  have key : ∀ (l acc : List Nat) (n : Nat), TL.spl (tl (sg1 c)) n acc l ≠ [] := by
    intro l
    induction l with
    | nil => intro acc n; simp [TL.spl]
    | cons x r ih =>
      intro acc n
      rw [TL.spl.eq_def]
      split <;> (try dsimp only) <;> (repeat' split) <;> first
        | exact List.cons_ne_nil _ _
        | exact ih _ _
        | simp_all
  exact key _ _ _ h
theorem at_one {s : Str} {c n i : Nat} (hn : n = s.length) : StrLaws.At s (sg1 c) n i ↔ (tl s)[i]? = some c := by
  subst hn
  unfold StrLaws.At
  rw [StrLaws.subAt_eq]
  have e1 : (sg1 c).length = 1 := rfl
  have e2 : s.length = (tl s).length := by show s.cps.size = s.cps.toList.length; simp
  rw [e1, e2]
  show i + 1 ≤ (tl s).length ∧ (((tl s).drop i).take 1 == [c]) = true ↔ _
  constructor
  · rintro ⟨h1, h2⟩
    have h3 : ((tl s).drop i).take 1 = [c] := by simpa using h2
    have h4 : (((tl s).drop i).take 1)[0]? = some c := by rw [h3]; rfl
    rw [List.getElem?_take, if_pos (by omega), List.getElem?_drop] at h4
    simpa using h4
  · intro h
    have hl := (List.getElem?_eq_some_iff.mp h).1
    refine ⟨hl, ?_⟩
    have h5 : (tl s).drop i = c :: (tl s).drop (i + 1) := by
      rw [List.drop_eq_getElem_cons hl]
      congr 1
      exact (List.getElem?_eq_some_iff.mp h).2
    rw [h5]
    simp
theorem rpart_app {c : Nat} {a b : Str} (h : c ∉ tl b) : Txt.rpartition (a ++ sg1 c ++ b) (sg1 c) = (a, sg1 c, b) := by
  have hs : tl (a ++ sg1 c ++ b) = tl a ++ c :: tl b := by rw [tl_app, tl_app, tl_sg1, List.append_assoc]; rfl
  have ha : StrLaws.At (a ++ sg1 c ++ b) (sg1 c) (a ++ sg1 c ++ b).length (tl a).length := (at_one rfl).mpr (by rw [hs, List.getElem?_append_right (Nat.le_refl _)]; simp)
  unfold Txt.rpartition
  rcases StrLaws.last_spec (a ++ sg1 c ++ b) (sg1 c) with ⟨h0, hn⟩ | ⟨i, h0, hi, hn⟩
  · exact absurd ha (hn _)
  · have e : i = (tl a).length := by
      rcases Nat.lt_trichotomy i (tl a).length with z | z | z
      · exact absurd ha (hn _ z)
      · exact z
      · have q := (at_one rfl).mp hi
        rw [hs, List.getElem?_append_right (by omega)] at q
        cases j : i - (tl a).length with
        | zero => omega
        | succ j' =>
          rw [j, List.getElem?_cons_succ] at q
          exact absurd (List.mem_of_getElem? q) h
    rw [h0]
    subst e
    show ((⟨(a ++ sg1 c ++ b).cps.extract 0 (tl a).length⟩ : Str), sg1 c, (⟨(a ++ sg1 c ++ b).cps.extract ((tl a).length + 1) (a ++ sg1 c ++ b).length⟩ : Str)) = _
    have hl : (a ++ sg1 c ++ b).length = (tl a).length + 1 + (tl b).length := by
      rw [tl_len, hs]; simp; omega
    refine Prod.ext ?_ (Prod.ext rfl ?_)
    · rw [str_eq]
      show ((a ++ sg1 c ++ b).cps.extract 0 (tl a).length).toList = _
      rw [Array.toList_extract]
      show List.extract (tl (a ++ sg1 c ++ b)) _ _ = _
      rw [hs, List.extract_eq_drop_take]
      simp
    · rw [str_eq]
      show ((a ++ sg1 c ++ b).cps.extract ((tl a).length + 1) (a ++ sg1 c ++ b).length).toList = _
      rw [Array.toList_extract]
      show List.extract (tl (a ++ sg1 c ++ b)) _ _ = _
      rw [hs, hl, List.extract_eq_drop_take]
      rw [show (tl a ++ c :: tl b) = (tl a ++ [c]) ++ tl b by simp]
      rw [show List.drop ((tl a).length + 1) ((tl a ++ [c]) ++ tl b) = tl b from by rw [show (tl a).length + 1 = (tl a ++ [c]).length by simp]; exact List.drop_left]
      exact List.take_of_length_le (by omega)
theorem rpart_none {c : Nat} {s : Str} (h : c ∉ tl s) : Txt.rpartition s (sg1 c) = (Str.empty, Str.empty, s) := by
  unfold Txt.rpartition
  rcases StrLaws.last_spec s (sg1 c) with ⟨h0, hn⟩ | ⟨i, h0, hi, hn⟩
  · rw [h0]
  · exact absurd (List.mem_of_getElem? ((at_one rfl).mp hi)) h
/-- the last part, and what stands ahead -/
theorem rpart_parts {c : Nat} (hc : c < 256) (s : Str) : ∃ ps l, Txt.split s (sg1 c) = ps ++ [l] ∧ (ps = [] → Txt.rpartition s (sg1 c) = (Str.empty, Str.empty, s) ∧ l = s) ∧ (ps ≠ [] → Txt.rpartition s (sg1 c) = (Txt.join (sg1 c) ps, sg1 c, l)) := by
  have hne := parts_ne s hc
  have hj := join_parts s c
  have hf := parts_free s c
  obtain ⟨ps, l, e⟩ : ∃ ps l, Txt.split s (sg1 c) = ps ++ [l] := ⟨_, _, (List.dropLast_concat_getLast hne).symm⟩
  rw [e] at hj hf
  refine ⟨ps, l, e, fun h => ?_, fun h => ?_⟩
  · subst h
    have e2 : l = s := by rw [← hj]; exact join_one.symm
    subst e2
    exact ⟨rpart_none (hf l (by simp)), rfl⟩
  · rw [join_snoc l h] at hj
    rw [← hj]
    exact rpart_app (hf l (by simp))
/-- a part stands in the whole -/
theorem part_in {y : Str} : ∀ {ps : List Str} {p : Str}, p ∈ ps → ∃ u v, tl (Txt.join y ps) = u ++ tl p ++ v
  | [], _, h => nomatch h
  | [q], p, h => by
    rw [List.mem_singleton.mp h, join_one]
    exact ⟨[], [], by simp⟩
  | q :: r :: t, p, h => by
    have e : tl (Txt.join y (q :: r :: t)) = tl q ++ tl y ++ tl (Txt.join y (r :: t)) := by
      rw [TL.join_eq, TL.join_eq]
      show tl (q ++ y ++ Str.join y (r :: t)) = _
      rw [tl_app, tl_app]
    rw [e]
    rcases List.mem_cons.mp h with rfl | h
    · exact ⟨[], tl y ++ tl (Txt.join y (r :: t)), by simp⟩
    · obtain ⟨u, v, e2⟩ := part_in h
      exact ⟨tl q ++ tl y ++ u, v, by rw [e2]; simp⟩
theorem part_gd {s p : Str} {c : Nat} (h : p ∈ Txt.split s (sg1 c)) (g : Gd s) : Gd p ∧ p.length ≤ s.length := by
  obtain ⟨u, v, e⟩ := part_in (y := sg1 c) h
  rw [join_parts] at e
  refine ⟨fun x hx => g x (by rw [e]; simp [hx]), ?_⟩
  rw [tl_len, tl_len, e]
  simp; omega
/-- all but the last -/
theorem cutD_m1 (xs : List D) (x : D) : cutD (xs ++ [x]) none (some (-1)) = xs := by
  unfold cutD
  have h1 : HT.sIx (xs ++ [x]).length 0 none = 0 := rfl
  have h2 : HT.sIx (xs ++ [x]).length (xs ++ [x]).length (some (-1)) = xs.length := by
    have hl : (xs ++ [x]).length = xs.length + 1 := by simp
    rw [hl]
    simp [HT.sIx]
    try omega
  rw [h1, h2]
  simp
/-- a comprehension whose turns make texts, and may leave owned things behind -/
theorem lc_grow {all : List D} {b : D → Mu → (Option D → Mu → Prop) → Prop} {Q : List D → Mu → Prop} {μ : Mu} (P : Str → Prop) (hl : all.length ≤ 1000000)
    (hb : ∀ x ∈ all, ∀ (μ' : Mu) (k : Option D → Mu → Prop), (∀ s ν, P s → k (some (.v (.str s))) (μ' ++ ν)) → b x μ' k) (hq : ∀ (ss : List Str) (ν : Mu), ss.length = all.length → (∀ a ∈ ss, P a) → Q (ss.map fun s => D.v (.str s)) (μ ++ ν)) : lcE (fun _ => some all) all b Q μ := by
  refine ⟨fun i acc μ' => i ≤ all.length ∧ ∃ (ss : List Str) (ν : Mu), ss.length = i ∧ (∀ a ∈ ss, P a) ∧ acc = (ss.map fun s => D.v (.str s)) ∧ μ' = μ ++ ν, ⟨Nat.zero_le _, [], [], rfl, fun _ h => (nomatch h), rfl, by simp⟩, ?_⟩
  rintro i acc μ' ⟨hi, ss, ν, h1, h2, rfl, rfl⟩
  refine ⟨rfl, ?_⟩
  cases e : all[i]? with
  | none =>
    have : all.length ≤ i := List.getElem?_eq_none_iff.mp e
    exact hq ss ν (by omega) h2
  | some x =>
    have hi2 : i < all.length := (List.getElem?_eq_some_iff.mp e).1
    refine hb x (List.mem_of_getElem? e) _ _ fun s ν2 hs => ⟨ltl (by rw [List.length_map]; omega), by omega, ss ++ [s], ν ++ ν2, by simp [h1], fun z hz => ?_, by simp, by simp⟩
    rcases List.mem_append.mp hz with z | z
    · exact h2 _ z
    · rw [List.mem_singleton.mp z]; exact hs
theorem valD_hit {k : Key} {d : D} {r : List (Key × D)} : valD ((k, d) :: r) k = some d := by
  unfold valD
  rw [List.find?_cons]
  simp
theorem valD_miss {k k' : Key} {d : D} {r : List (Key × D)} (h : k' ≠ k) : valD ((k', d) :: r) k = valD r k := by
  unfold valD
  rw [List.find?_cons]
  simp [h]
/-- the sorted list, told by what it is -/
theorem sortS_is {l m : List Str} (hp : m.isPerm l = true) (hm : sortedS m = true) : sortS l = m := (sort_is (List.isPerm_iff.mp hp) hm).symm
end Wb

set_option Elab.async false
set_option linter.all false
set_option maxRecDepth 100000
/-! int(text, base) for the bases two, eight and sixteen; .get of a dict of the module -/
namespace Wb
open PySem PySem.Spec PyProof.Rows L2
open TL (tl)
/-! ### the number -/
def IsB (B : Nat) : Prop := B = 2 ∨ B = 8 ∨ B = 16
def numB (B : Nat) (l : List Nat) : Nat := l.foldl (fun a c => a * B + Hx.hv c) 0
def FigB (B c : Nat) : Prop := Hx.IsHex c ∧ Hx.hv c < B
section
open PySem.NumText PySem.Calls
theorem stp_fig {B : Nat} {p : Array Nat × Bool} {c : Nat} (h : FigB B c) : NumText.step B p c = some (p.1.push (Hx.hv c), true) := by
  have hr := Hx.hex_rng h.1
  unfold NumText.step
  rw [beq_eq_false_iff_ne.mpr hr.2.2, Hx.digit_hex h.1]
  show (if Hx.hv c < B then _ else _) = _
  rw [if_pos h.2]
theorem runs_fig {B : Nat} : ∀ (cs : List Nat) (p : Array Nat × Bool), (∀ c ∈ cs, FigB B c) → cs.foldlM (NumText.step B) p = some (p.1 ++ (cs.map Hx.hv).toArray, p.2 || !cs.isEmpty)
  | [], (ds, b), _ => by simp
  | c :: r, p, h => by
    rw [List.foldlM_cons, stp_fig (h c (by simp))]
    show r.foldlM (NumText.step B) (p.1.push (Hx.hv c), true) = _
    rw [runs_fig r _ fun d hd => h d (List.mem_cons_of_mem _ hd)]
    simp
theorem digs_fig {B : Nat} {cs : List Nat} (h : ∀ c ∈ cs, FigB B c) (hne : cs ≠ []) : digits? B cs = some (cs.map Hx.hv).toArray := by
  unfold digits?
  rw [runs_fig cs _ h]
  cases cs with
  | nil => exact absurd rfl hne
  | cons c r => simp
theorem fig_two {c : Nat} (h : FigB 2 c) : c = 48 ∨ c = 49 := by
  obtain ⟨h1, h2⟩ := h
  unfold Hx.IsHex at h1
  unfold Hx.hv at h2
  (repeat' split at h2) <;> omega
theorem fig_eight {c : Nat} (h : FigB 8 c) : c = 48 ∨ c = 49 ∨ c = 50 ∨ c = 51 ∨ c = 52 ∨ c = 53 ∨ c = 54 ∨ c = 55 := by
  obtain ⟨h1, h2⟩ := h
  unfold Hx.IsHex at h1
  unfold Hx.hv at h2
  (repeat' split at h2) <;> omega
theorem basd_fig {B : Nat} (hB : IsB B) {cs : List Nat} (h : ∀ c ∈ cs, FigB B c) : based B cs = (B, false, cs) := by
  rcases hB with rfl | rfl | rfl
  · match cs, h with
    | [], _ => rfl
    | a :: r, h =>
      rcases fig_two (h a (by simp)) with rfl | rfl
      · match r, h with
        | [], _ => rfl
        | c :: t, h => rcases fig_two (h c (by simp)) with rfl | rfl <;> rfl
      · rfl
  · match cs, h with
    | [], _ => rfl
    | a :: r, h =>
      rcases fig_eight (h a (by simp)) with rfl | rfl | rfl | rfl | rfl | rfl | rfl | rfl
      · match r, h with
        | [], _ => rfl
        | c :: t, h => rcases fig_eight (h c (by simp)) with rfl | rfl | rfl | rfl | rfl | rfl | rfl | rfl <;> rfl
      all_goals rfl
  · exact Hx.basedH fun c hc => (h c hc).1
theorem read_fig {B : Nat} (hB : IsB B) {cs : List Nat} (h : ∀ c ∈ cs, FigB B c) (hne : cs ≠ []) : (int_private% "readNumeral") 0 B cs = (int_private% "Numeral.value") ((numB B cs : Nat) : Int) := by
  have hx : ∀ c ∈ cs, Hx.IsHex c := fun c hc => (h c hc).1
  have hb : (B == 10) = false := beq_eq_false_iff_ne.mpr (by unfold IsB at hB; omega)
  rw [readNumeral_eq, Hx.dropB hx, Hx.signH hx]
  show judge 0 false (based B cs).1 (based B cs).2.1 (digits? (based B cs).1 (((based B cs).2.2.reverse.dropWhile blank).reverse)) = _
  rw [basd_fig hB h]
  show judge 0 false B false (digits? B ((cs.reverse.dropWhile blank).reverse)) = _
  rw [Hx.dropB fun c hc => hx c (List.mem_reverse.mp hc), List.reverse_reverse, digs_fig h hne]
  unfold judge
  dsimp only
  rw [hb, show (0 != 0) = false from rfl, Bool.and_false, Bool.false_and, Bool.false_and]
  have e : (List.map Hx.hv cs).toArray.foldl (fun acc d => acc * B + d) 0 = numB B cs := by
    rw [List.foldl_toArray, List.foldl_map]; rfl
  rw [e]
  rfl
structure HidB (p : Prop) : Prop where
  out : p
theorem facts_fig {B : Nat} (hB : IsB B) {x : PySem.Str} (hl : x.length ≤ 640) (h : ∀ c ∈ x.cps.toList, FigB B c) (hne : x.cps.toList ≠ []) :
    HidB ((numSeenOf x).length ≤ 640 ∧ (int_private% "readNumeral") 0 B (numSeenOf x) = (int_private% "Numeral.value") ((numB B x.cps.toList : Nat) : Int) ∧ ((numSeenOf x).length == (numTextOf x).length) = true) := by
  obtain ⟨e1, e2⟩ := Hx.seen_hex fun c hc => (h c hc).1
  exact ⟨by rw [e2, Array.length_toList]; exact hl, by rw [e2]; exact read_fig hB h hne, by rw [e1, e2]; exact beq_self_eq_true _⟩
set_option maxHeartbeats 4000000 in
theorem gives_two {x : PySem.Str} {u t : Tok} (hl : x.length ≤ 640) (h : ∀ c ∈ x.cps.toList, FigB 2 c) (hne : x.cps.toList ≠ []) :
    Gives (Builtin.«int.__new__» ⟨[.type "int", .str x u, .int 2 t], []⟩) (.int ((numB 2 x.cps.toList : Nat) : Int)) :=
  .of_wp fun M A E s Q hQ => by
    obtain ⟨hp, g, d, tk, os⟩ := s
    have f1 := F.conv_sub_int
    have f2 := F.madeHere_int
    have f6 : typeOf (.str x u) = pure (.type "str") := rfl
    have hk := facts_fig (.inl rfl) hl h hne
    clear hl hne h
    repeat (any_goals (first
      | assumption
      | ((with_reducible show wpAny _ _ ((int_private% "intFromText") _ _ _) _ _ _); refine Hx.wp_textB hk.out.1 hk.out.2.1 hk.out.2.2 ?_)
      | wp_step))
    all_goals first | exact ⟨_, rfl, hQ⟩ | skip
set_option maxHeartbeats 4000000 in
theorem gives_eight {x : PySem.Str} {u t : Tok} (hl : x.length ≤ 640) (h : ∀ c ∈ x.cps.toList, FigB 8 c) (hne : x.cps.toList ≠ []) :
    Gives (Builtin.«int.__new__» ⟨[.type "int", .str x u, .int 8 t], []⟩) (.int ((numB 8 x.cps.toList : Nat) : Int)) :=
  .of_wp fun M A E s Q hQ => by
    obtain ⟨hp, g, d, tk, os⟩ := s
    have f1 := F.conv_sub_int
    have f2 := F.madeHere_int
    have f6 : typeOf (.str x u) = pure (.type "str") := rfl
    have hk := facts_fig (.inr (.inl rfl)) hl h hne
    clear hl hne h
    repeat (any_goals (first
      | assumption
      | ((with_reducible show wpAny _ _ ((int_private% "intFromText") _ _ _) _ _ _); refine Hx.wp_textB hk.out.1 hk.out.2.1 hk.out.2.2 ?_)
      | wp_step))
    all_goals first | exact ⟨_, rfl, hQ⟩ | skip
end
theorem call_of_gives {prog : Program} {w : World} {A : Around} {E : Value → Shared → Prop} {s : Shared} {Q : Value → Shared → Prop} {a b : Value} {n : Int} (g : Gives (Builtin.«int.__new__» ⟨[.type "int", a, b], []⟩) (.int n))
    (hQ : Q (.int n s.toks) { s with toks := s.toks + 1 }) : wpAny (model prog w) A (call (.type "int") [a, b]) Q E s :=
  callType_new F.called_int F.newNe_int (Hx.typeCall_int_2 _ _) (Hx.newCall_int_2 _ _) (fun obj => F.initArgs_range_2 obj _ _) F.entry_int_new g.meets (show (Made.int n).post _ s from ⟨rfl, hQ⟩)
/-- int(text, base) -/
def rIntB : List V → Hp → VK → Prop := fun xs H Q => ∃ (a : Str) (B : Nat), xs = [.str a, .int (B : Int)] ∧ IsB B ∧ tl a ≠ [] ∧ a.length ≤ 640 ∧ (∀ c ∈ tl a, FigB B c) ∧ Q (.int ((numB B (tl a) : Nat) : Int)) H
theorem hexNum_eq (l : List Nat) : Hx.hexNum l = numB 16 l := rfl
theorem call_intB {X : Cx} : CallR X (.type "int") rIntB := by
  intro pins s σ H xs us Q I r h
  obtain ⟨a, B, rfl, hB, hne, hl, hx, q⟩ := h
  obtain ⟨u, w', rfl, r1, r2⟩ := vals2 r
  obtain ⟨t1, rfl⟩ := r1
  obtain ⟨t2, rfl⟩ := r2
  rcases hB with rfl | rfl | rfl
  · exact call_of_gives (gives_two hl hx hne) ⟨.int ((numB 2 (tl a) : Nat) : Int), H, I.tok _, ⟨_, rfl⟩, q⟩
  · exact call_of_gives (gives_eight hl hx hne) ⟨.int ((numB 8 (tl a) : Nat) : Int), H, I.tok _, ⟨_, rfl⟩, q⟩
  · exact call_of_gives (Hx.gives_hex hl (fun c hc => (hx c hc).1) hne) ⟨.int ((numB 16 (tl a) : Nat) : Int), H, I.tok _, ⟨_, rfl⟩, q⟩
section
variable {K : PySem.W.Frag} {I : Pre}
def cIntB : C3 := fun ds μ Q => w2 ds fun x y => match x, y with
  | .v (.str a), .v (.int b) => ∃ B : Nat, b = (B : Int) ∧ IsB B ∧ tl a ≠ [] ∧ a.length ≤ 640 ∧ (∀ c ∈ tl a, FigB B c) ∧ Q (.v (.int ((numB B (tl a) : Nat) : Int))) μ
  | _, _ => False
theorem c_intB : SC K I rIntB cIntB := fun w vs ds Q Q3 R _ r h q => by
  obtain ⟨v, u, d, e, rfl, rfl, rv, ru, h⟩ := w2_at r h
  split at h
  · obtain ⟨B, rfl, h1, h2, h3, h4, h5⟩ := h
    cases rv; cases ru
    exact ⟨_, B, rfl, h1, h2, h3, h4, q w _ _ (.refl w) R (.v _) h5⟩
  · exact h.elim
end
/-! ### .get with a default of a dict of the module -/
def tKGet2 (d : Addr) (kvs : List (Str × V)) (to te tx : TE) : TE := fun σ H Q => to σ H fun x H1 => x = .ref d ∧ te σ H1 fun y H2 => tx σ H2 fun z H3 => ∃ s, y = .str s ∧ Q ((kvs.lookup s).getD z) H3
theorem pe_kget2 {X : Cx} {K : PySem.W.Frag} {w : World} {d : Addr} {kvs : List (Str × V)} {o e f : Expr} {apos cpos : Pos} {to te tx : TE} (hK : X.K = K) (hw : X.w = w) (D : KD K w d kvs) (ho : PE X o to) (he : PE X e te) (hf : PE X f tx) (m : M2 X o "get" apos e f cpos) :
    PE X (.Call (.Attribute o "get" apos) [e, f] [] cpos) (tKGet2 d kvs to te tx) := by
  subst hK hw
  obtain ⟨es, n, D, hp⟩ := D
  refine ⟨fun pins s σ H Q I h => ?_⟩
  refine wpAny_Call_method m.base m.few m.line PySem.F.plainAttrs_dict PySem.F.slot_dict_get PySem.F.type_dict_get (thn (ho.run pins s σ H _ I h) fun u s1 ⟨x, H1, I1, rx, ex, q1⟩ => ?_)
  subst ex
  obtain rfl : u = Value.ref d := rx
  refine ⟨kd_type D I1, (fun _ z => by cases z; exact ⟨_, I1.kIn d _ D.at_, rfl⟩), ?_⟩
  rw [m.trees]
  refine Calls.callWith_builtin rfl (Calls.evalArgs_plain (Calls.spliced_cons (thn (he.run pins s1 σ H1 _ I1 q1) fun iv s2 ⟨y, H2, I2, ry, q2⟩ =>
    Calls.spliced_cons (thn (hf.run pins s2 σ H2 _ I2 q2) fun fv s3 ⟨z, H3, I3, rz, sy, ey, q3⟩ => Calls.spliced_nil ?_))))
  subst ey
  obtain ⟨t, rfl⟩ := ry
  obtain ⟨a1, a2⟩ := kd_look (z := sy) D.at_ hp
  refine call_meetsIn PySem.F.slot_dict_get (kd_type D I3) PySem.F.entry_dict_get (PySem.F.args_dict_get_3 _ _ _) (meets_dict_get_default (strKind X.prog X.w) d (strKind_is X.prog X.w sy t) D.low fv) ⟨_, PySem.W.mapOf_K (prog := X.prog) I3.kIn D.at_ D.lit, ?_⟩
  cases el : kvs.lookup sy with
  | none =>
    rw [el] at q3
    rw [PySem.W.find_K D.at_ (a2 el)]
    exact ⟨z, H3, I3.tok _, rz, q3⟩
  | some v =>
    rw [el] at q3
    obtain ⟨u', e1, r1⟩ := a1 v el
    rw [PySem.W.find_K D.at_ e1]
    exact ⟨v, H3, I3.tok _, r1, q3⟩
section
variable {K : PySem.W.Frag} {I : Pre}
def eKGet2 (d : Addr) (kvs : List (Str × V)) (eo ee ex : E3) : E3 := fun s μ Q => eo s μ fun x μ1 => (match x with | .v (.ref a) => a = d | _ => False) ∧ ee s μ1 fun y μ2 => ex s μ2 fun z μ3 => match y with
  | .v (.str t) => Q (match kvs.lookup t with | some v => .v v | none => z) μ3
  | _ => False
theorem s_kget2 {d : Addr} {kvs : List (Str × V)} {to te tx : TE} {eo ee ex : E3} (ho : SE K I to eo) (he : SE K I te ee) (hx : SE K I tx ex) : SE K I (tKGet2 d kvs to te tx) (eKGet2 d kvs eo ee ex) := fun w σ s Q Q3 S h q =>
  ho w σ s _ _ S h fun w1 v1 d1 L1 R1 V1 h1 => by
    obtain ⟨e1, h1⟩ := h1
    split at e1
    · subst e1
      cases V1
      refine ⟨rfl, he w1 σ s _ _ (S.to L1 R1) h1 fun w2 v2 d2 L2 R2 V2 h2 => hx w2 σ s _ _ (S.to (L1.trans L2) R2) h2 fun w3 v3 d3 L3 R3 V3 h3 => ?_⟩
      split at h3
      · have V2' := L3.rv V2
        cases V2'
        rename_i t
        refine ⟨t, rfl, ?_⟩
        cases el : kvs.lookup t with
        | none => rw [el] at h3; exact q w3 _ _ (L1.trans (L2.trans L3)) R3 V3 h3
        | some v => rw [el] at h3; exact q w3 _ _ (L1.trans (L2.trans L3)) R3 (.v _) h3
      · exact h3.elim
    · exact e1.elim
end
/-! ### .index of a list of texts -/
section
variable {K : PySem.W.Frag} {I : Pre}
def mLIndex : D → C3 := fun x ds μ Q => w1 ds fun y => wSeq (seqL μ x) fun xs => wSome (strsOf xs) fun ss => match y with
  | .v (.str t) => t ∈ ss ∧ Q (.v (.int ((ss.idxOf t : Nat) : Int))) μ
  | _ => False
theorem eqV_str {a b : Str} : eqV (.str a) (.str b) = (a == b) := rfl
theorem m_lindex : SM K I (rIndex K) mLIndex := fun w x vs d ds Q Q3 R _ rx rl h q => by
  unfold mLIndex at h
  obtain ⟨v, e, rfl, rfl, re, h⟩ := w1_at rl h
  obtain ⟨xs, e1, h⟩ := wSeq_at h
  obtain ⟨ss, e2, h⟩ := wSome_at h
  cases e with
  | v vv =>
   cases vv with
   | str t =>
    obtain ⟨hm, h⟩ := h
    obtain ⟨a, us, rfl, h1, h2⟩ := seqL_at R rx e1
    have e3 := rl_strs h2 e2
    subst e3
    cases re
    have hi : ss.idxOf t < ss.length := List.idxOf_lt_length_of_mem hm
    have hg : ss[ss.idxOf t]? = some t := by
      rw [List.getElem?_eq_getElem hi]
      exact congrArg some (List.getElem_idxOf hi)
    refine ⟨a, _, _, ss.idxOf t, .str t, rfl, rfl, h1, rfl, ?_, by rw [List.getElem?_map, hg]; rfl, by rw [eqV_str]; exact beq_self_eq_true t, fun m z' hlt hz => ?_, q w _ _ (.refl w) R (.v _) h⟩
    · rw [List.all_eq_true]
      intro x hx
      obtain ⟨s, _, rfl⟩ := List.mem_map.mp hx
      rfl
    · rw [List.getElem?_map] at hz
      cases hs : ss[m]? with
      | none => rw [hs] at hz; cases hz
      | some s =>
        rw [hs] at hz
        cases hz
        rw [eqV_str]
        refine beq_eq_false_iff_ne.mpr fun z => ?_
        subst z
        have hml := (List.getElem?_eq_some_iff.mp hs)
        obtain ⟨hl, he⟩ := hml
        have := List.not_of_lt_findIdx (p := (· == s)) (xs := ss) (i := m) hlt
        rw [he] at this
        simp at this
   | _ => exact h.elim
  | _ => exact h.elim
end
end Wb

set_option Elab.async false
set_option linter.all false
set_option maxRecDepth 100000
set_option maxHeartbeats 1000000
/-! defs within defs that are handed out: functions that are data -/
namespace Wb
open PySem PySem.Spec PyProof.Rows L2
open NdefX (NF FnO NOk ncx envF NScope CellsAt startF)
open LamX (CodeO TabB)
/-! ### the making -/
section
variable {X : Cx} {pins : List (Addr × Obj)} {σ : L2.St} {H : Hp} {s : Shared}
/-- a def statement: all but the table stays, the new function and its code object are known; what the table tells of is old or new -/
structure Ndef (P : Addr) (nm : Nat → Nat → Str) (ps : Array Value) (H H1 : Hp) (f c' : Addr) (F : NF) : Prop where
  ex : ∀ b o, b ≠ P → H b = some o → H1 b = some o
  no : ∀ b, H1 b = Option.none → H b = Option.none
  tab : ∃ ps' : Array Value, H1 P = some (.tbl ps') ∧ TriplesOk ps'.toList ∧ ∀ (pos : Pos) (cv : Value), codeAmong pos ps'.toList = some cv → codeAmong pos ps.toList = some cv ∨ ∃ c, cv = .ref c ∧ H c = none ∧ H1 c = some (CodeO c (nm pos.line pos.col))
  f0 : H f = none
  f1 : H1 f = some (FnO f F)
  c1 : H1 c' = some (CodeO c' F.qual)
  c0 : H c' = none ∨ ∃ pos, codeAmong pos ps.toList = some (.ref c')
theorem ndef_makeP {ps : Array Value} {nm : Nat → Nat → Str} {c P : Addr} {name : Str} {params : Arguments} {body : List Stmt} {scope : Scope} {pos : Pos} {E : Value → Shared → Prop} {Q : Value → Shared → Prop} (I : Inv X pins σ H s) (TB : TabB X.base X.mg c P) (hcode : X.env.code = .ref c)
    (hP : H P = some (.tbl ps)) (ht : TriplesOk ps.toList) (ha : ∀ (pos : Pos) (cv : Value), codeAmong pos ps.toList = some cv → ∃ c, cv = .ref c ∧ H c = some (CodeO c (nm pos.line pos.col))) (hn : nm pos.line pos.col = X.env.qual ++ name)
    (hfree : ∀ y ∈ scope.names, y.2 = .free → ∃ c, X.env.cells.lookup y.1 = some c)
    (h : ∀ (f c' : Addr) (H1 : Hp) (s' : Shared), Inv X pins σ H1 s' → Ndef P nm ps H H1 f c' ⟨name, X.env.qual ++ name, params, body, scope, cloFrom X.env.cells scope.names [], c'⟩ → Q (.ref f) s') :
    wpAny (model X.prog X.w) X.A (makeFunction name (X.env.qual ++ name) params (.stmts body) scope X.env [] [] [] pos pos.line) Q E s := by
  have bP : s.heap.BuiltinsAt X.mg P := TB.bm.keeps I.bk
  have hP' : s.heap.get? P = some { cls := .none, data := .fields ps } := I.hok P _ hP
  cases hc : codeAmong pos ps.toList with
  | none =>
    refine PySem.W.makeFunction_K (mg := X.mg) (c := c) (P := P) (ps := ps) (closure_ok hfree) I.ok.glob (I.mod.glob.keeps I.bk) hcode (TB.code.keeps I.bk) hP' ht hc TB.gP bP fun c' ctv doc h' tk hx hge hlt hrec htb => ?_
    obtain ⟨c2, oc, vs, t, e2, hoc, hd, hv⟩ := hrec
    cases e2
    have nC : H c' = none := I.hok.fresh hge
    have I1 := LamX.inv_table (t' := tk) (more := #[rawInt pos.line, rawInt pos.col, .ref c']) (h' := h') I hP (fun b o hb e => hx b o hb e) htb hge ⟨oc, vs, t, hoc, hd, hv⟩
    have eL : (ps ++ #[rawInt pos.line, rawInt pos.col, .ref c']).toList = ps.toList ++ [rawInt pos.line, rawInt pos.col, .ref c'] := by simp
    have nF := I1.hok.fresh (Nat.le_refl _)
    have I2 := NdefX.inv_fn (F := ⟨name, X.env.qual ++ name, params, body, scope, cloFrom X.env.cells scope.names [], c'⟩) (t' := tk) (doc := doc) (pm := (X.mg "__name__").getD .none) (ctv := ctv) I1 rfl
    have nPc : P ≠ c' := ne_of_none hP nC
    have cF : c' ≠ h'.objs.size := Nat.ne_of_lt hlt
    have PF : P ≠ h'.objs.size := fun z => by rw [← z] at nF; rw [upd_ne nPc, upd_same] at nF; cases nF
    have at1 : ∀ b o, b ≠ P → H b = some o → upd (upd (upd H P (.tbl (ps ++ #[rawInt pos.line, rawInt pos.col, .ref c']))) c' (CodeO c' (X.env.qual ++ name))) h'.objs.size (FnO h'.objs.size ⟨name, X.env.qual ++ name, params, body, scope, cloFrom X.env.cells scope.names [], c'⟩) b = some o := fun b o nb e => by
      have e1 : upd (upd H P (.tbl (ps ++ #[rawInt pos.line, rawInt pos.col, .ref c']))) c' (CodeO c' (X.env.qual ++ name)) b = some o := by rw [upd_ne (ne_of_none e nC), upd_ne nb]; exact e
      rw [upd_ne (ne_of_none e1 nF)]; exact e1
    refine h h'.objs.size c' _ _ I2 ⟨at1, fun b e => NdefX.upd_none (NdefX.upd_none (NdefX.upd_none e)), ⟨_, by rw [upd_ne PF, upd_ne nPc, upd_same], by rw [eL]; exact PySem.TriplesOk_snoc _ _ _ _ ht, fun p' cv hcv => ?_⟩, I.hok.fresh (Nat.le_trans hge (Nat.le_of_lt hlt)), upd_same, (upd_ne cF).trans upd_same, .inl nC⟩
    rw [eL] at hcv
    rcases NdefX.among_app2 _ ht hcv with z | ⟨z, z1, z2⟩
    · exact .inl z
    · refine .inr ⟨c', z, nC, ?_⟩
      rw [← z1, ← z2, hn]
      exact (upd_ne cF).trans upd_same
  | some cv =>
    obtain ⟨c', e, hco⟩ := ha pos cv hc
    subst e
    rw [hn] at hco
    refine PySem.W.makeFunction_hit (mg := X.mg) (c := c) (P := P) (ps := ps) (closure_ok hfree) I.ok.glob (I.mod.glob.keeps I.bk) hcode (TB.code.keeps I.bk) hP' ht hc bP fun ctv doc h' tk hx hsz => ?_
    have I1 : Inv X pins σ H { s with heap := h', toks := tk } := I.kept hx
    have nF : H h'.objs.size = none := I1.hok.fresh (Nat.le_refl _)
    have I2 := NdefX.inv_fn (F := ⟨name, X.env.qual ++ name, params, body, scope, cloFrom X.env.cells scope.names [], c'⟩) (t' := tk) (doc := doc) (pm := (X.mg "__name__").getD .none) (ctv := ctv) I1 rfl
    refine h h'.objs.size c' _ _ I2 ⟨fun b o _ e => (upd_ne (ne_of_none e nF)).trans e, fun b e => NdefX.upd_none e, ⟨ps, (upd_ne (ne_of_none hP nF)).trans hP, ht, fun p' cv hcv => .inl hcv⟩, nF, upd_same, (upd_ne (ne_of_none hco nF)).trans hco, .inr ⟨pos, hc⟩⟩
end
/-! ### a body that ends by a def and by its name -/
/-- a call's end without the running frame -/
def SPC (X : Cx) (D : Ends) (f : Flow) (s' : Shared) : Prop := match f with
  | .next => ∃ σ, CE X.outer X.prog X.w X.H_0 X.s_0 (fun _ H => D.nx σ H) .none s'
  | .ret u => CE X.outer X.prog X.w X.H_0 X.s_0 D.rt u s'
  | .brk => ∃ σ H, D.bk σ H
  | .cont => ∃ σ H, D.ct σ H
structure PSsC (X : Cx) (st : List Stmt) (t : TS) : Prop where
  run : ∀ (s : Shared) (σ : L2.St) (H : Hp) (D : Ends), Inv X [] σ H s → t D σ H → wpAny (model X.prog X.w) X.A (execs st X.env) (SPC X D) X.xe s
def tClo (T : FT) (P : Addr) (nm : Nat → Nat → Str) (js : List Nat) : TS := fun D σ H => ∃ (ps : Array Value) (us : List V), H P = some (.tbl ps) ∧ TriplesOk ps.toList ∧ (∀ (pos : Pos) (cv : Value), codeAmong pos ps.toList = some cv → ∃ c, cv = .ref c ∧ H c = some (CodeO c (nm pos.line pos.col))) ∧ js.map (fun j => σ[j]?) = us.map (fun v => some (some v)) ∧
  ∀ (f c' : Addr) (cl : List (Str × Addr)) (H1 H2 : Hp), Ndef P nm ps H H1 f c' (NF.of T.st T.name T.qual cl c') → (∀ b o, H1 b = some o → H2 b = some o) → (∀ y c, cl.lookup y = some c → H1 c = none) → FrzC H2 cl T.fr us → D.rt (.ref f) H2
section
variable {X : Cx} {st : Stmt} {rest : List Stmt} {t u : TS}
theorem ce_of {pins : List (Addr × Obj)} {σ : L2.St} {H : Hp} {s : Shared} {Q : VK} {v : V} {u : Value} (hex : X.ex = []) (I : Inv X pins σ H s) (r : RelV v u) (q : Q v H) : CE X.outer X.prog X.w X.H_0 X.s_0 Q u s :=
  ⟨v, H, I.os, I.bare, by have := I.base; rw [hex] at this; exact this, I.hok, r, q⟩
theorem pssc_cons (hex : X.ex = []) (h1 : PS X st t) (h2 : PSsC X rest u) : PSsC X (st :: rest) (tSeq t u) := by
  refine ⟨fun s σ H D I h => ?_⟩
  refine wpAny_execs_cons (thn (h1.run [] s σ H { D with nx := u D } I h) fun f s1 q => ?_)
  cases f with
  | next =>
    obtain ⟨σ', H', I', q⟩ := q
    exact h2.run s1 σ' H' D I' q
  | ret v => obtain ⟨x, σ', H', I', r, q⟩ := q; exact ce_of hex I' r q
  | brk => obtain ⟨σ', H', _, q⟩ := q; exact ⟨σ', H', q⟩
  | cont => obtain ⟨σ', H', _, q⟩ := q; exact ⟨σ', H', q⟩
/-- the captured cells are told from now on -/
noncomputable def cellsOn (H : Hp) (h : Heap) (cl : List (Str × Addr)) : Hp := fun b => open Classical in if ∃ y, cl.lookup y = some b then (h.get? b).map fun o => .frz o cellU else H b
theorem cellsOn_in {H : Hp} {h : Heap} {cl : List (Str × Addr)} {y : Str} {c : Addr} {o : Obj} (e : cl.lookup y = some c) (g : h.get? c = some o) : cellsOn H h cl c = some (.frz o cellU) := by
  unfold cellsOn
  rw [if_pos ⟨y, e⟩, g]; rfl
theorem cellsOn_out {H : Hp} {h : Heap} {cl : List (Str × Addr)} {b : Addr} (n : ∀ y, cl.lookup y ≠ some b) : cellsOn H h cl b = H b := by
  unfold cellsOn
  exact if_neg fun ⟨y, z⟩ => n y z
theorem pssc_clo {T : FT} {nm : Nat → Nat → Str} {c P : Addr} {pos p rpos : Pos} {i : Nat} {js : List Nat} (hst : T.st = .FunctionDef T.name (C8.fnArgs T.st) (C8.fnBody T.st) [] none [] (C8.fnScope T.st) none T.name pos) (TB : TabB X.base X.mg c P) (hcode : X.env.code = .ref c) (hn : nm pos.line pos.col = X.env.qual ++ T.name)
    (hq : X.env.qual ++ T.name = T.qual) (hfree : ∀ y ∈ (C8.fnScope T.st).names, y.2 = .free → X.env.scope.names.lookup y.1 = some .cell ∨ X.env.scope.names.lookup y.1 = some .free) (hfr : ∀ y ∈ T.fr, (y, NameKind.free) ∈ (C8.fnScope T.st).names) (hd0 : (C8.fnArgs T.st).defaults = []) (hk0 : (C8.fnArgs T.st).kw_defaults = []) (ha : annTrees (C8.fnArgs T.st) none X.env = [])
    (hN : X.N.Nodup) (hi : X.N[i]? = some T.name) (hx : Loc X.env.scope T.name) (hl : X.env.scope.names.lookup T.name = some .local) (hjs : js.map (fun j => X.N[j]?) = T.fr.map some) (hji : i ∉ js) (hex : X.ex = []) (hfn : ∀ x, X.fn x = true)
    (hdb : (T.name == ("__debug__" : Str)) = false) (hcd : (T.name == ("__classdict__" : Str)) = false) :
    PSsC X [T.st, .Return (some (.Name T.name p)) rpos] (tClo T P nm js) := by
  refine ⟨fun s σ H D I h => ?_⟩
  obtain ⟨ps, us, hP, ht, ha', hus, h⟩ := h
  have hqn : qualnameIn X.env T.name T.name = X.env.qual ++ T.name := by
    have hk : X.env.kindOf T.name = some .local ∨ X.env.kindOf T.name = some .cell := hx
    unfold qualnameIn
    rcases hk with k | k <;> rw [k] <;> first | rfl | exact if_neg (by decide)
  have hfr' : ∀ y ∈ (C8.fnScope T.st).names, y.2 = .free → ∃ c, X.env.cells.lookup y.1 = some c := fun y hy e => (hfree y hy e).elim (fun z => I.ok.has _ (.inl z)) fun z => I.ok.has _ (.inr z)
  have cp : NdefX.Caps X (cloFrom X.env.cells (C8.fnScope T.st).names []) T.fr js := NdefX.Caps.made I.ok hfree hfr hjs
  rw [hst]
  refine wpAny_execs_cons (PySem.W.nestDef_K hd0 hk0 ha ?_)
  rw [hqn]
  refine ndef_makeP I TB hcode hP ht ha' hn hfr' fun f c' H1 s1 I1 N1 => ?_
  refine store_ok I1 hN hi hx (v := .ref f) rfl (fun s2 I2 => ?_) (.inr hl)
  refine wpAny_execs_cons (wpAny_Return_some (thn ((pe_var (pos := p) hi (.inl hl) hdb hcd).run [] s2 _ H1 (fun v H2 => v = .ref f ∧ H2 = H1) I2 ⟨.ref f, ?_, rfl, rfl⟩) fun u s3 ⟨v, H3, I3, r3, q3⟩ => ?_))
  · have : i < σ.length := by rw [I.len]; exact (List.getElem?_eq_some_iff.mp hi).1
    rw [List.getElem?_set_self this]
  · obtain ⟨rfl, rfl⟩ := q3
    obtain rfl : u = Value.ref f := r3
    obtain ⟨cl, hcl⟩ : ∃ cl, cl = cloFrom X.env.cells (C8.fnScope T.st).names [] := ⟨_, rfl⟩
    rw [← hcl] at cp N1
    rw [hq] at N1
    have I3 : Inv X [] (σ.set i (some (V.ref f))) H3 s3 := I3
    have cellO : ∀ y c, cl.lookup y = some c → ∃ o v, s3.heap.get? c = some o ∧ o.data = .cell v := fun y c e => by
      obtain ⟨v, o, ho, hd⟩ := I3.cell y c (cp.sub y c e)
      exact ⟨o, v, ho, hd⟩
    have cellN : ∀ y c, cl.lookup y = some c → H3 c = none := fun y c e => I3.freeC y c (cp.sub y c e)
    have cellF : ∀ y c, cl.lookup y = some c → X.s_0.heap.objs.size ≤ c := fun y c e => I3.ok.cab y c (hfn y) (cp.sub y c e)
    have up : ∀ b o, H3 b = some o → cellsOn H3 s3.heap cl b = some o := fun b o e => by
      rw [cellsOn_out fun y z => ?_]
      · exact e
      · rw [cellN y b z] at e; cases e
    have jl := congrArg List.length hjs
    have ul := congrArg List.length hus
    simp only [List.length_map] at jl ul
    have F : FrzC (cellsOn H3 s3.heap cl) cl T.fr us := by
      refine ⟨by omega, fun y c e => ?_, fun x y c e1 e2 => I3.ok.inj x y c (cp.sub x c e1) (cp.sub y c e2), fun k y e => ?_⟩
      · obtain ⟨o, v, ho, hd⟩ := cellO y c e
        exact ⟨o, v, cellsOn_in e ho, hd⟩
      · have hk : k < T.fr.length := (List.getElem?_eq_some_iff.mp e).1
        have hkj : k < js.length := by omega
        have hku : k < us.length := by omega
        have e1 : X.N[js[k]]? = some y := by
          have z := congrArg (fun l => l[k]?) hjs
          simp only [List.getElem?_map, e, Option.map_some, List.getElem?_eq_getElem hkj] at z
          exact Option.some.inj z
        have e2 : σ[js[k]]? = some (some us[k]) := by
          have z := congrArg (fun l => l[k]?) hus
          simp only [List.getElem?_map, Option.map_some, List.getElem?_eq_getElem hkj, List.getElem?_eq_getElem hku] at z
          exact Option.some.inj z
        have nij : i ≠ js[k] := fun z => hji (z ▸ List.getElem_mem hkj)
        have e3 : (σ.set i (some (V.ref f)))[js[k]]? = some (some us[k]) := by rw [List.getElem?_set_ne nij]; exact e2
        have kin := cp.kin y (List.mem_of_getElem? e)
        obtain ⟨m, hn', hloc⟩ := I3.loc
        obtain ⟨u, ru, look⟩ := hloc _ y _ e1 e3 (kin.elim (fun z => .inr (.inl z)) fun z => .inr (.inr z))
        rcases look with ⟨z, _⟩ | ⟨_, c0, hc0, o, ho, hd⟩
        · have z : X.env.scope.names.lookup y = some .local := z
          rcases kin with q | q <;> rw [q] at z <;> cases z
        · have e4 := cp.sup y (List.mem_of_getElem? e) c0 hc0
          exact ⟨c0, o, u, us[k], e4, List.getElem?_eq_getElem hku, cellsOn_in e4 ho, hd, ru⟩
    have q := h f c' cl H3 (cellsOn H3 s3.heap cl) N1 up cellN F
    have ok : HOk X.prog X.w (cellsOn H3 s3.heap cl) s3.heap := fun b o e => by
      by_cases hb : ∃ y, cl.lookup y = some b
      · obtain ⟨y, hy⟩ := hb
        obtain ⟨o2, v, ho, hd⟩ := cellO y b hy
        rw [cellsOn_in hy ho] at e
        cases e
        exact ⟨ho, trivial, ⟨o2, ho⟩, fun _ _ _ _ => trivial⟩
      · rw [cellsOn_out fun y z => hb ⟨y, z⟩] at e
        exact (I3.hok b o e).stay (fun _ _ _ z => z) (fun d z => up d _ z) fun d xs z => up d _ z
    have B := I3.base
    rw [hex] at B
    have out : ∀ b, H3 b ≠ none → cellsOn H3 s3.heap cl b = H3 b := fun b n => cellsOn_out fun y z => n (cellN y b z)
    refine ⟨.ref f, _, I3.os, I3.bare, ⟨B.keep, B.slot, fun b o e n hx => ?_, B.there, fun b xs e => up b _ (B.tups b xs e), fun b o u e => up b _ (B.frzs b o u e), fun b ps e => ?_⟩, ok, rfl, q⟩
    · rw [cellsOn_out fun y z => ?_]
      · exact B.free b o e n hx
      · exact absurd (Nat.lt_of_lt_of_le (Heap.lt_size e) (cellF y b z)) (Nat.lt_irrefl _)
    · obtain ⟨m, z⟩ := B.tbls b ps e
      exact ⟨m, up b _ z⟩
end
/-- a def whose body ends by a def and by its name -/
theorem _root_.L2.Fun.okC {P : Program} {w : World} {K : PySem.W.Frag} {mg : Str → Option Value} {base : Heap} {CX : CXT} {x qual : Str} {st : Stmt} {f c : Addr} {fd : FuncData} {N ps : List Str} {k : Nat} {sp : Sp} (F : Fun K x qual st f fd) (hco : fd.code = .ref c) (S : FnScope N ps (defScope st)) (len : ∀ vs H Q E, sp vs H Q E → vs.length = ps.length)
    (hbody : ∀ (A : Around) (outer : List Env) (s : Shared) (H : Hp) (vs : List V) (Q : VK) (E : XK), Room k (A.deeper (envOfC qual (defScope st) s.heap.objs.size f (.ref c))) → sp vs H Q E →
      ∃ t, PSsC (cxOf CX P w K mg base N qual (defScope st) f (.ref c) A outer s H E) (defBody st) t ∧ t { nx := fun _ H' => Q .non H', rt := Q } (start N vs) H) : FnOk P w K mg base CX (k + 1) f fd ps sp := by
  obtain ⟨oc, od, kV, doc, pm, an, cdv, ct, osl, rfl, lk, hcd⟩ := F.ex
  obtain rfl : cdv = .ref c := hco
  refine ⟨len, fun A outer s H args us vs Q E hr e0 hb r hsp => ?_⟩
  have hl := len _ _ _ _ hsp
  have KX : K.In s.heap := e0.mod.kin.keeps fun b o e => (e0.bs b o e).1
  have lim : s.heap.NoLimit := e0.mod.nolimit.keeps fun b o e => (e0.bs b o e).1
  have hkind : ∀ y ∈ ps.zip us, (defScope st).names.lookup y.1 = some .local ∨ ((defScope st).names.lookup y.1 = some .cell ∧ ((cellsFrom (s.heap.objs.size + 1) (defScope st).names []).lookup y.1).isSome = true) := fun ⟨n, v⟩ hy => by
    rcases S.par n (List.of_mem_zip hy).1 with q | q
    · exact .inl q
    · exact .inr ⟨q, PySem.W.cellsFrom_some _ _ _ (.inl q)⟩
  refine codeAny_call_function hr.depth (KX _ _ lk) rfl S.co S.gen rfl (PySem.W.codeRec_of KX hcd) (hb _ _ _ _ ?_)
  refine wpAny_newFunctionEnv_cells S.kind hkind fun env he s1 x => ?_
  subst he
  refine ⟨lim.keeps x.toInCall.keep, codeAny_func ?_⟩
  obtain ⟨t, ht, hq⟩ := hbody A outer s H vs Q E (hr.deeper _) hsp
  have I : Inv (cxOf CX P w K mg base N qual (defScope st) f (.ref c) A outer s H E) [] (start N vs) H s1 := inv_start S hr.hd e0 hl r x
  refine wpAny_mono (ht.run s1 (start N vs) H _ I hq) (fun fl s' hs => ?_) fun e s' hs => hs
  cases fl with
  | ret u => exact hs
  | next =>
    obtain ⟨σ, v, H', a1, a2, a3, a4, r, q⟩ := hs
    obtain rfl : v = .non := by cases v <;> first | rfl | (exact absurd r nofun) | (obtain ⟨_, e⟩ := r; cases e)
    exact ⟨.non, H', a1, a2, a3, a4, rfl, q⟩
  | brk =>
    obtain ⟨_, _, q⟩ := hs
    exact False.elim q
  | cont =>
    obtain ⟨_, _, q⟩ := hs
    exact False.elim q
/-! ### its promise -/
/-- the arguments, then what was captured -/
def liftF (K : PySem.W.Frag) (n : Nat) (sp : Sp3) : List (Option V) → Sp := fun ws vs H Q E => ∃ us : List V, ws = us.map some ∧ us.length = n ∧ lift K sp (vs ++ us) H Q E
def HeldF (P : Program) (w : World) (K : PySem.W.Frag) (mg : Str → Option Value) (base : Heap) (k : Nat) (T : FT) (sp : Sp3) : Prop :=
  ∃ ps : List Str, ∀ (f : Addr) (cl : List (Str × Addr)) (c : Addr), NOk P w K mg base (L2.CX P w) k f (NF.of T.st T.name T.qual cl c) ps T.fr (liftF K T.fr.length sp)
theorem startF_eq {N : List Str} {vs us : List V} : startF N vs (us.map some) = L2.start N (vs ++ us) := by
  unfold startF L2.start
  rw [List.map_append, List.append_assoc, List.length_append, List.length_map, Nat.sub_sub]
theorem held_of {P : Program} {w : World} {K : PySem.W.Frag} {mg : Str → Option Value} {base : Heap} {k : Nat} {T : FT} {sp : Sp3} {N ps : List Str} (S : NScope N ps T.fr (C8.fnScope T.st))
    (hb : ∀ (cl : List (Str × Addr)) (c : Addr) (doc pm ctv : Value) (us : List Value), us.length = ps.length → bindArgs ((NF.of T.st T.name T.qual cl c).fd doc pm ctv) ⟨us, []⟩ = pure (ps.zip us)) (len : ∀ ds μ Q E, sp ds μ Q E → ds.length = ps.length + T.fr.length)
    (hbody : ∀ (f : Addr) (cl : List (Str × Addr)) (c : Addr) (A : Around) (outer : List Env) (s : Shared) (H : Hp) (vs : List V) (Q : VK) (E : XK), Room k (A.deeper (envF (NF.of T.st T.name T.qual cl c) f s.heap.objs.size)) → lift K sp vs H Q E →
      ∃ t, PSs (ncx (L2.CX P w) P w K mg base N (NF.of T.st T.name T.qual cl c) f A outer s H E) (C8.fnBody T.st) t ∧ t { nx := fun _ H' => Q .non H', rt := Q } (L2.start N vs) H) : HeldF P w K mg base (k + 1) T sp := by
  refine ⟨ps, fun f cl c => NdefX.nok_of S (hb cl c) (fun ws vs H Q E h => ?_) fun A outer s H vs ws Q E hr _ _ _ h => ?_⟩
  · obtain ⟨us, _, hl, h⟩ := h
    have := lift_len len _ _ _ _ h
    rw [List.length_append] at this
    omega
  · obtain ⟨us, rfl, _, h⟩ := h
    obtain ⟨t, a, b⟩ := hbody f cl c A outer s H (vs ++ us) Q E hr h
    exact ⟨t, a, by rw [startF_eq]; exact b⟩
/-! ### its call -/
noncomputable def offC (H : Hp) (cl : List (Str × Addr)) : Hp := fun b => open Classical in if ∃ y, cl.lookup y = some b then none else H b
noncomputable def onC (H1 : Hp) (cl : List (Str × Addr)) (H2 : Hp) : Hp := fun b => open Classical in if ∃ y, cl.lookup y = some b then H1 b else H2 b
theorem offC_in {H : Hp} {cl : List (Str × Addr)} {y : Str} {b : Addr} (e : cl.lookup y = some b) : offC H cl b = none := by unfold offC; exact if_pos ⟨y, e⟩
theorem offC_out {H : Hp} {cl : List (Str × Addr)} {b : Addr} (e : ¬ ∃ y, cl.lookup y = some b) : offC H cl b = H b := by unfold offC; exact if_neg e
theorem onC_in {H1 H2 : Hp} {cl : List (Str × Addr)} {b : Addr} (e : ∃ y, cl.lookup y = some b) : onC H1 cl H2 b = H1 b := by unfold onC; exact if_pos e
theorem onC_out {H1 H2 : Hp} {cl : List (Str × Addr)} {b : Addr} (e : ¬ ∃ y, cl.lookup y = some b) : onC H1 cl H2 b = H2 b := by unfold onC; exact if_neg e
def tCallF (K : PySem.W.Frag) (OK : FT → Sp3 → Prop) (i : Nat) (E : L2.St → XK) (t : TA) : TE := fun σ H Q => ∃ (f c : Addr) (T : FT) (cl : List (Str × Addr)) (us : List V) (sp : Sp3), σ[i]? = some (some (.ref f)) ∧ H f = some (FnO f (NF.of T.st T.name T.qual cl c)) ∧ OK T sp ∧
  t σ H fun vs H1 => H1 f = some (FnO f (NF.of T.st T.name T.qual cl c)) ∧ H1 c = some (CodeO c T.qual) ∧ FrzC H1 cl T.fr us ∧
    lift K sp (vs ++ us) (offC H1 cl) (fun v H2 => (∀ y b, cl.lookup y = some b → H2 b = none) → Q v (onC H1 cl H2)) (fun cls dd H2 => (∀ y b, cl.lookup y = some b → H2 b = none) → E σ cls dd (onC H1 cl H2))
section
variable {X : Cx} {pins : List (Addr × Obj)} {σ : L2.St} {H : Hp} {s s' : Shared} {cl : List (Str × Addr)} {fr : List Str} {us : List V}
theorem frz_at_ (I : Inv X pins σ H s) (F : FrzC H cl fr us) {y : Str} {c : Addr} (e : cl.lookup y = some c) : ∃ o v, H c = some (.frz o cellU) ∧ s.heap.get? c = some o ∧ o.data = .cell v := by
  obtain ⟨o, v, h, hd⟩ := F.all y c e
  exact ⟨o, v, h, (I.hok c _ h).1, hd⟩
theorem off_ex (F : FrzC H cl fr us) {b : Addr} {o : HO} (e : H b = some o) (n : ∀ ob, o ≠ .frz ob cellU) : offC H cl b = some o := by
  have q : ¬ ∃ y, cl.lookup y = some b := fun ⟨y, z⟩ => by
    obtain ⟨ob, v, h, _⟩ := F.all y b z
    rw [h] at e; cases e; exact n ob rfl
  rw [offC_out q]; exact e
theorem off_none {b : Addr} (e : H b = none) : offC H cl b = none := by
  by_cases q : ∃ y, cl.lookup y = some b
  · obtain ⟨y, q⟩ := q; exact offC_in q
  · rw [offC_out q]; exact e
theorem off_ok (I : Inv X pins σ H s) (F : FrzC H cl fr us) : HOk X.prog X.w (offC H cl) s.heap := fun b o e => by
  have q : ¬ ∃ y, cl.lookup y = some b := fun ⟨y, z⟩ => by rw [offC_in z] at e; cases e
  rw [offC_out q] at e
  exact (I.hok b o e).stay (fun _ _ _ z => z) (fun d z => off_ex F z fun ob => nofun) fun d xs z => off_ex F z fun ob => nofun
theorem off_env (I : Inv X pins σ H s) (F : FrzC H cl fr us) : Env0 X.prog X.w X.K X.mg X.base X.A X.stack s (offC H cl) :=
  let e := I.env0
  ⟨e.frames, e.mod, fun b o q => ⟨(e.bs b o q).1, off_none (e.bs b o q).2⟩, e.bsz, e.funs, fun b hb => off_none (e.frf b hb), off_ok I F, e.bare⟩
theorem off_cells (I : Inv X pins σ H s) (F : FrzC H cl fr us) : CellsAt cl fr (us.map some) s.heap (offC H cl) := by
  refine ⟨by rw [List.length_map]; exact F.len, fun y c e => ?_, F.inj, fun i y e => ?_⟩
  · obtain ⟨o, v, _, ho, hd⟩ := frz_at_ I F e
    exact ⟨offC_in e, v, o, ho, hd⟩
  · obtain ⟨c, o, u, v, e1, e2, e3, e4, e5⟩ := F.has i y e
    refine ⟨c, e1, fun v' ev => ?_⟩
    rw [List.getElem?_map, e2] at ev
    cases ev
    exact ⟨u, e5, o, (I.hok c _ e3).1, e4⟩
theorem on_ok {h' : Heap} {H2 : Hp} (F : FrzC H cl fr us) (hc : ∀ y c o, cl.lookup y = some c → H c = some (.frz o cellU) → h'.get? c = some o) (hn : ∀ y b, cl.lookup y = some b → H2 b = none) (ok : HOk X.prog X.w H2 h') : HOk X.prog X.w (onC H cl H2) h' := fun b o e => by
  by_cases q : ∃ y, cl.lookup y = some b
  · rw [onC_in q] at e
    obtain ⟨y, q⟩ := q
    obtain ⟨ob, v, h, hd⟩ := F.all y b q
    rw [h] at e; cases e
    have ho := hc y b ob q h
    exact ⟨ho, trivial, ⟨ob, ho⟩, fun _ _ _ _ => trivial⟩
  · rw [onC_out q] at e
    have up : ∀ d o, H2 d = some o → onC H cl H2 d = some o := fun d o z => by
      have q : ¬ ∃ y, cl.lookup y = some d := fun ⟨y, q⟩ => by rw [hn y d q] at z; cases z
      rw [onC_out q]; exact z
    exact (ok b o e).stay (fun _ _ _ z => z) (fun d z => up d _ z) fun d xs z => up d _ z
theorem ce_on {Q Q' : VK} {u : Value} (I : Inv X pins σ H s) (F : FrzC H cl fr us) (h : CE X.stack X.prog X.w (offC H cl) s Q' u s') (hQ : ∀ v H2, Q' v H2 → (∀ y b, cl.lookup y = some b → H2 b = none) → Q v (onC H cl H2)) : CE X.stack X.prog X.w H s Q u s' := by
  obtain ⟨v, H2, os, bare, un, ok, r, q⟩ := h
  have nfr : ∀ y c, cl.lookup y = some c → c ∉ frs X.stack := fun y c e z => by
    obtain ⟨o, v, h, _⟩ := F.all y c e
    rw [I.stkFree c z] at h; cases h
  have hn : ∀ y b, cl.lookup y = some b → H2 b = none := fun y b e => by
    obtain ⟨o, v, _, ho, _⟩ := frz_at_ I F e
    exact un.free b o ho (offC_in e) (by simp)
  have hc : ∀ y c o, cl.lookup y = some c → H c = some (.frz o cellU) → s'.heap.get? c = some o := fun y c o e h => un.keep c o (I.hok c _ h).1 (offC_in e) (nfr y c e) (by simp)
  have out : ∀ b, H b = none → ¬ ∃ y, cl.lookup y = some b := fun b n ⟨y, z⟩ => by
    obtain ⟨o, v, h, _⟩ := F.all y b z
    rw [n] at h; cases h
  have mov : ∀ b o, H b = some o → (∀ ob, o ≠ .frz ob cellU) → ¬ ∃ y, cl.lookup y = some b := fun b o e n ⟨y, z⟩ => by
    obtain ⟨ob, v, h, _⟩ := F.all y b z
    rw [e] at h; cases h; exact n _ rfl
  refine ⟨v, onC H cl H2, os, bare, ⟨fun b o e n hb hx => un.keep b o e (off_none n) hb hx, fun b o e n hb hx => un.slot b o e (off_none n) hb hx, fun b o e n hx => ?_, un.there, fun b xs e => ?_, fun b o u e => ?_, fun b ps e => ?_⟩, on_ok F hc hn ok, r, hQ v H2 q hn⟩
  · rw [onC_out (out b n)]; exact un.free b o e (off_none n) hx
  · rw [onC_out (mov b _ e fun ob => nofun)]; exact un.tups b xs (off_ex F e fun ob => nofun)
  · by_cases z : ∃ y, cl.lookup y = some b
    · rw [onC_in z]; exact e
    · rw [onC_out z]; exact un.frzs b o u (by rw [offC_out z]; exact e)
  · rw [onC_out (mov b _ e fun ob => nofun)]; exact un.tbls b ps (off_ex F e fun ob => nofun)
theorem cx_on {E E' : XK} {u : Value} (I : Inv X pins σ H s) (F : FrzC H cl fr us) (h : L2.CX X.prog X.w X.stack (offC H cl) s E' u s') (hE : ∀ cls d H2, E' cls d H2 → (∀ y b, cl.lookup y = some b → H2 b = none) → E cls d (onC H cl H2)) : L2.CX X.prog X.w X.stack H s E u s' := by
  obtain ⟨a, B, H2, cls, d, rfl, fl, ok, ub, na, os, ag, hEE⟩ := h
  have nfr : ∀ y c, cl.lookup y = some c → c ∉ frs X.stack := fun y c e z => by
    obtain ⟨o, v, h, _⟩ := F.all y c e
    rw [I.stkFree c z] at h; cases h
  have hn : ∀ y b, cl.lookup y = some b → H2 b = none := fun y b e => by
    obtain ⟨o, v, _, ho, _⟩ := frz_at_ I F e
    exact ub.free b o ho (offC_in e)
  have hc : ∀ y c o, cl.lookup y = some c → H c = some (.frz o cellU) → B.get? c = some o := fun y c o e h => ub.keep c o (I.hok c _ h).1 (offC_in e) (nfr y c e)
  have out : ∀ b, H b = none → ¬ ∃ y, cl.lookup y = some b := fun b n ⟨y, z⟩ => by
    obtain ⟨o, v, h, _⟩ := F.all y b z
    rw [n] at h; cases h
  have mov : ∀ b o, H b = some o → (∀ ob, o ≠ .frz ob cellU) → ¬ ∃ y, cl.lookup y = some b := fun b o e n ⟨y, z⟩ => by
    obtain ⟨ob, v, h, _⟩ := F.all y b z
    rw [e] at h; cases h; exact n _ rfl
  have nac : ¬ ∃ y, cl.lookup y = some a := fun ⟨y, z⟩ => by
    obtain ⟨o, v, h, _⟩ := F.all y a z
    have := hc y a o z h
    have e2 : B.get? a = none := fl.2.1
    rw [e2] at this; cases this
  refine ⟨a, B, onC H cl H2, cls, d, rfl, fl, on_ok F hc hn ok, ⟨fun b o e n hb => ub.keep b o e (off_none n) hb, ub.slot, fun b o e n => ?_, ub.there, fun b xs e => ?_, fun b o u e => ?_, fun b ps e => ?_⟩, ?_, os, ag, hE _ _ _ hEE hn⟩
  · rw [onC_out (out b n)]; exact ub.free b o e (off_none n)
  · rw [onC_out (mov b _ e fun ob => nofun)]; exact ub.tups b xs (off_ex F e fun ob => nofun)
  · by_cases z : ∃ y, cl.lookup y = some b
    · rw [onC_in z]; exact e
    · rw [onC_out z]; exact ub.frzs b o u (by rw [offC_out z]; exact e)
  · rw [onC_out (mov b _ e fun ob => nofun)]; exact ub.tbls b ps (off_ex F e fun ob => nofun)
  · rw [onC_out nac]; exact na
end
theorem pe_callF {X : Cx} {K : PySem.W.Frag} {k i : Nat} {E : L2.St → XK} {x : Str} {p pos : Pos} {e : Expr} {es : List Expr} {t : TA} {OK : FT → Sp3 → Prop} (hK : X.K = K) (ho : ∀ T sp, OK T sp → HeldF X.prog X.w K X.mg X.base k T sp) (hr : Room k X.A) (hN : X.N[i]? = some x) (hv : Vis X.env.scope x) (hx : ∀ σ, PassesAt (L2.CX X.prog X.w) X σ (E σ)) (ha : PA X (e :: es) t)
    (hdb : (x == ("__debug__" : Str)) = false := by decide) (hcd : (x == ("__classdict__" : Str)) = false := by decide)
    (he : starEach (e :: es) X.env = (false, eval e X.env) :: starEach es X.env := by rfl) (hpl : (backTo pos (starEach es X.env)).any (·.1) = false := by rfl) : PE X (.Call (.Name x p) (e :: es) [] pos) (tCallF K OK i E t) := by
  subst hK
  refine ⟨fun pins s σ H Q I h => ?_⟩
  obtain ⟨f, c, T, cl, us, sp, hs, hf0, hok, ht⟩ := h
  obtain ⟨ps, hF⟩ := ho T sp hok
  refine wpAny_Call_Name_kw (thn ((pe_var (pos := p) hN hv hdb hcd).run pins s σ H (fun v H1 => v = .ref f ∧ H1 = H) I ⟨.ref f, hs, rfl, rfl⟩) fun u s1 ⟨v, H1, I1, r1, q1⟩ => ?_)
  obtain ⟨rfl, rfl⟩ := q1
  cases r1
  refine PySem.W.callWith_F (first := []) (NdefX.fnAt_of I1 hf0) (thn (ha.run pos pins s1 σ _ _ I1 ht) fun vs2 s2 ⟨vs, H2, I2, r, h1, h2, F, q⟩ => ⟨NdefX.fnAt_of I2 h1, ?_⟩) he hpl
  show wpAny _ _ (call (.ref f) vs2) _ _ _
  refine wpAny_call (codeAny_mono ((hF f cl c).run X.A X.stack s2 (offC H2 cl) vs2 vs (us.map some) _ _ hr (off_env I2 F) (off_ex F h1 fun ob => ?_) (off_ex F h2 fun ob => ?_) (off_cells I2 F) r ⟨us, rfl, F.len, q⟩) fun r s' hq => ?_)
  · unfold FnO; nofun
  · unfold CodeO; nofun
  · cases r with
    | error e => exact hx σ pins H2 s2 e s' I2 (cx_on I2 F hq fun _ _ _ a b => a b)
    | ok fl =>
      cases fl with
      | ret u => exact I2.after (ce_on I2 F hq fun _ _ a b => a b)
      | next => exact False.elim hq
      | brk => exact False.elim hq
      | cont => exact False.elim hq
end Wb

set_option Elab.async false
set_option linter.all false
set_option maxRecDepth 100000
set_option maxHeartbeats 1000000
/-! functions that are data: the level of data -/
namespace Wb
open PySem PySem.Spec PyProof.Rows L2
open NdefX (NF FnO NOk ncx envF NScope CellsAt startF)
open LamX (CodeO TabB)
def capsOf (s : St3) : List Nat → Option (List D)
  | [] => some []
  | j :: js => match s[j]?, capsOf s js with
    | some (some d), some ds => some (d :: ds)
    | _, _ => none
def xClo (T : FT) (kt : Nat) (P : Addr) (nm : Nat → Nat → Str) (js : List Nat) : S3 := fun D s μ => μ[kt]? = some (.tab P nm) ∧ wSome (capsOf s js) fun ds => D.rt (.fnc T ds) μ
theorem caps_rv {K : PySem.W.Frag} {w : Wo} {σ : L2.St} {s : St3} (h : RvS K w σ s) : ∀ (js : List Nat) (ds : List D), capsOf s js = some ds → ∃ us : List V, js.map (fun j => σ[j]?) = us.map (fun v => some (some v)) ∧ w.rl K us ds
  | [], ds, e => by cases e; exact ⟨[], rfl, .nil⟩
  | j :: js, ds, e => by
    unfold capsOf at e
    split at e
    · rename_i d ds' h1 h2
      cases e
      obtain ⟨v, a, b⟩ := h.at_ j d h1
      obtain ⟨us, x, y⟩ := caps_rv h js ds' h2
      exact ⟨v :: us, by rw [List.map_cons, List.map_cons, a, x], .cons b y⟩
    · cases e
theorem fnO_tbl {f : Addr} {F : NF} {ps : Array Value} : FnO f F ≠ .tbl ps := by unfold FnO; nofun
section
variable {K : PySem.W.Frag} {I : Pre}
/-- only one table grows; the rest is new -/
theorem Rep.grow {w : Wo} {kt : Nat} {P : Addr} {nm : Nat → Nat → Str} {H' : Hp} (R : Rep K w) (hk : w.mu[kt]? = some (.tab P nm)) (e : ∀ b o, b ≠ P → w.hp b = some o → H' b = some o)
    (ht : w.al kt = P → (∀ b o, w.vis b = some o → ({ w with hp := H' } : Wo).vis b = some o) → ∃ ps, H' P = some (.tbl ps) ∧ TabV ({ w with hp := H' } : Wo).vis ps nm) : Rep K { w with hp := H' } ∧ Lt w { w with hp := H' } := by
  obtain ⟨ea, ps0, e0, _⟩ := R.cell kt _ hk
  have hv : ∀ b o, w.vis b = some o → b ≠ P := fun b o h z => (vis_some h).2 (.inl ⟨kt, _, hk, rfl, by rw [ea, z]⟩)
  have X : Ex w.vis ({ w with hp := H' } : Wo).vis := fun b o h => vis_of (w := { w with hp := H' }) (e b o (hv b o h) (vis_some h).1) (vis_some h).2
  obtain ⟨ps', p1, p2⟩ := ht ea X
  have nP : ∀ k, k < w.mu.length → k ≠ kt → w.al k ≠ P := fun k hk' ne z => ne (R.inj k kt hk' (lt_of_get hk) (by rw [z, ea]))
  have same : ∀ a, a ≠ P → w.hp a ≠ none → H' a = w.hp a := fun a na n => by
    cases q : w.hp a with
    | none => exact absurd q n
    | some o => exact e a o na q
  have hxP : ∀ a, a ∈ w.hx → a ≠ P := fun a ha z => R.hxa kt (lt_of_get hk) (by rw [ea, ← z]; exact ha)
  have L : Lt w { w with hp := H' } := ⟨Nat.le_refl _, fun _ _ => rfl, X, rfl, fun a ha => same a (hxP a ha) (R.hxn a ha)⟩
  refine ⟨⟨R.inj, fun k hk' => ?_, fun a ha => by rw [show ({ w with hp := H' } : Wo).hp a = w.hp a from same a (hxP a ha) (R.hxn a ha)]; exact R.hxn a ha, R.hxa, R.sys, fun k c hc => ?_⟩, L⟩
  · by_cases z : k = kt
    · rw [z]
      show H' (w.al kt) ≠ none
      rw [ea, p1]; nofun
    · show H' (w.al k) ≠ none
      rw [same _ (nP k hk' z) (R.there k hk')]
      exact R.there k hk'
  · have hk' := lt_of_get hc
    by_cases z : k = kt
    · subst z
      have hc : w.mu[k]? = some c := hc
      rw [hk] at hc; cases hc
      exact ⟨ea, ps', by show H' (w.al k) = _; rw [ea]; exact p1, p2⟩
    · exact (R.cell k c hc).up L hk' (same _ (nP k hk' z) (R.there k hk'))
theorem x_clo {T : FT} {kt : Nat} {P : Addr} {nm : Nat → Nat → Str} {js : List Nat} : SS K I (tClo T P nm js) (xClo T kt P nm js) := fun w σ s D D3 S h q => by
  obtain ⟨hk, h⟩ := h
  cases hc : capsOf s js with
  | none => rw [hc] at h; exact (show False from h).elim
  | some ds =>
  rw [hc] at h
  have h : D3.rt (.fnc T ds) w.mu := h
  obtain ⟨ea, ps, e0, tv⟩ := S.rep.cell kt _ hk
  rw [ea] at e0
  obtain ⟨us, hus, rl⟩ := caps_rv S.rvs js ds hc
  refine ⟨ps, us, e0, tv.1, fun pos cv z => ?_, hus, fun f c' cl H1 H2 N up cn F => ?_⟩
  · obtain ⟨c, a, b⟩ := tv.2 pos cv z
    exact ⟨c, a, vis_le w _ _ b⟩
  · obtain ⟨ps', p1, p2, p3⟩ := N.tab
    have fresh : ∀ b o, w.hp b = none → H2 b = some o → ({ w with hp := H2 } : Wo).vis b = some o := fun b o n e => vis_of (w := { w with hp := H2 }) e (show ¬ w.hid b from hid_ne S.rep n)
    have codeV : ∀ c, codeAmong c ps.toList = codeAmong c ps.toList := fun _ => rfl
    obtain ⟨R', L⟩ := S.rep.grow (H' := H2) hk (fun b o nb e => up b o (N.ex b o nb e)) fun _ X => ⟨ps', up _ _ p1, p2, fun pos cv z => by
      rcases p3 pos cv z with z | ⟨c, rfl, c0, c1⟩
      · obtain ⟨c, a, b⟩ := tv.2 pos cv z
        exact ⟨c, a, X _ _ b⟩
      · exact ⟨c, rfl, fresh c _ c0 (up _ _ c1)⟩⟩
    refine q.rt { w with hp := H2 } _ _ L R' ?_ h
    refine .fnc (fresh f _ N.f0 (up _ _ N.f1)) ?_ ⟨F.len, fun y c e => ?_, F.inj, fun i y e => ?_⟩ rl.len fun i v d a b => (rl.at_ i v d a b).up L.le L.al L.ex
    · rcases N.c0 with z | ⟨pos, z⟩
      · exact fresh c' _ z (up _ _ N.c1)
      · obtain ⟨c, a, b⟩ := tv.2 pos _ z
        cases a
        have e1 := L.ex _ _ b
        have e2 := up _ _ N.c1
        have e3 := (vis_some e1).1
        have e3 : H2 c' = _ := e3
        rw [e2] at e3
        rw [← e3] at e1
        exact e1
    · obtain ⟨o, v, a, b⟩ := F.all y c e
      exact ⟨o, v, fresh c _ (N.no c (cn y c e)) a, b⟩
    · obtain ⟨c, o, u, v, a, b, x, y', z⟩ := F.has i y e
      exact ⟨c, o, u, v, a, b, fresh c _ (N.no c (cn y c a)) x, y', z⟩
end
/-! ### the call: what runs there sees no owned thing -/
/-- data without owned things and functions -/
inductive Nf : D → Prop
  | v (x : V) : Nf (.v x)
  | lst {xs : List D} : (∀ x ∈ xs, Nf x) → Nf (.lst xs)
  | ls {xs : List D} : (∀ x ∈ xs, Nf x) → Nf (.ls xs)
  | tup {xs : List D} : (∀ x ∈ xs, Nf x) → Nf (.tup xs)
  | dic {xs : List (Key × D)} : (∀ x ∈ xs.map (·.2), Nf x) → Nf (.dic xs)
  | ins {C : Addr} {xs : List (Str × D)} : (∀ x ∈ xs.map (·.2), Nf x) → Nf (.ins C xs)
theorem nf_strs (xs : List Str) : Nf (.lst (xs.map fun s => D.v (.str s))) := .lst fun x hx => by
  obtain ⟨s, _, rfl⟩ := List.mem_map.mp hx
  exact .v _
def ExW (H H' : Hp) : Prop := ∀ a o, H a = some o → (∀ ob, o ≠ .frz ob cellU) → H' a = some o
theorem cellU_ne {o : HO} (h : ∀ φ, o ≠ .ext φ) : ∀ ob ob', (HO.frz ob' o) ≠ .frz ob cellU := fun ob ob' z => by
  injection z with _ z
  exact h _ z
theorem exw_rd {H H' : Hp} (e : ExW H H') {a : Addr} {u : HO} (hu : ∀ φ, u ≠ .ext φ) (hz : ∀ o q, u ≠ .frz o q) (h : Rd H a u) : Rd H' a u := by
  rcases h with h | ⟨o, h⟩
  · exact .inl (e a _ h fun ob => hz ob _)
  · exact .inr ⟨o, e a _ h fun ob => cellU_ne hu ob o⟩
theorem exw_l {K : PySem.W.Frag} {H H' : Hp} (e : ExW H H') {a : Addr} {xs : List V} (h : SqL K H a xs) : SqL K H' a xs := h.elim (fun h => .inl (exw_rd e (fun _ => nofun) (fun _ _ => nofun) h)) .inr
theorem exw_t {K : PySem.W.Frag} {H H' : Hp} (e : ExW H H') {a : Addr} {xs : List V} (h : SqT K H a xs) : SqT K H' a xs := h.elim (fun h => .inl (exw_rd e (fun _ => nofun) (fun _ _ => nofun) h)) .inr
theorem Rv.frame {K : PySem.W.Frag} {al al' : Nat → Addr} {n n' : Nat} {H H' : Hp} {v : V} {d : D} (h : Rv K al n H v d) (b : Nf d) (e : ExW H H') : Rv K al' n' H' v d := by
  induction h with
  | v x => exact .v x
  | o k hk => cases b
  | lst hs hl _ ih => cases b with | lst h => exact .lst (e _ _ hs fun ob => nofun) hl fun i v d p q => ih i v d p q (h d (List.mem_of_getElem? q))
  | ls hs hl _ ih => cases b with | ls h => exact .ls (exw_l e hs) hl fun i v d p q => ih i v d p q (h d (List.mem_of_getElem? q))
  | tup hs hl _ ih => cases b with | tup h => exact .tup (exw_t e hs) hl fun i v d p q => ih i v d p q (h d (List.mem_of_getElem? q))
  | dic hs hl _ ih => cases b with | dic h => exact .dic (e _ _ hs fun ob => nofun) hl fun i v d p q => ih i v d p q (h d (List.mem_of_getElem? q))
  | ins hs hl _ ih => cases b with | ins h => exact .ins (e _ _ hs fun ob => nofun) hl fun i v d p q => ih i v d p q (h d (List.mem_of_getElem? q))
  | fnc hf hc hz hl _ ih => cases b
def liveA (w : Wo) : List Addr := ((List.range w.mu.length).filter fun k => match w.mu[k]? with | some c => c.live | none => false).map w.al
theorem mem_live {w : Wo} {a : Addr} : a ∈ liveA w ↔ ∃ k c, w.mu[k]? = some c ∧ c.live = true ∧ w.al k = a := by
  unfold liveA
  constructor
  · intro h
    obtain ⟨k, hk, rfl⟩ := List.mem_map.mp h
    have h2 := (List.mem_filter.mp hk).2
    cases e : w.mu[k]? with
    | none => rw [e] at h2; cases h2
    | some c => rw [e] at h2; exact ⟨k, c, e, h2, rfl⟩
  · rintro ⟨k, c, e, hl, rfl⟩
    refine List.mem_map.mpr ⟨k, List.mem_filter.mpr ⟨List.mem_range.mpr (lt_of_get e), ?_⟩, rfl⟩
    rw [e]; exact hl
noncomputable def Wo.frame (w : Wo) (cl : List (Str × Addr)) : Wo := ⟨w.al, [], offC w.hp cl, w.hx ++ liveA w⟩
theorem frame_hid {w : Wo} {cl : List (Str × Addr)} {a : Addr} : (w.frame cl).hid a ↔ w.hid a := by
  unfold Wo.hid
  constructor
  · rintro (⟨k, c, e, _⟩ | h)
    · have e : ([] : List OC)[k]? = some c := e
      simp at e
    · rcases List.mem_append.mp h with h | h
      · exact .inr h
      · exact .inl (mem_live.mp h)
  · rintro (h | h)
    · exact .inr (List.mem_append.mpr (.inr (mem_live.mpr h)))
    · exact .inr (List.mem_append.mpr (.inl h))
noncomputable def Wo.back (w w2 : Wo) (cl : List (Str × Addr)) : Wo := ⟨w.al, w.mu, onC w.hp cl w2.hp, w.hx⟩
section
variable {K : PySem.W.Frag} {w w2 : Wo} {cl : List (Str × Addr)} {fr : List Str} {us : List V}
theorem frz_out (F : FrzC w.vis cl fr us) {a : Addr} (h : w.hid a) : ¬ ∃ y, cl.lookup y = some a := fun ⟨y, z⟩ => by
  obtain ⟨o, v, e, _⟩ := F.all y a z
  exact (vis_some e).2 h
theorem frame_rep (R : Rep K w) (F : FrzC w.vis cl fr us) : Rep K (w.frame cl) := by
  have z : (w.frame cl).mu.length = 0 := rfl
  refine ⟨fun i j hi => absurd hi (by rw [z]; exact Nat.not_lt_zero _), fun k hk => absurd hk (by rw [z]; exact Nat.not_lt_zero _), fun a ha => ?_, fun k hk => absurd hk (by rw [z]; exact Nat.not_lt_zero _), List.mem_append.mpr (.inl R.sys), fun k c hc => ?_⟩
  · have hh : w.hid a := by
      rcases List.mem_append.mp (show a ∈ w.hx ++ liveA w from ha) with h | h
      · exact .inr h
      · exact .inl (mem_live.mp h)
    show offC w.hp cl a ≠ none
    rw [offC_out (frz_out F hh)]
    rcases hh with ⟨k, c, e, _, rfl⟩ | h
    · exact R.there k (lt_of_get e)
    · exact R.hxn a h
  · have hc : ([] : List OC)[k]? = some c := hc
    simp at hc
theorem frame_exw (R : Rep K w) (F : FrzC w.vis cl fr us) : ExW w.vis (w.frame cl).vis := fun a o e n => by
  obtain ⟨h1, h2⟩ := vis_some e
  refine vis_of (w := w.frame cl) ?_ fun z => h2 (frame_hid.mp z)
  show offC w.hp cl a = some o
  have q : ¬ ∃ y, cl.lookup y = some a := fun ⟨y, z⟩ => by
    obtain ⟨ob, v, h, _⟩ := F.all y a z
    rw [h] at e; cases e; exact n ob rfl
  rw [offC_out q]; exact h1
theorem frame_back (R : Rep K w) (F : FrzC w.vis cl fr us) (L : Lt (w.frame cl) w2) (R2 : Rep K w2) (hn : ∀ y b, cl.lookup y = some b → w2.hp b = none) :
    Rep K (w.back w2 cl) ∧ Lt w (w.back w2 cl) ∧ Ex w2.vis (w.back w2 cl).vis := by
  have X : Ex w.vis (w.back w2 cl).vis := fun a o e => by
    obtain ⟨h1, h2⟩ := vis_some e
    refine vis_of (w := w.back w2 cl) ?_ h2
    show onC w.hp cl w2.hp a = some o
    by_cases q : ∃ y, cl.lookup y = some a
    · rw [onC_in q]; exact h1
    · rw [onC_out q]
      have e2 : (w.frame cl).vis a = some o := vis_of (w := w.frame cl) (by show offC w.hp cl a = _; rw [offC_out q]; exact h1) fun z => h2 (frame_hid.mp z)
      exact (vis_some (L.ex _ _ e2)).1
  have same : ∀ a, w.hp a ≠ none → (w.back w2 cl).hp a = w.hp a := fun a n => by
    cases e : w.hp a with
    | none => exact absurd e n
    | some o =>
    by_cases h : w.hid a
    · have q := frz_out F h
      show onC w.hp cl w2.hp a = some o
      rw [onC_out q]
      have hh : a ∈ (w.frame cl).hx := by
        rcases h with h | h
        · exact List.mem_append.mpr (.inr (mem_live.mpr h))
        · exact List.mem_append.mpr (.inl h)
      rw [L.hk a hh]
      show offC w.hp cl a = _
      rw [offC_out q]; exact e
    · exact (vis_some (X a o (vis_of e h))).1
  have LL : Lt w (w.back w2 cl) := ⟨Nat.le_refl _, fun _ _ => rfl, X, rfl, fun a ha => same a (R.hxn a ha)⟩
  refine ⟨⟨R.inj, fun k hk => ?_, fun a ha => by rw [same a (R.hxn a ha)]; exact R.hxn a ha, R.hxa, R.sys, fun k c hc => ?_⟩, LL, fun a o e => ?_⟩
  · show (w.back w2 cl).hp (w.al k) ≠ none
    rw [same _ (R.there k hk)]; exact R.there k hk
  · exact (R.cell k c hc).up LL (lt_of_get hc) (same _ (R.there k (lt_of_get hc)))
  · obtain ⟨h1, h2⟩ := vis_some e
    have nh : ¬ w.hid a := fun z => h2 (.inr (by
      rw [L.hx]
      rcases z with z | z
      · exact List.mem_append.mpr (.inr (mem_live.mpr z))
      · exact List.mem_append.mpr (.inl z)))
    refine vis_of (w := w.back w2 cl) ?_ nh
    show onC w.hp cl w2.hp a = some o
    have q : ¬ ∃ y, cl.lookup y = some a := fun ⟨y, z⟩ => by rw [hn y a z] at h1; cases h1
    rw [onC_out q]; exact h1
end
def eCallF (OK : FT → Sp3 → Prop) (i : Nat) (W : W3) (a : A3) : E3 := fun s μ Q => match s[i]? with
  | some (some (.fnc T us)) => ∃ sp, OK T sp ∧ (∀ u ∈ us, Nf u) ∧ a s μ fun ds μ1 => (∀ d ∈ ds, Nf d) ∧ sp (ds ++ us) [] (fun d μ2 => μ2 = [] ∧ Q d μ1) (fun C fs μ2 => μ2 = [] ∧ W C fs s μ1)
  | _ => False
theorem rl_frame {K : PySem.W.Frag} {al al' : Nat → Addr} {n n' : Nat} {H H' : Hp} {vs : List V} {ds : List D} (h : RvL K al n H vs ds) (b : ∀ d ∈ ds, Nf d) (e : ExW H H') : RvL K al' n' H' vs ds := ⟨h.len, fun i v d p q => (h.at_ i v d p q).frame (b d (List.mem_of_getElem? q)) e⟩
theorem s_callF {K : PySem.W.Frag} {I : Pre} {OK : FT → Sp3 → Prop} {i : Nat} {ta : TA} {ea : A3} {W : WX} {W' : W3} (hW : WOk K I W W') (ha : SA K I ta ea) : SE K I (tCallF K OK i (fun σ cls d H => W cls d σ H) ta) (eCallF OK i W' ea) := fun w σ s Q Q3 S h q => by
  unfold eCallF at h
  split at h
  rotate_left
  · exact h.elim
  rename_i T us hs
  obtain ⟨sp, hok, hu, h⟩ := h
  obtain ⟨v, hv, r⟩ := S.rvs.at_ i _ hs
  cases r with
  | @fnc f c _ cl vu _ hf hc F hl hr =>
  refine ⟨f, c, T, cl, vu, sp, hv, vis_le w _ _ hf, hok, ha w σ s _ _ S h fun w1 vs ds L1 R1 V1 h1 => ?_⟩
  obtain ⟨hd, h1⟩ := h1
  have F1 := F.up L1.ex
  refine ⟨vis_le w1 _ _ (L1.ex _ _ hf), vis_le w1 _ _ (L1.ex _ _ hc), F1.up (vis_le w1), w1.frame cl, ds ++ us, _, _, rfl, frame_rep R1 F1, (rl_frame V1 hd (frame_exw R1 F1)).append (rl_frame (L1.rl ⟨hl, hr⟩) hu (frame_exw R1 F1)), h1, ?_, ?_⟩
  · intro w2 v d L2 R2 r2 ⟨hm, hq⟩ hn
    obtain ⟨R3, L3, X3⟩ := frame_back R1 F1 L2 R2 hn
    refine q.up L1 (w1.back w2 cl) v d L3 R3 ?_ hq
    have r2 : Rv K w2.al w2.mu.length w2.vis v d := r2
    rw [hm] at r2
    exact r2.up (Nat.zero_le _) (fun k hk => absurd hk (Nat.not_lt_zero _)) X3
  · intro w2 cls dd C fs L2 R2 r2 ⟨hm, hq⟩ hn
    obtain ⟨R3, L3, X3⟩ := frame_back R1 F1 L2 R2 hn
    refine hW (w1.back w2 cl) σ s cls dd C fs (S.to (L1.trans L3) R3) ⟨r2.cls, ?_⟩ hq
    refine r2.dic.imp (fun z => z) fun ⟨a, fv, e, x, y⟩ => ⟨a, fv, e, X3 _ _ x, ?_⟩
    rw [hm] at y
    exact y.up (Nat.zero_le _) (fun k hk => absurd hk (Nat.not_lt_zero _)) X3
end Wb

set_option Elab.async false
set_option linter.all false
set_option maxRecDepth 100000
set_option maxHeartbeats 1000000
/-! the end, for laws with defs within defs -/
namespace Wb
open PySem PySem.Spec PyProof.Rows L2
open LamX (CodeO TabB)
noncomputable def withTabs (H : Hp) (Ps : List Addr) : Hp := fun b => if b ∈ Ps then some (.tbl #[]) else H b
theorem withTabs_in {H : Hp} {Ps : List Addr} {b : Addr} (h : b ∈ Ps) : withTabs H Ps b = some (.tbl #[]) := if_pos h
theorem withTabs_out {H : Hp} {Ps : List Addr} {b : Addr} (h : b ∉ Ps) : withTabs H Ps b = H b := if_neg h
theorem law_callTS {P : Program} {w : World} {K : PySem.W.Frag} {mg mb : Str → Option Value} {k : Nat} {fa a : Addr} {cs : List (Addr × Addr)} {fd : FuncData} {x : Str} {sp : Sp} {s₁ : Shared} {vs : List Value} {ns : List Int} {mm : Str → Option Value}
    (KX : K.In s₁.heap) (hns : s₁.heap.Ns mainGlobals mg) (hb : s₁.heap.Ns builtinsNs mb) (hbb : ∀ x : Str, x ≠ "__name__" → mb x = bootBuiltins x) (hlim : s₁.heap.NoLimit) (hg : s₁.gens = #[]) (hm : s₁.heap.Ns sysModules mm) (hK : K.lookup sysModules = none)
    (hT : ∀ p ∈ cs, s₁.heap.get? p.2 = some { cls := .none, data := .fields #[] }) (nT : ∀ p ∈ cs, K.lookup p.2 = none) (C : ∀ p ∈ cs, PySem.W.CodeHd s₁.heap p.1 p.2)
    (hbm : ∃ (bm : Addr) (ob : Obj), mg "__builtins__" = some (.ref bm) ∧ bm ≠ builtinsNs ∧ s₁.heap.get? bm = some ob ∧ ob.cls = .type "module" ∧ ob.dict = some builtinsNs ∧ ob.data = .plain)
    (ha : s₁.heap.get? a = some { cls := .type "list", data := .seq vs.toArray }) (hi : IntsAre vs ns) (hl : ns.length ≤ sizeLine) (hr : Room k callerA)
    (F : ∀ base : Heap, K.In base → base.Ns mainGlobals mg → (∀ p ∈ cs, TabB base mg p.1 p.2) → FnG P w K mg base k fa fd [x] sp) (hbind : ∀ (s : Shared) (u : Value), BindsTo s fd ⟨[u], []⟩ [(x, u)])
    (hsp : ∀ H : Hp, H sysModules ≠ none → a ≠ sysModules → (∀ p ∈ cs, H p.2 = some (.tbl #[]) ∧ p.2 ≠ sysModules ∧ p.2 ≠ a) → SqL K H a (ns.map V.int) → sp [.ref a] H (fun v _ => v = .bl true) fun _ _ _ => False) :
    codeAny (model P w) callerA (.call (.ref fa) ⟨[.ref a], []⟩) (fun r s' => r = .ok (.ret (.bool true)) ∧ OldK s₁.heap s'.heap ∧ s'.os = s₁.os ∧ AllBare s'.gens) s₁ := by
  obtain ⟨H, S⟩ := alone_ex (P := P) (w := w) KX ha hi hl
  obtain ⟨oM, es, ep, hM, dM, rM⟩ := hm
  obtain ⟨Ps, hPs⟩ : ∃ Ps, Ps = cs.map (·.2) := ⟨_, rfl⟩
  have memP : ∀ p ∈ cs, p.2 ∈ Ps := fun p hp => hPs ▸ List.mem_map.mpr ⟨p, hp, rfl⟩
  have isT : ∀ b, b ∈ Ps → s₁.heap.get? b = some { cls := .none, data := .fields #[] } ∧ K.lookup b = none := fun b hb => by
    rw [hPs] at hb
    obtain ⟨p, hp, rfl⟩ := List.mem_map.mp hb
    exact ⟨hT p hp, nT p hp⟩
  have na : a ≠ sysModules := fun z => by
    rw [z, hM] at ha
    cases ha
    cases dM
  have aT : a ∉ Ps := fun z => by
    have q := (isT a z).1
    rw [ha] at q
    have z' : Data.seq vs.toArray _ = Data.fields #[] := congrArg Obj.data (Option.some.inj q)
    cases z'
  have sT : sysModules ∉ Ps := fun z => by
    have q := (isT _ z).1
    rw [hM] at q
    have z' : oM.data = Data.fields #[] := congrArg Obj.data (Option.some.inj q)
    rw [dM] at z'
    cases z'
  have hH1 : H sysModules = none := by
    cases q : H sysModules with
    | none => rfl
    | some o => exact absurd (S.at_ sysModules (by rw [q]; exact nofun)) (Ne.symm na)
  have hHP : ∀ b, b ∈ Ps → H b = none := fun b hb => by
    cases q : H b with
    | none => rfl
    | some o => exact absurd (S.at_ b (by rw [q]; exact nofun)) fun z => aT (z ▸ hb)
  obtain ⟨G, hG⟩ : ∃ G, G = withTabs (withSys H oM) Ps := ⟨_, rfl⟩
  have gS : G sysModules = some (.frz oM (.own 0)) := by rw [hG, withTabs_out sT]; exact withSys_at
  have gT : ∀ b, b ∈ Ps → G b = some (.tbl #[]) := fun b hb => by rw [hG]; exact withTabs_in hb
  have other : ∀ b, b ≠ sysModules → b ∉ Ps → G b = H b := fun b h1 h2 => by rw [hG, withTabs_out h2]; exact withSys_ne h1
  have noD : ∀ {b : Addr} {o : Obj}, s₁.heap.get? b = some o → b ≠ sysModules → (∀ vs n, o.data ≠ .seq vs n) → o.data ≠ .fields #[] → G b = none := fun {b o} e nb h1 h2 => by
    have hp : b ∉ Ps := fun z => by rw [(isT b z).1] at e; cases e; exact h2 rfl
    rw [other b nb hp]
    by_cases q : H b = none
    · exact q
    · have z := S.at_ b q
      subst z
      rw [ha] at e; cases e
      exact absurd rfl (h1 _ _)
  have nsO : ∀ {b : Addr} {m : Str → Option Value}, b ≠ sysModules → s₁.heap.Ns b m → (hidT s₁.heap G).Ns b m := fun {b m} nb ⟨o, es, ep, e, d, r⟩ => ⟨o, es, ep, hidT_get e (noD e nb (fun _ _ z => by rw [d] at z; cases z) fun z => by rw [d] at z; cases z), d, r⟩
  have kO : K.In (hidT s₁.heap G) := fun b o e => by
    have nb : b ≠ sysModules := fun z => by rw [z, hK] at e; cases e
    have np : b ∉ Ps := fun z => by rw [(isT b z).2] at e; cases e
    refine hidT_get (KX b o e) ?_
    rw [other b nb np]
    by_cases q : H b = none
    · exact q
    · have z := S.at_ b q
      subst z
      rw [S.out q] at e; cases e
  obtain ⟨mc, l1, l2⟩ := hlim
  have okO : HOk P w G s₁.heap := fun b u e => by
    by_cases hb : b = sysModules
    · subst hb
      rw [gS] at e
      cases e
      exact ⟨hM, ⟨oM, hM⟩⟩
    · by_cases hp : b ∈ Ps
      · rw [gT b hp] at e
        cases e
        exact (isT b hp).1
      · rw [other b hb hp] at e
        have back : ∀ c o, H c = some o → G c = some o := fun c o q => by
          by_cases hc : c = sysModules
          · subst hc; rw [hH1] at q; cases q
          · by_cases hcp : c ∈ Ps
            · rw [hHP c hcp] at q; cases q
            · rw [other c hc hcp]; exact q
        exact (S.ok b u e).stay (fun _ _ _ q => q) (fun c q => back c _ q) fun c xs q => back c _ q
  have TB : ∀ p ∈ cs, TabB (hidT s₁.heap G) mg p.1 p.2 := fun p hp => by
    have hTp := hT p hp
    refine ⟨?_, ?_, fun z => ?_⟩
    · obtain ⟨o, us, file, tf, flags, tg, inF, text, tt, e1, r1, r2, r3, r4, r5, r6, r7, r8, hne⟩ := C p hp
      have nb : p.1 ≠ sysModules := fun z => by
        rw [z, hM] at e1; cases e1; rw [dM] at r2; cases r2
      refine ⟨o, us, file, tf, flags, tg, inF, text, tt, hidT_get e1 (noD e1 nb (fun vs n z => ?_) fun z => ?_), r1, r2, r3, r4, r5, r6, r7, r8, hne⟩
      · rw [r2] at z
        cases z
      · rw [r2] at z
        cases z
        simp at r3
    · obtain ⟨bm, ob, b1, b2, b3, b4, b5, b6⟩ := hbm
      have nb : bm ≠ sysModules := fun z => by
        rw [z, hM] at b3; cases b3; rw [dM] at b6; cases b6
      have nG : bm ≠ mainGlobals := fun q => by
        obtain ⟨o, es, ep, e, hd, _⟩ := hns
        rw [q, e] at b3
        cases b3
        rw [hd] at b6
        cases b6
      have nP : bm ≠ p.2 := fun q => by
        rw [q, hTp] at b3
        cases b3
        cases b6
      refine ⟨bm, ob, b1, b2, nG, nP, hidT_get b3 (noD b3 nb (fun vs n z => ?_) fun z => ?_), b4, b5, b6⟩
      · rw [b6] at z
        cases z
      · rw [b6] at z
        cases z
    · obtain ⟨o, es, ep, e, hd, _⟩ := hns
      rw [z, hTp] at e
      cases e
      cases hd
  have eO : Env0 P w K mg (hidT s₁.heap G) callerA [] s₁ G :=
    ⟨rfl, ⟨kO, nsO (by decide) hns, ⟨mb, nsO (by decide) hb, hbb⟩, ⟨mc, nsO (by decide) l1, l2⟩⟩, fun b o e => of_hidT e, Nat.le_of_eq (hidT_size _ _), trivial, fun b z => (by cases z), okO, AllBare.of_eq hg⟩
  have sqO : SqL K G a (ns.map V.int) := by
    rcases S.sq with (h | ⟨o, h⟩) | h
    · exact .inl (.inl (by rw [other a na aT]; exact h))
    · exact .inl (.inr ⟨o, by rw [other a na aT]; exact h⟩)
    · exact .inr h
  refine codeAny_mono ((F _ kO (nsO (by decide) hns) TB).run callerA [] s₁ G ⟨[.ref a], []⟩ [.ref a] [.ref a] _ _ rfl hr eO (hbind s₁ (.ref a)) (.cons rfl .nil) (hsp _ (by rw [gS]; exact nofun) na (fun p hp => ⟨gT _ (memP p hp), fun z => sT (z ▸ memP p hp), fun z => aT (z ▸ memP p hp)⟩) sqO)) fun r s' h => ?_
  cases r with
  | error e => exact False.elim h
  | ok fl =>
    cases fl with
    | next => exact False.elim h
    | brk => exact False.elim h
    | cont => exact False.elim h
    | ret u =>
      obtain ⟨v, H', os, bare, un, hok', r', q⟩ := h
      have q' : v = .bl true := q
      subst q'
      obtain rfl : u = Value.bool true := r'
      have key : ∀ b o, b ∉ Ps → s₁.heap.get? b = some o → s'.heap.get? b = some o := fun b o hp e => by
        by_cases q : G b = none
        · exact un.keep b o e q (fun z => by cases z) (by simp)
        · by_cases hb : b = sysModules
          · subst hb
            have e2 := (hok' _ _ (un.frzs _ _ _ gS)).1
            rw [hM] at e; cases e
            exact e2
          · rw [other b hb hp] at q
            rcases S.only b with z | ⟨ob, xs, z⟩
            · exact absurd z q
            · have e1 := (S.ok b _ z).1
              have e2 := (hok' b _ (un.frzs b ob _ (by rw [other b hb hp]; exact z))).1
              rw [e] at e1; cases e1
              exact e2
      have grown : ∀ p ∈ cs, ∃ more : Array Value, s'.heap.get? p.2 = some { cls := .none, data := .fields more } := fun p hp => by
        obtain ⟨more, z⟩ := un.tbls p.2 #[] (gT _ (memP p hp))
        exact ⟨_, hok' p.2 _ z⟩
      refine ⟨rfl, ⟨fun b o e => ?_, fun b o e => ?_⟩, os, bare⟩
      · by_cases hb : b ∈ Ps
        · rw [hPs] at hb
          obtain ⟨p, hp, ep⟩ := List.mem_map.mp hb
          obtain ⟨more, hm⟩ := grown p hp
          rw [← ep] at e ⊢
          rw [hT p hp] at e
          cases e
          exact .inr (.inl ⟨((C p hp).tab (hT p hp)).isCodeTable, rfl, #[], more, rfl, by rw [Array.empty_append]; exact hm⟩)
        · exact .inl (key b o hb e)
      · by_cases hb : b ∈ Ps
        · rw [hPs] at hb
          obtain ⟨p, hp, ep⟩ := List.mem_map.mp hb
          obtain ⟨more, hm⟩ := grown p hp
          rw [← ep]
          exact ⟨_, hm⟩
        · exact ⟨o, key b o hb e⟩
theorem tabIn_of {K : PySem.W.Frag} {x : Str} {f c P : Addr} {oc : Value} {od : Option Addr} {fd : FuncData} {sl : Array (Option Value)} {clc : Value} {odc : Option Addr} {vs : Array Value} {slc : Array (Option Value)} (a : PySem.W.nsIn K mainGlobals x = some (some (.ref f))) (l : K.lookup f = some ⟨oc, od, .func fd, sl⟩) (hc : fd.code = .ref c)
    (lc : K.lookup c = some ⟨clc, odc, .fields vs, slc⟩) (hv : (vs[11]? : Option Value) = some (.ref P)) : PySem.W.tabIn K x = some (c, P) := by
  unfold PySem.W.tabIn
  simp only [a, l, hc, lc, hv]
/-- what the end wants to know of the law's def -/
def EndT (q : Program) (l : PySem.W.OpenLaw) (w : World) (K : PySem.W.Frag) (mg : Str → Option Value) (k : Nat) (x : Str) (fa : Addr) : Prop :=
  ∃ (fd : FuncData) (cs : List (Addr × Addr)) (sp : Sp), (∀ p ∈ cs, K.lookup p.2 = none ∧ ∃ (x : Str) (e : DefRec), (recsOf q).find? (fun e => e.name == x) = some e ∧ PySem.W.tabIn K x = some p) ∧ (∀ (s : Shared) (u : Value), BindsTo s fd ⟨[u], []⟩ [(x, u)]) ∧
    (∀ (H : Hp) (a : Addr) (ns : List Int), ns.length ≤ 63 → H sysModules ≠ none → a ≠ sysModules → (∀ p ∈ cs, H p.2 = some (.tbl #[]) ∧ p.2 ≠ sysModules ∧ p.2 ≠ a) → SqL K H a (ns.map V.int) → sp [.ref a] H (fun v _ => v = .bl true) fun _ _ _ => False) ∧
    ∀ base : Heap, K.In base → base.Ns mainGlobals mg → (∀ p ∈ cs, TabB base mg p.1 p.2) → FnG l.prog w K mg base k fa fd [x] sp
theorem walk_ofST {l : PySem.W.OpenLaw} {n k : Nat} {q : Program} {loose : List Str} {XP : (Str → Option Value) → Heap → Prop} {YP : World → Heap → Prop} {d : DefRec} {K : Params → PySem.W.Frag} {x : Str}
    (hI : importsNone q = true) (hn : l.most = some n) (hn2 : n ≤ 63) (hdf : d.params.defaults = []) (hr : Room k callerA)
    (hY : ∀ (w : World) (h : Heap), YP w h → (K w.params).In h) (hK : ∀ w : World, (K w.params).lookup sysModules = none)
    (F : ∀ (w : World) (mg : Str → Option Value) (fa : Addr) (h : Heap), (K w.params).In h → h.Ns mainGlobals mg → mg d.name = some (.ref fa) → EndT q l w (K w.params) mg k x fa) :
    PySem.W.WalkO q loose XP YP l.row.toRowW d [] (fun f vs => PySem.call f vs) := by
  refine Att.attach_call hn hdf fun w s₀ s₁ mg mb fa o pm cd doc a vs ns G Y ho hd hcd hmg hobj hints hlen hg => ?_
  have KX := hY w _ Y
  obtain ⟨fd, cs, sp, hC, hb, hsp, hF⟩ := F w mg fa _ KX G.T.g hmg
  obtain ⟨mm, hm, _⟩ := (G.T.seer hI).mods
  have T : ∀ p ∈ cs, PySem.W.CodeHd s₁.heap p.1 p.2 ∧ s₁.heap.get? p.2 = some { cls := .none, data := .fields #[] } := fun p hp => by
    obtain ⟨_, x, e, h1, h2⟩ := hC p hp
    exact PySem.W.tab_of G.T KX h1 h2
  have h63 : (63 : Nat) ≤ sizeLine := by decide +kernel
  exact law_callTS KX G.T.g G.T.b G.T.builtins G.T.nolimit hg hm (hK w) (fun p hp => (T p hp).2) (fun p hp => (hC p hp).1) (fun p hp => (T p hp).1) G.T.bmain hobj hints (Nat.le_trans hlen (Nat.le_trans hn2 h63)) hr hF hb fun H h1 h2 h3 h4 => hsp H a ns (Nat.le_trans hlen hn2) h1 h2 h3 h4
/-! ### the start -/
def tabsM (ts : List (Addr × (Nat → Nat → Str))) : Mu := ts.map fun t => OC.tab t.1 t.2
def sp3_lawT (ts : List (Addr × (Nat → Nat → Str))) : Sp3 := fun ds μ Q _ => μ = tabsM ts ∧ ∃ ns : List Int, ds = [.ls (dInts ns)] ∧ ns.length ≤ 63 ∧ ∀ μ', Q (.v (.bl true)) μ'
theorem law_start3T {K : PySem.W.Frag} {H : Hp} {a : Addr} {ns : List Int} {ts : List (Addr × (Nat → Nat → Str))} (hl : ns.length ≤ 63) (h : SqL K H a (ns.map V.int)) (hs : H sysModules ≠ none) (ha : a ≠ sysModules) (nd : (ts.map (·.1)).Nodup)
    (hT : ∀ t ∈ ts, H t.1 = some (.tbl #[]) ∧ t.1 ≠ sysModules ∧ t.1 ≠ a) : lift K (sp3_lawT ts) [.ref a] H (fun v _ => v = .bl true) (fun _ _ _ => False) := by
  obtain ⟨w, hw⟩ : ∃ w : Wo, w = ⟨fun k => match ts[k]? with | some t => t.1 | none => 0, tabsM ts, H, [sysModules]⟩ := ⟨_, rfl⟩
  have e1 : w.mu = tabsM ts := by rw [hw]
  have e2 : w.hp = H := by rw [hw]
  have e3 : w.hx = [sysModules] := by rw [hw]
  have al_ : ∀ k t, ts[k]? = some t → w.al k = t.1 := fun k t e => by rw [hw]; show (match ts[k]? with | some t => t.1 | none => 0) = _; rw [e]
  have len : w.mu.length = ts.length := by rw [e1]; unfold tabsM; simp
  have at_ : ∀ k c, w.mu[k]? = some c → ∃ t : Addr × (Nat → Nat → Str), ts[k]? = some t ∧ c = OC.tab (t : Addr × (Nat → Nat → Str)).1 t.2 := fun k c e => by
    rw [e1] at e
    unfold tabsM at e
    rw [List.getElem?_map] at e
    cases q : ts[k]? with
    | none => rw [q] at e; cases e
    | some t => rw [q] at e; cases e; exact ⟨t, q, rfl⟩
  have hn : ∀ b, b ≠ sysModules → (∀ t ∈ ts, t.1 ≠ b) → ¬ w.hid b := fun b nb nt z => by
    rcases z with ⟨k, c, e, _, ea⟩ | z
    · obtain ⟨t, q, _⟩ := at_ k c e
      rw [al_ k t q] at ea
      exact nt t (List.mem_of_getElem? q) ea
    · rw [e3] at z; exact nb (List.mem_singleton.mp z)
  have na := hn a ha fun t ht => (hT t ht).2.2
  have hS : SqL K w.vis a (ns.map V.int) := by
    rcases h with (h | ⟨o, h⟩) | h
    · exact .inl (.inl (vis_of (by rw [e2]; exact h) na))
    · exact .inl (.inr ⟨o, vis_of (by rw [e2]; exact h) na⟩)
    · exact .inr h
  have get : ∀ k, k < w.mu.length → ∃ t, ts[k]? = some t ∧ t ∈ ts ∧ w.al k = t.1 := fun k hk => by
    rw [len] at hk
    exact ⟨ts[k], List.getElem?_eq_getElem hk, List.getElem_mem hk, al_ k _ (List.getElem?_eq_getElem hk)⟩
  refine ⟨w, [.ls (dInts ns)], fun d _ => d = .v (.bl true), E03, e2, ⟨fun i j hi hj e => ?_, fun k hk => ?_, fun b hb => ?_, fun k hk z => ?_, by rw [e3]; exact List.mem_singleton.mpr rfl, fun k c hc => ?_⟩, RvL.cons (.ls hS (by simp [dInts]) fun i v d x y => ?_) .nil, ⟨e1, ns, rfl, hl, fun _ => rfl⟩, fun w' v d _ _ r e => ?_, fun _ _ _ _ _ _ _ _ z => z⟩
  · obtain ⟨t1, q1, _, z1⟩ := get i hi
    obtain ⟨t2, q2, _, z2⟩ := get j hj
    rw [z1, z2] at e
    have h1 : (ts.map (·.1))[i]? = some t1.1 := by rw [List.getElem?_map, q1]; rfl
    have h2 : (ts.map (·.1))[j]? = some t1.1 := by rw [List.getElem?_map, q2, e]; rfl
    obtain ⟨l1, g1⟩ := List.getElem?_eq_some_iff.mp h1
    obtain ⟨l2, g2⟩ := List.getElem?_eq_some_iff.mp h2
    exact (List.getElem_inj nd).mp (g1.trans g2.symm)
  · obtain ⟨t, q, m, z⟩ := get k hk
    rw [z, e2, (hT t m).1]; nofun
  · rw [e3] at hb
    rw [List.mem_singleton.mp hb, e2]; exact hs
  · obtain ⟨t, q, m, z'⟩ := get k hk
    rw [e3, z'] at z
    exact (hT t m).2.1 (List.mem_singleton.mp z)
  · obtain ⟨t, q, rfl⟩ := at_ k c hc
    refine ⟨al_ k t q, #[], ?_, trivial, fun pos cv z => ?_⟩
    · rw [al_ k t q, e2]; exact (hT t (List.mem_of_getElem? q)).1
    · simp [codeAmong] at z
  · unfold dInts at y
    rw [List.getElem?_map] at x y
    cases q : ns[i]? with
    | none => rw [q] at x; cases x
    | some z => rw [q] at x y; cases x; cases y; exact .v _
  · subst e; cases r; rfl
end Wb

set_option Elab.async false
set_option linter.all false
set_option maxRecDepth 100000
set_option maxHeartbeats 1000000
/-! lists turned about; calls by keywords of defs without defaults -/
namespace Wb
open PySem PySem.Spec PyProof.Rows L2
def mReverse : D → C3 := fun x ds μ Q => match x with
  | .o k => (match μ[k]? with
    | some (.lst xs) => ds = [] ∧ Q (.v .non) (μ.set k (.lst xs.reverse))
    | _ => False)
  | _ => False
section
variable {K : PySem.W.Frag} {I : Pre}
theorem m_reverse : SM K I rReverse mReverse := fun w x vs d ds Q Q3 R _ rx rl h q => by
  unfold mReverse at h
  split at h
  · split at h
    · rename_i k _ xs hx
      obtain ⟨rfl, h⟩ := h
      have := rl.unnil
      subst this
      obtain ⟨rfl, us, h1, h2⟩ := cell_lst R rx hx
      obtain ⟨R1, L1⟩ := put_lst R hx rfl h2.reverse
      exact ⟨_, us, rfl, rfl, h1, q _ _ _ L1 R1 (.v _) h⟩
    · exact h.elim
  · exact h.elim
end
theorem _root_.L2.Fun.kbF {K : PySem.W.Frag} {x qual : Str} {st : Stmt} {f : Addr} {fd : FuncData} {ps : List Str} (F : Fun K x qual st f fd) (n : Nat) (ks : List Str) (idx : List Nat)
    (h : ∀ (kV doc pm : Value) (an : Option Addr) (cdv ct : Value) (us ws : List Value), us.length = n → ws.length = ks.length →
      bindArgs (PySem.W.fnOf x qual (defArgs st) (defBody st) (defScope st) .none kV doc pm an cdv ct) ⟨us, ks.zip ws⟩ = pure (ps.zip (pickL idx (us ++ ws)))) :
    ∃ its : List Value, KBn K fd ps n ks (fun us ws => pickL idx (us ++ its ++ ws)) (fun vs zs => pickL idx (vs ++ [] ++ zs)) := by
  obtain ⟨oc, od, kV, doc, pm, an, cdv, ct, osl, rfl, lk, hcd⟩ := F.ex
  refine ⟨[], fun s us ws _ l1 l2 => .of_eq ?_, fun r1 r2 => ?_⟩
  · rw [List.append_nil]; exact h kV doc pm an cdv ct us ws l1 l2
  · rw [List.append_nil, List.append_nil]; exact vals_pick (r1.append r2) idx
def eCallN3 (sp : Sp3) (n m : Nat) (g : List D → List D → List D) (a k : A3) : E3 := fun s μ Q => a s μ fun ds μ1 => k s μ1 fun es μ2 => ds.length = n ∧ es.length = m ∧ sp (g ds es) μ2 Q E03
theorem s_callN3 {K : PySem.W.Frag} {I : Pre} {sp : Sp3} {n m : Nat} {idx : List Nat} {dvs : List V} {t tk : TA} {a k : A3} (ht : SA K I t a) (hk : SA K I tk k)
    (g3 : List D → List D → List D) (hg : ∀ (ds es : List D), ds.length = n → es.length = m → pickL idx (ds ++ dvs.map D.v ++ es) = g3 ds es) :
    SE K I (L2.tCallN n m (lift K sp) (fun vs zs => pickL idx (vs ++ dvs ++ zs)) E0 t tk) (eCallN3 sp n m g3 a k) := fun w σ s Q Q3 S h q =>
  ht w σ s _ _ S h fun w1 vs ds L1 R1 V1 h1 => hk w1 σ s _ _ (S.to L1 R1) h1 fun w2 zs es L2 R2 V2 h2 => by
    obtain ⟨l1, l2, h2⟩ := h2
    have base := RvL.append (RvL.append (L2.rl V1) (RvL.vals dvs)) V2
    have p1 := pickL_rl base idx
    rw [hg ds es l1 l2] at p1
    exact ⟨by rw [(L2.rl V1).len]; exact l1, by rw [V2.len]; exact l2, w2, _, Q3, E03, rfl, R2, p1, h2, q.up (L1.trans L2), fun _ _ _ _ _ _ _ _ z => z.elim⟩
end Wb
namespace Wb
open PySem PySem.Spec PyProof.Rows L2
/-- x, y = a, b -/
def xPar (i j : Nat) (a : A3) : S3 := fun D s μ => a s μ fun ds μ1 => match ds with
  | [d, e] => D.nx ((s.set i (some d)).set j (some e)) μ1
  | _ => False
theorem x_par {K : PySem.W.Frag} {I : Pre} {i j : Nat} {ta : TA} {a : A3} (ha : SA K I ta a) : SS K I (tPar i j ta) (xPar i j a) := fun w σ s D D3 S h q =>
  ha w σ s _ _ S h fun w1 vs ds L1 R1 V1 h1 => by
    split at h1
    · rename_i d e
      obtain ⟨v, r, rfl, r1, V2⟩ := V1.uncons
      obtain ⟨v2, r', rfl, r2, V3⟩ := V2.uncons
      have := V3.unnil
      subst this
      exact ⟨v, v2, rfl, q.nx w1 _ _ L1 R1 (((S.rvs.up L1).set r1).set r2) h1⟩
    · exact h1.elim
end Wb

set_option Elab.async false
set_option linter.all false
set_option maxRecDepth 100000
set_option maxHeartbeats 1000000
/-! == by an own __eq__ -/
namespace Wb
open PySem PySem.Spec PyProof.Rows L2
open AutoSeq1 (wpAny_loadPart')
/-! ### what the built-in types say of an instance -/
section
variable {prog : Program} {w : World} {A : Around} {E : Value → Shared → Prop} {s : Shared} {a b C : Addr} {o : Obj}
theorem dec_list {K : PySem.W.Frag} {ox oa : Obj} {od : Option Obj} {Q : Value → Shared → Prop} (X : K.In s.heap) (I : PySem.W.InstAt s.heap b ox C od) (hm : PySem.W.mroIn K C (.type "list") = some false) (ha : s.heap.get? a = some oa) (hc : oa.cls = .type "list")
    (q : Q .notImplemented s) : wpAny (model prog w) A (call (.builtin "list.__eq__") [.ref a, .ref b]) Q E s := by
  refine GQ.call_here F.slot_list_eq ⟨_, ha, hc⟩ F.entry_list_eq (F.args_list_eq_2 _ _) ?_
  wp_walk
  refine wpAny_loadPart I.at_ (wpAny_pure ?_)
  rw [I.cls]
  refine (PySem.W.looks_mroIn X hm).here ?_
  wp_walk
  exact q
theorem dec_tuple {K : PySem.W.Frag} {ox oa : Obj} {od : Option Obj} {Q : Value → Shared → Prop} (X : K.In s.heap) (I : PySem.W.InstAt s.heap b ox C od) (hm : PySem.W.mroIn K C (.type "tuple") = some false) (ha : s.heap.get? a = some oa) (hc : oa.cls = .type "tuple")
    (q : Q .notImplemented s) : wpAny (model prog w) A (call (.builtin "tuple.__eq__") [.ref a, .ref b]) Q E s := by
  refine GQ.call_here F.slot_tuple_eq ⟨_, ha, hc⟩ F.entry_tuple_eq (F.args_tuple_eq_2 _ _) ?_
  wp_walk
  refine wpAny_loadPart I.at_ (wpAny_pure ?_)
  rw [I.cls]
  refine (PySem.W.looks_mroIn X hm).here ?_
  wp_walk
  exact q
theorem dec_str {dx : Addr} {x : Str} {t : Tok} {Q : Value → Shared → Prop} (hb : s.heap.get? b = some (PySem.W.instObj C dx)) (q : Q .notImplemented s) : wpAny (model prog w) A (call (.builtin "str.__eq__") [.str x t, .ref b]) Q E s := by
  refine GQ.call_here F.slot_str_eq rfl F.entry_str_eq (F.args_str_eq_2 _ _) ?_
  wp_walk using wpAny_loadPart' hb
  exact q
theorem dec_int {dx : Addr} {x : Int} {t : Tok} {Q : Value → Shared → Prop} (hb : s.heap.get? b = some (PySem.W.instObj C dx)) (q : Q .notImplemented s) : wpAny (model prog w) A (call (.builtin "int.__eq__") [.int x t, .ref b]) Q E s := by
  refine GQ.call_here F.slot_int_eq rfl F.entry_int_eq (F.args_int_eq_2 _ _) ?_
  wp_walk using wpAny_loadPart' hb
  exact q
theorem dec_bool {dx : Addr} {x : Bool} {Q : Value → Shared → Prop} (hb : s.heap.get? b = some (PySem.W.instObj C dx)) (q : Q .notImplemented s) : wpAny (model prog w) A (call (.builtin "int.__eq__") [.bool x, .ref b]) Q E s := by
  refine GQ.call_here F.slot_bool_eq rfl F.entry_int_eq (F.args_int_eq_2 _ _) ?_
  wp_walk using wpAny_loadPart' hb
  exact q
theorem dec_none {Q : Value → Shared → Prop} (q : Q .notImplemented s) : wpAny (model prog w) A (call (.builtin "NoneType.__eq__") [.none, .ref b]) Q E s := by
  refine GQ.call_here F.slot_NoneType_eq rfl F.entry_NoneType_eq (F.args_NoneType_eq_2 _ _) ?_
  wp_walk
  exact q
/-- a built-in thing ahead: its type declines, the instance's own == is asked the other way about -/
theorem refl_K {K : PySem.W.Frag} {x f : Addr} {ox : Obj} {od : Option Obj} {v : Value} {T id : String} {Q : Value → Shared → Prop} (hu : A.units < cLine) (X : K.In s.heap) (I : PySem.W.InstAt s.heap x ox C od) (ha : s.TypeIs v T) (hm : PySem.W.mroIn K C (.type T) = some false)
    (slot : Slot T (cmpInfo .Eq).2.1 id) (dec : ∀ {Q' : Value → Shared → Prop}, Q' .notImplemented s → wpAny (model prog w) A (call (.builtin id) [v, .ref x]) Q' E s)
    (hs : PySem.W.findIn K (.ref C) "__eq__" = some (some (.ref f))) (hf : PySem.W.isFn K (.ref f) = true)
    (h : wpAny (model prog w) A (call (.ref f) [.ref x, v]) (PySem.W.CmpBack Q) E s) : wpAny (model prog w) A (richCompare .Eq v (.ref x)) Q E s := by
  have one : wpAny (model prog w) A (tryCompare (.ref x) (cmpInfo .Eq).2.2 v) (fun r s' => ∃ z, r = some z ∧ Q z s') E s := by
    unfold tryCompare
    refine wpAny_bind (PySem.W.ifBound_K X I hs hf (wpAny_mono h (fun v s' hv => ?_) fun _ _ e => e))
    cases v <;> first | exact hv.elim | exact wpAny_pure ⟨_, rfl, hv⟩
  unfold richCompare
  simp only [ha.oneThing_none]
  refine wpAny_holding (wpAny_bind (wpAny_cRoomFor hu ?_))
  refine wpAny_bind (wpAny_typeOf ha (wpAny_bind (I.type.here ?_)))
  rw [show (Value.type T != Value.ref C) = true from rfl]
  simp only [if_true]
  refine wpAny_bind ((PySem.W.looks_mroIn X hm).here ?_)
  simp only [Bool.false_eq_true, if_false]
  refine wpAny_bind (m := tryCompare v _ (.ref x)) (wpAny_tryCompare_declines ha slot (dec ⟨rfl, ?_⟩))
  simp only [Bool.not_false, if_true]
  refine wpAny_bind (wpAny_mono one (fun r s' z => ?_) fun _ _ e => e)
  obtain ⟨v, rfl, hq⟩ := z
  exact wpAny_pure hq
end
/-! ### lists, item by item, whatever the items' == says -/
section
variable {prog : Program} {w : World} {A : Around} {R : Result → Shared → Prop}
open GQ (FinOf)
open MeetsSeq MeetsSeq2 MeetsSeq3 SeqRoads2
/-- at each turn the two lists are read anew: N items each; bs tells which two are equal -/
def ListB (prog : Program) (w : World) (A : Around) (E : Value → Shared → Prop) (l b : Addr) (N : Nat) (bs : Nat → Bool) (I : Nat → Shared → Prop) : Prop :=
  ∀ i s, I i s → ∃ (items items2 : Array Value) (n n2 : Nat), s.heap.get? l = some { cls := .type "list", data := .seq items n } ∧ s.heap.get? b = some { cls := .type "list", data := .seq items2 n2 } ∧ items.size = N ∧ items2.size = N ∧
    ∀ (h1 : i < items.size) (h2 : i < items2.size), wpAny (model prog w) A.in1 (eqBool items[i] items2[i]) (fun r s' => r = bs i ∧ I (i + 1) s') E s
theorem eq_loopB (l b : Addr) (N : Nat) (bs : Nat → Bool) (I : Nat → Shared → Prop) (hl : ListB prog w A (fun e s' => R (.error e) s') l b N bs I)
    (ft : ∀ s, (∀ j, j < N → bs j = true) → I N s → R (.ok (.ret (.bool true))) s) (ff : ∀ i s, i < N → bs i = false → I (i + 1) s → R (.ok (.ret (.bool false))) s) (k : Nat) :
    ∀ i : Nat, N - i = k → i ≤ N → (∀ j, j < i → bs j = true) → ∀ s, I i s →
      wpAny (model prog w) A.in1 (Builtin.«list.__eq__.loop» ⟨[.ref l, .ref b, rawInt i, rawInt 2], []⟩) (FinOf prog w A R) (fun e s' => R (.error e) s') s := by
  induction k with
  | zero =>
    intro i hk hi hj s h
    obtain ⟨items, items2, n, n2, hl1, hb1, hs1, hs2, _⟩ := hl _ _ h
    have hi' : i = N := by omega
    have hR : R (.ok (.ret (.bool true))) s := ft s (fun j q => hj j (by omega)) (hi' ▸ h)
    obtain ⟨hp, g, d, tk, os⟩ := s
    wp_walk using wpAny_loadPart' hl1, wpAny_loadPart' hb1
    have hi1 : items[((i : Nat) : Int).toNat]? = none := by simp; omega
    have hi2 : items2[((i : Nat) : Int).toNat]? = none := by simp; omega
    rw [hi1, hi2]
    wp_walk using wpAny_loadPart' hl1, wpAny_loadPart' hb1
    show R (.ok (.ret (.bool (items.size == items2.size)))) _
    rw [hs1, hs2]
    simpa using hR
  | succ k ih =>
    intro i hk hi hj s h
    obtain ⟨items, items2, n, n2, hl1, hb1, hs1, hs2, turn⟩ := hl _ _ h
    have hlt : i < items.size := by omega
    have hlt2 : i < items2.size := by omega
    have ht := turn hlt hlt2
    obtain ⟨hp, g, d, tk, os⟩ := s
    wp_walk using wpAny_loadPart' hl1, wpAny_loadPart' hb1
    have hi1 : items[((i : Nat) : Int).toNat]? = some items[i] := by simp [hlt]
    have hi2 : items2[((i : Nat) : Int).toNat]? = some items2[i] := by simp [hlt2]
    have hc : ((i : Int) + 1) = ((i + 1 : Nat) : Int) := by omega
    rw [hi1, hi2]
    refine wpAny_bind (wpAny_mono ht (fun r s2 h2 => ?_) fun _ _ x => x)
    obtain ⟨hr, h2⟩ := h2
    subst hr
    cases hbi : bs i with
    | true =>
      have hrec := ih (i + 1) (by omega) (by omega) (fun j q => by
        by_cases z : j = i
        · rw [z]; exact hbi
        · exact hj j (by omega)) s2 h2
      obtain ⟨hp2, g2, d2, tk2, os2⟩ := s2
      wp_walk
      rw [hc]
      exact ⟨plainId_quiet plain_eq_loop _, codeAny_builtin entry_eq_loop (by
        rw [Around.under_plainId plain_eq_loop _]
        exact hrec)⟩
    | false =>
      obtain ⟨xs, ys, n3, n4, hl3, hb3, hs3, hs4, _⟩ := hl _ _ h2
      have hf := ff i s2 (by omega) hbi h2
      obtain ⟨hp2, g2, d2, tk2, os2⟩ := s2
      wp_walk using wpAny_loadPart' hl3, wpAny_loadPart' hb3
      have hi3 : xs[((i : Nat) : Int).toNat]? = some xs[i] := by simp
      have hi4 : ys[((i : Nat) : Int).toNat]? = some ys[i] := by simp
      rw [hi3, hi4]
      wp_walk
      exact hf
theorem list_eqB (l b : Addr) (N : Nat) (bs : Nat → Bool) (I : Nat → Shared → Prop) (hl : ListB prog w A (fun e s' => R (.error e) s') l b N bs I)
    (ft : ∀ s, (∀ j, j < N → bs j = true) → I N s → R (.ok (.ret (.bool true))) s) (ff : ∀ i s, i < N → bs i = false → I (i + 1) s → R (.ok (.ret (.bool false))) s) {s : Shared} (h : I 0 s) :
    wpAny (model prog w) A.in1 (Builtin.«list.__eq__» ⟨[.ref l, .ref b], []⟩) (FinOf prog w A R) (fun e s' => R (.error e) s') s := by
  obtain ⟨items, items2, n, n2, hl1, hb1, hs1, hs2, _⟩ := hl _ _ h
  have hrec := eq_loopB (A := A) (R := R) l b N bs I hl ft ff _ 0 rfl (Nat.zero_le _) (fun j q => absurd q (Nat.not_lt_zero _)) s h
  obtain ⟨hp, g, d, tk, os⟩ := s
  have f3 := AutoSeq1.sub_list_list
  have hne : ¬ (items.size != items2.size) = true := by simp [hs1, hs2]
  wp_walk using wpAny_loadPart' hl1, wpAny_loadPart' hb1
  exact ⟨plainId_quiet plain_eq_loop _, codeAny_builtin entry_eq_loop (by
    rw [Around.under_plainId plain_eq_loop _]
    exact hrec)⟩
/-- lists of unlike length -/
theorem list_eqN {l b : Addr} {items items2 : Array Value} {n n2 : Nat} {s : Shared} (hl1 : s.heap.get? l = some { cls := .type "list", data := .seq items n }) (hb1 : s.heap.get? b = some { cls := .type "list", data := .seq items2 n2 }) (hne : items.size ≠ items2.size) (h : R (.ok (.ret (.bool false))) s) :
    wpAny (model prog w) A.in1 (Builtin.«list.__eq__» ⟨[.ref l, .ref b], []⟩) (FinOf prog w A R) (fun e s' => R (.error e) s') s := by
  obtain ⟨hp, g, d, tk, os⟩ := s
  have f3 := AutoSeq1.sub_list_list
  have hne : (items.size != items2.size) = true := by simp [hne]
  wp_walk using wpAny_loadPart' hl1, wpAny_loadPart' hb1
  exact h
end
section
variable {prog : Program} {w : World} {A : Around} {E : Value → Shared → Prop} {s : Shared}
theorem rc_listB {l b : Addr} {N : Nat} {bs : Nat → Bool} {Q : Value → Shared → Prop} (hu : A.units < cLine) (I : Nat → Shared → Prop) (hl : ListB prog w A E l b N bs I)
    (ft : ∀ s, (∀ j, j < N → bs j = true) → I N s → Q (.bool true) s) (ff : ∀ i s, i < N → bs i = false → I (i + 1) s → Q (.bool false) s) (h : I 0 s) : wpAny (model prog w) A (richCompare .Eq (.ref l) (.ref b)) Q E s := by
  obtain ⟨items, items2, n, n2, hl1, hb1, _, _, _⟩ := hl _ _ h
  refine wpAny_richCompare_same_room (op := .Eq) ⟨_, hl1, rfl⟩ ⟨_, hb1, rfl⟩ F.slot_list_eq (GQ.call_here F.slot_list_eq ⟨_, hl1, rfl⟩ F.entry_list_eq (F.args_list_eq_2 _ _) ?_) hu
  exact list_eqB (R := wants (fun v s' => v ≠ .notImplemented ∧ Q v s') E) l b N bs I hl (fun s' q r => ⟨(fun x => nomatch x), ft s' q r⟩) (fun i s' a q r => ⟨(fun x => nomatch x), ff i s' a q r⟩) h
theorem rc_listN {l b : Addr} {items items2 : Array Value} {n n2 : Nat} {Q : Value → Shared → Prop} (hu : A.units < cLine) (hl1 : s.heap.get? l = some { cls := .type "list", data := .seq items n }) (hb1 : s.heap.get? b = some { cls := .type "list", data := .seq items2 n2 }) (hne : items.size ≠ items2.size)
    (h : Q (.bool false) s) : wpAny (model prog w) A (richCompare .Eq (.ref l) (.ref b)) Q E s := by
  refine wpAny_richCompare_same_room (op := .Eq) ⟨_, hl1, rfl⟩ ⟨_, hb1, rfl⟩ F.slot_list_eq (GQ.call_here F.slot_list_eq ⟨_, hl1, rfl⟩ F.entry_list_eq (F.args_list_eq_2 _ _) ?_) hu
  exact list_eqN (R := wants (fun v s' => v ≠ .notImplemented ∧ Q v s') E) hl1 hb1 hne ⟨(fun x => nomatch x), h⟩
end
section
variable {prog : Program} {w : World} {A : Around} {E : Value → Shared → Prop} {s : Shared}
open MeetsSeq MeetsSeq2 MeetsSeq3 SeqRoads2
/-- x in [y] -/
theorem in_one {l : Addr} {x y : Value} {its : Array Value} {n : Nat} {Q : Value → Shared → Prop} (hl : s.heap.get? l = some { cls := .type "list", data := .seq its n }) (h0 : its[0]? = some y)
    (h : wpAny (model prog w) A.in1 (eqBool y x) (fun r s' => (∃ its' n', s'.heap.get? l = some { cls := .type "list", data := .seq its' n' } ∧ its'[1]? = none) ∧ Q (.bool r) s') E s) : wpAny (model prog w) A (compareOp .In x (.ref l)) Q E s := by
  show wpAny _ A (do return .bool (← contains (.ref l) x)) Q E s
  have e0 : its[Int.toNat 0]? = some y := h0
  refine wpAny_bind (wpAny_contains_slot ⟨_, hl, rfl⟩ F.slot_list_contains (wpAny_mono (Q := fun v s' => ∃ b, v = .bool b ∧ Q (.bool b) s') (GQ.call_here F.slot_list_contains ⟨_, hl, rfl⟩ F.entry_list_contains (F.args_list_contains_2 _ _) ?_) (fun v s' hv => ?_) fun _ _ e => e))
  · obtain ⟨hp, g, d, tk, os⟩ := s
    wp_walk using wpAny_loadPart' hl
    refine ⟨plainId_quiet plain_contains_loop _, codeAny_builtin entry_contains_loop (by
      rw [Around.under_plainId plain_contains_loop _]
      wp_walk using wpAny_loadPart' hl
      rw [e0]
      refine wpAny_bind (wpAny_mono h (fun r s2 h2 => ?_) fun _ _ x => x)
      obtain ⟨⟨its', n', h3, h4⟩, q⟩ := h2
      have e1 : its'[Int.toNat (0 + 1)]? = none := h4
      cases r with
      | true =>
        obtain ⟨hp2, g2, d2, tk2, os2⟩ := s2
        wp_walk
        exact ⟨_, rfl, q⟩
      | false =>
        obtain ⟨hp2, g2, d2, tk2, os2⟩ := s2
        wp_walk
        refine ⟨plainId_quiet plain_contains_loop _, codeAny_builtin entry_contains_loop (by
          rw [Around.under_plainId plain_contains_loop _]
          wp_walk using wpAny_loadPart' h3
          rw [e1]
          wp_walk
          exact ⟨_, rfl, q⟩)⟩)⟩
  · obtain ⟨b, rfl, hq⟩ := hv
    exact wpAny_truthy_bool (wpAny_pure hq)
end
/-! ### != by an own __eq__ -/
section
variable {prog : Program} {w : World} {A : Around} {E : Value → Shared → Prop} {s : Shared} {K : PySem.W.Frag} {x C f : Addr} {ox : Obj} {od : Option Obj} {v : Value}
theorem objNe_K (hu : A.units < cLine) (X : K.In s.heap) (I : PySem.W.InstAt s.heap x ox C od) (hs : PySem.W.findIn K (.ref C) "__eq__" = some (some (.ref f))) (hf : PySem.W.isFn K (.ref f) = true) {Q : Fin → Shared → Prop}
    (hcall : wpAny (model prog w) A (call (.ref f) [.ref x, v]) (fun z s' => ∃ b, z = .bool b ∧ Q (.done (.ret (.bool (!b)))) s') E s) : wpAny (model prog w) A (Builtin.«object.__ne__» ⟨[.ref x, v], []⟩) Q E s := by
  unfold Builtin.«object.__ne__»
  have h1 : wpAny (model prog w) A (callSpecialIfBound? (.ref x) "__eq__" [v]) (fun r s' => ∃ b, r = some (.bool b) ∧ Q (.done (.ret (.bool (!b)))) s') E s :=
    PySem.W.ifBound_K X I hs hf (wpAny_mono hcall (fun z s' hz => by obtain ⟨b, rfl, q⟩ := hz; exact ⟨b, rfl, q⟩) fun _ _ e => e)
  refine wpAny_bind (m := slotArgs "__ne__" 1 _) (wpAny_pure ?_)
  refine wpAny_bind (wpAny_cRoomFor hu ?_)
  refine wpAny_bind (m := callSpecialIfBound? (.ref x) (Str.ofString "__eq__") [v]) (wpAny_mono h1 (fun r s' hr => ?_) fun _ _ e => e)
  obtain ⟨b, rfl, q⟩ := hr
  exact wpAny_bind (m := truthy (.bool b)) (wpAny_truthy_bool (wpAny_pure q))
theorem check_ne {M : Model} {Q : Unit → Shared → Prop} (X : K.In s.heap) (I : PySem.W.InstAt s.heap x ox C od) (hmo : PySem.W.mroIn K C (.type "object") = some true) (q : Q () s) : wpAny M A (checkBuiltinCall "object.__ne__" ⟨[.ref x, v], []⟩) Q E s := by
  simp only [checkBuiltinCall, F.cmpKind_ne, F.cmpSplit_ne]
  refine wpAny_bind ?_
  unfold isInstance
  repeat (first | (with_reducible refine wpAny_loadPart I.at_ ?_; rw [I.cls]) | (with_reducible refine (PySem.W.looks_mroIn X hmo).here ?_) | wp_step)
  exact q
theorem tryNe_K (hu : A.units + 1 < cLine) (X : K.In s.heap) (I : PySem.W.InstAt s.heap x ox C od) (hne : PySem.W.findIn K (.ref C) "__ne__" = some (some (.builtin "object.__ne__"))) (hmo : PySem.W.mroIn K C (.type "object") = some true)
    (hs : PySem.W.findIn K (.ref C) "__eq__" = some (some (.ref f))) (hf : PySem.W.isFn K (.ref f) = true) {Q : Option Value → Shared → Prop}
    (hcall : wpAny (model prog w) A.in1 (call (.ref f) [.ref x, v]) (fun z s' => ∃ b, z = .bool b ∧ Q (some (.bool (!b))) s') E s) : wpAny (model prog w) A (tryCompare (.ref x) "__ne__" v) Q E s := by
  unfold tryCompare
  have S : Slot "object" "__ne__" "object.__ne__" := F.cmp_object.ne
  have hc : wpAny (model prog w) A (call (.builtin "object.__ne__") [.ref x, v]) (fun z s' => ∃ b, z = .bool b ∧ Q (some (.bool b)) s') E s := by
    refine wpAny_call (codeAny_call_builtin S.plain F.cmpEntry_ne ?_)
    have fin : wpAny (model prog w) A.in1 (Builtin.«object.__ne__» ⟨[.ref x, v], []⟩) (GQ.FinOf prog w A (wants (fun z s' => ∃ b, z = .bool b ∧ Q (some (.bool b)) s') E)) (fun e s' => wants (fun z s' => ∃ b, z = .bool b ∧ Q (some (.bool b)) s') E (.error e) s') s :=
      objNe_K hu X I hs hf (wpAny_mono hcall (fun z s' hz => by obtain ⟨b, rfl, q⟩ := hz; exact ⟨b, rfl, _, rfl, q⟩) fun _ _ e => e)
    exact check_ne X I hmo fin
  have h1 : wpAny (model prog w) A (callSpecialIfBound? (.ref x) "__ne__" [v]) (fun r s' => ∃ b, r = some (.bool b) ∧ Q (some (.bool b)) s') E s := by
    simp only [callSpecialIfBound?, bindSpecialIfBound?]
    refine wpAny_holding (wpAny_bind (wpAny_bind (wpAny_bind (I.type.here ((PySem.W.looks_findIn X hne).here ?_)))))
    simp only [S.bind]
    refine wpAny_bind (wpAny_askSetting (wpAny_ite ?_))
    have fin : wpAny (model prog w) A (call (.builtin "object.__ne__") ([.ref x] ++ [v]) >>= fun v => pure (some v)) (fun r s' => ∃ b, r = some (.bool b) ∧ Q (some (.bool b)) s') E s :=
      wpAny_bind (wpAny_mono hc (fun z s' h' => by obtain ⟨b, rfl, q⟩ := h'; exact wpAny_pure ⟨b, rfl, q⟩) fun _ _ h' => h')
    split
    · exact wpAny_bind (wpAny_pure (wpAny_pure fin))
    · exact wpAny_tryCatch (wpAny_bind (wpAny_pure (wpAny_pure fin)))
  refine wpAny_bind (m := callSpecialIfBound? (.ref x) (Str.ofString "__ne__") [v]) (wpAny_mono h1 (fun r s' hr => ?_) fun _ _ e => e)
  obtain ⟨b, rfl, q⟩ := hr
  exact wpAny_pure q
theorem ne_K {h₀ : Heap} {L : Addr} {m : Str → Option Value} {tb : Value} {Q : Value → Shared → Prop} (hu : A.units + 1 < cLine) (F : Fr h₀ L s.heap m) (X₀ : K.In h₀) (I : PySem.W.InstAt s.heap x ox C od) (hb : PySem.W.Looks (model prog w) s.heap (typeOf v) tb) (hn : PySem.W.notFirst K C tb = true)
    (hne : PySem.W.findIn K (.ref C) "__ne__" = some (some (.builtin "object.__ne__"))) (hmo : PySem.W.mroIn K C (.type "object") = some true)
    (hs : PySem.W.findIn K (.ref C) "__eq__" = some (some (.ref f))) (hf : PySem.W.isFn K (.ref f) = true)
    (hcall : wpAny (model prog w) A.in1 (call (.ref f) [.ref x, v]) (fun z s' => ∃ b, z = .bool b ∧ Q (.bool (!b)) s') E s) : wpAny (model prog w) A (richCompare .NotEq (.ref x) v) Q E s := by
  have X := X₀.keeps F.keep
  have one : wpAny (model prog w) A (tryCompare (.ref x) (cmpInfo .NotEq).2.1 v) (fun r s' => ∃ z, r = some z ∧ Q z s') E s :=
    tryNe_K hu X I hne hmo hs hf (wpAny_mono hcall (fun z s' hz => by obtain ⟨b, rfl, q⟩ := hz; exact ⟨b, rfl, _, rfl, q⟩) fun _ _ e => e)
  unfold richCompare
  simp only [oneThing_ref]
  refine wpAny_holding (wpAny_bind (wpAny_cRoomFor (Nat.lt_of_succ_lt hu) ?_))
  refine wpAny_bind (I.type.here (wpAny_bind (hb.here ?_)))
  split
  · rename_i q
    have e : PySem.W.subIn K tb (.ref C) = some false := by
      rcases Bool.or_eq_true_iff.mp hn with e | e
      · rw [beq_iff_eq.mp e] at q; simp at q
      · exact beq_iff_eq.mp e
    refine wpAny_bind ((PySem.W.looks_subIn X e).here ?_)
    simp only [Bool.false_eq_true, if_false]
    refine wpAny_bind (wpAny_mono one (fun r s' z => ?_) fun _ _ e => e)
    obtain ⟨v, rfl, hq⟩ := z
    exact wpAny_pure hq
  · refine wpAny_bind (wpAny_pure ?_)
    simp only [Bool.false_eq_true, if_false]
    refine wpAny_bind (wpAny_mono one (fun r s' z => ?_) fun _ _ e => e)
    obtain ⟨v, rfl, hq⟩ := z
    exact wpAny_pure hq
end
end Wb

set_option Elab.async false
set_option linter.all false
set_option maxRecDepth 100000
set_option maxHeartbeats 1000000
/-! == by an own __eq__, at the level of data -/
namespace Wb
open PySem PySem.Spec PyProof.Rows L2
/-! ### what == says -/
def flat3 : V → Bool
  | .non => true
  | .bl _ => true
  | .str s => PyData.strOk s
  | _ => false
def flatL (vs : List V) : Bool := vs.all flat3 && decide (vs.length ≤ 100)
/-- the one field of an instance: a tuple of plain things -/
def argsOf : List (Str × D) → Option (List V)
  | [(k, .tup xs)] => if k = Str.ofString "arguments" then (match vsOf xs with
    | some vs => if flatL vs = true then some vs else none
    | none => none) else none
  | _ => none
def bltD : D → Bool
  | .v .non => true
  | .v (.bl _) => true
  | .v (.int _) => true
  | .v (.str _) => true
  | .lst _ => true
  | .tup _ => true
  | _ => false
def eqIns (Cs : List Addr) (C : Addr) (fs : List (Str × D)) (y : D) : Option Bool := match y with
  | .ins C' gs => if C' ∈ Cs then (if C' = C then (match argsOf fs, argsOf gs with
    | some vs, some ws => some (decide (vs = ws))
    | _, _ => none) else some false) else none
  | y => if bltD y = true then some false else none
def eqPs (Cs : List Addr) : List D → List D → Option Bool
  | [], [] => some true
  | .ins C fs :: r, y :: r' => if C ∈ Cs then (match y with
    | .ins C' gs => (match eqIns Cs C fs (.ins C' gs), eqPs Cs r r' with
      | some b, some c => some (b && c)
      | _, _ => none)
    | _ => none) else none
  | [], _ :: _ => some false
  | _ :: _, [] => some false
  | _, _ => none
def eqO (Cs : List Addr) (x y : D) : Option Bool := match x with
  | .ins C fs => if C ∈ Cs then eqIns Cs C fs y else none
  | .lst xs => (match y with
    | .ins C fs => if C ∈ Cs then eqIns Cs C fs x else none
    | .lst ys => eqPs Cs xs ys
    | _ => none)
  | x => match y with
    | .ins C fs => if C ∈ Cs then eqIns Cs C fs x else none
    | _ => none
/-- what an own __eq__ promises -/
def spEqO (Cs : List Addr) (C : Addr) : Sp3 := fun ds μ Q E => match ds with
  | [.ins C' fs, y] => C' = C ∧ wSome (eqIns Cs C fs y) fun b => Q (.v (.bl b)) μ
  | _ => False
def bltT : List String := ["NoneType", "bool", "int", "str", "list", "tuple"]
/-- what the class has for == -/
structure OwnE (K : PySem.W.Frag) (C f : Addr) (Cs : List Addr) : Prop where
  eq : PySem.W.findIn K (.ref C) "__eq__" = some (some (.ref f))
  fn : PySem.W.isFn K (.ref f) = true
  nf : ∀ t ∈ bltT, PySem.W.notFirst K C (.type t) = true
  mr : ∀ t ∈ bltT, PySem.W.mroIn K C (.type t) = some false
  no : ∀ c ∈ Cs, PySem.W.notFirst K C (.ref c) = true
  ne : PySem.W.findIn K (.ref C) "__ne__" = some (some (.builtin "object.__ne__"))
  mo : PySem.W.mroIn K C (.type "object") = some true
def OwnOK (P : Program) (w : World) (K : PySem.W.Frag) (mg : Str → Option Value) (base : Heap) (n : Nat) (Cs : List Addr) (C : Addr) : Prop :=
  ∃ (f : Addr) (fd : FuncData) (ps : List Str), OwnE K C f Cs ∧ FnOk P w K mg base CX0 n f fd ps (lift K (spEqO Cs C)) ∧ Binds K fd ps []
/-! ### the rules -/
def Stay (X : Cx) (K : PySem.W.Frag) (pins : List (Addr × Obj)) (σ : L2.St) (w : Wo) (s' : Shared) : Prop := ∃ w', Inv X pins σ w'.hp s' ∧ Rep K w' ∧ Lt w w' ∧ w'.mu = w.mu
def tyE : D → Value
  | .v .non => .type "NoneType"
  | .v (.bl _) => .type "bool"
  | .v (.int _) => .type "int"
  | .v (.str _) => .type "str"
  | .lst _ => .type "list"
  | .ls _ => .type "list"
  | .tup _ => .type "tuple"
  | .ins C _ => .ref C
  | _ => .none
section
variable {X : Cx} {K : PySem.W.Frag} {pins : List (Addr × Obj)} {σ : L2.St} {w : Wo} {s : Shared} {A : Around} {n : Nat} {Cs : List Addr}
theorem ins_at (I : Inv X pins σ w.hp s) {v : V} {C : Addr} {fs : List (Str × D)} (r : w.rv K v (.ins C fs)) : ∃ (a dx : Addr) (fv : List (Str × V)) (od : Obj), v = .ref a ∧ w.vis a = some (.ins C dx fv) ∧ RvP K w.al w.mu.length w.vis fv fs ∧ s.heap.get? a = some (PySem.W.instObj C dx) ∧ PySem.W.InstAt s.heap a (PySem.W.instObj C dx) C (some od) := by
  cases r with
  | @ins a C dx fv ds hs hl h =>
    obtain ⟨mA, J, _⟩ := ins_get I.hok (vis_le w _ _ hs)
    obtain ⟨od, J'⟩ := J.look
    exact ⟨a, dx, fv, od, rfl, hs, ⟨hl, h⟩, J'.1.at_, J'.1⟩
theorem tyIs_keeps {s s' : Shared} {v : Value} {T : String} (h : s.TypeIs v T) (k : ∀ b o, s.heap.get? b = some o → s'.heap.get? b = some o) : s'.TypeIs v T := by
  cases v with
  | ref a =>
    obtain ⟨o, ho, hc⟩ := h
    exact ⟨o, k _ _ ho, hc⟩
  | _ => exact h
theorem ty_look (hK : X.K = K) (I : Inv X pins σ w.hp s) {v : V} {d : D} {u : Value} (r : w.rv K v d) (ru : RelV v u) (e : bltD d = true) : ∃ T, T ∈ bltT ∧ tyE d = .type T ∧ s.TypeIs u T := by
  subst hK
  cases r with
  | v =>
    cases v with
    | non => cases (show u = Value.none from ru); exact ⟨"NoneType", by decide, rfl, rfl⟩
    | bl b => cases (show u = Value.bool b from ru); exact ⟨"bool", by decide, rfl, rfl⟩
    | int i => obtain ⟨t, rfl⟩ := ru; exact ⟨"int", by decide, rfl, rfl⟩
    | str i => obtain ⟨t, rfl⟩ := ru; exact ⟨"str", by decide, rfl, rfl⟩
    | _ => cases e
  | lst hs hl h =>
    cases ru
    obtain ⟨_, its, k, _, g⟩ := I.hok _ _ (vis_le w _ _ hs)
    exact ⟨"list", by decide, rfl, _, g, rfl⟩
  | ls hs hl h =>
    cases ru
    obtain ⟨its, _, p, _⟩ := I.list (ex_l (vis_le w) hs)
    exact ⟨"list", by decide, rfl, p.isList.typeIs⟩
  | tup hs hl h =>
    cases ru
    obtain ⟨its, _, p, _⟩ := I.tuple (ex_t (vis_le w) hs)
    obtain ⟨o, ho, hc, _⟩ := p
    exact ⟨"tuple", by decide, rfl, _, ho, hc⟩
  | _ => cases e
theorem own_call (hK : X.K = K) {C f : Addr} {fd : FuncData} {ps : List Str} {x y : V} {dy : D} {fs : List (Str × D)} {u v : Value} {b : Bool} (F : FnOk X.prog X.w K X.mg X.base CX0 n f fd ps (lift K (spEqO Cs C))) (hb : Binds K fd ps []) (sb : Sub X n A)
    (I : Inv X pins σ w.hp s) (R : Rep K w) (rx : w.rv K x (.ins C fs)) (ry : w.rv K y dy) (ux : RelV x u) (uy : RelV y v) (h : eqIns Cs C fs dy = some b) : wpAny (model X.prog X.w) A (call (.ref f) [u, v]) (fun r s' => r = .bool b ∧ Stay X K pins σ w s') X.xe s := by
  subst hK
  have hsp : lift X.K (spEqO Cs C) [x, y] w.hp (fun z H' => z = .bl b ∧ ∃ w', w'.hp = H' ∧ Rep X.K w' ∧ Lt w w' ∧ w'.mu = w.mu) E0 :=
    ⟨w, [.ins C fs, dy], fun d μ' => d = .v (.bl b) ∧ μ' = w.mu, E03, rfl, R, .cons rx (.cons ry .nil), ⟨rfl, by rw [h]; exact ⟨rfl, rfl⟩⟩, fun w' z d L R' r q => by
      obtain ⟨rfl, q2⟩ := q
      cases r
      exact ⟨rfl, w', rfl, R', L, q2⟩, fun _ _ _ _ _ _ _ _ z => z.elim⟩
  have e0 : Env0 X.prog X.w X.K X.mg X.base A X.stack s w.hp := by
    have e := I.env0
    exact ⟨by rw [sb.fr]; exact e.frames, e.mod, e.bs, e.bsz, e.funs, e.frf, e.hok, e.bare⟩
  have hl := F.len _ _ _ _ hsp
  have r2 : Vals [x, y] [u, v] := .cons ux (.cons uy .nil)
  refine wpAny_call (codeAny_mono (F.run A X.stack s w.hp ⟨[u, v], []⟩ [u, v] [x, y] _ _ sb.room e0 (by
    have := hb s [u, v] I.kIn (by simpa using hl)
    simpa using this) r2 hsp) fun r s' hq => ?_)
  cases r with
  | error e => exact hq.elim
  | ok fl =>
    cases fl with
    | ret z =>
      obtain ⟨zv, H', I', rz, ez, w', rfl, R', L, hm⟩ := I.after hq
      subst ez
      cases rz
      exact ⟨rfl, w', I', R', L, hm⟩
    | next => exact False.elim hq
    | brk => exact False.elim hq
    | cont => exact False.elim hq
/-- an instance ahead -/
theorem own_left (hK : X.K = K) {C : Addr} {x y : V} {dy : D} {fs : List (Str × D)} {u v : Value} {b : Bool} (O : OwnOK X.prog X.w K X.mg X.base n Cs C) (sb : Sub X n A)
    (I : Inv X pins σ w.hp s) (R : Rep K w) (rx : w.rv K x (.ins C fs)) (ry : w.rv K y dy) (ux : RelV x u) (uy : RelV y v) (h : eqIns Cs C fs dy = some b) : wpAny (model X.prog X.w) A (richCompare .Eq u v) (fun r s' => r = .bool b ∧ Stay X K pins σ w s') X.xe s := by
  obtain ⟨f, fd, ps, O, F, hb⟩ := O
  have hc := own_call hK F hb sb I R rx ry ux uy h
  obtain ⟨a, dx, fv, od, rfl, _, _, _, J⟩ := ins_at I rx
  cases (show u = Value.ref a from ux)
  obtain ⟨m, hF⟩ := I.fr
  have hy : ∃ t, PySem.W.Looks (model X.prog X.w) s.heap (typeOf v) t ∧ PySem.W.notFirst K C t = true := by
    unfold eqIns at h
    split at h
    · rename_i C' gs
      split at h
      · rename_i hm
        obtain ⟨a', dx', fv', od', rfl, _, _, _, J'⟩ := ins_at I ry
        cases (show v = Value.ref a' from uy)
        exact ⟨_, J'.type, O.no _ hm⟩
      · cases h
    · split at h
      · rename_i hbl
        obtain ⟨T, m, _, ht⟩ := ty_look hK I ry uy hbl
        exact ⟨.type T, fun A Q E s' k q => wpAny_typeOf (s := s') (tyIs_keeps ht k) q, O.nf T m⟩
      · cases h
  obtain ⟨t, ht, hn⟩ := hy
  subst hK
  refine PySem.W.cmp_K (op := .Eq) (tb := t) sb.room.units0 hF I.ok.mod.kin J ht hn O.eq O.fn (wpAny_mono hc (fun r s' q => ?_) fun _ _ x => x)
  obtain ⟨rfl, q⟩ := q
  exact ⟨rfl, q⟩
/-- a built-in thing ahead -/
theorem own_right (hK : X.K = K) {C : Addr} {x y : V} {dx : D} {fs : List (Str × D)} {u v : Value} {b : Bool} (O : OwnOK X.prog X.w K X.mg X.base n Cs C) (sb : Sub X n A)
    (I : Inv X pins σ w.hp s) (R : Rep K w) (rx : w.rv K x dx) (ry : w.rv K y (.ins C fs)) (ux : RelV x u) (uy : RelV y v) (hd : bltD dx = true) (h : eqIns Cs C fs dx = some b) : wpAny (model X.prog X.w) A (richCompare .Eq u v) (fun r s' => r = .bool b ∧ Stay X K pins σ w s') X.xe s := by
  obtain ⟨f, fd, ps, O, Fo, hb⟩ := O
  have hc := own_call hK Fo hb sb I R ry rx uy ux h
  obtain ⟨a, dx', fv, od, rfl, _, _, hobj, J⟩ := ins_at I ry
  cases (show v = Value.ref a from uy)
  have XK : K.In s.heap := hK ▸ I.kIn
  have hq : wpAny (model X.prog X.w) A (call (.ref f) [.ref a, u]) (PySem.W.CmpBack fun r s' => r = .bool b ∧ Stay X K pins σ w s') X.xe s := wpAny_mono hc (fun r s' q => by
    obtain ⟨rfl, q⟩ := q
    exact ⟨rfl, q⟩) fun _ _ x => x
  have hu := sb.room.units0
  subst hK
  cases rx with
  | v =>
    cases x with
    | non =>
      cases (show u = Value.none from ux)
      exact refl_K (T := "NoneType") hu XK J rfl (O.mr _ (by decide)) F.slot_NoneType_eq (fun q => dec_none q) O.eq O.fn hq
    | bl c =>
      cases (show u = Value.bool c from ux)
      exact refl_K (T := "bool") hu XK J rfl (O.mr _ (by decide)) F.slot_bool_eq (fun q => dec_bool hobj q) O.eq O.fn hq
    | int i =>
      obtain ⟨t, rfl⟩ := ux
      exact refl_K (T := "int") hu XK J rfl (O.mr _ (by decide)) F.slot_int_eq (fun q => dec_int hobj q) O.eq O.fn hq
    | str i =>
      obtain ⟨t, rfl⟩ := ux
      exact refl_K (T := "str") hu XK J rfl (O.mr _ (by decide)) F.slot_str_eq (fun q => dec_str hobj q) O.eq O.fn hq
    | _ => cases hd
  | lst hs hl h' =>
    cases ux
    obtain ⟨_, its, k, _, g⟩ := I.hok _ _ (vis_le w _ _ hs)
    exact refl_K (T := "list") hu XK J ⟨_, g, rfl⟩ (O.mr _ (by decide)) F.slot_list_eq (fun q => dec_list XK J (O.mr _ (by decide)) g rfl q) O.eq O.fn hq
  | ls hs hl h' =>
    cases ux
    obtain ⟨its, _, p, _⟩ := I.list (ex_l (vis_le w) hs)
    obtain ⟨o, ho, hcl, _⟩ := p.isList
    exact refl_K (T := "list") hu XK J ⟨_, ho, hcl⟩ (O.mr _ (by decide)) F.slot_list_eq (fun q => dec_list XK J (O.mr _ (by decide)) ho hcl q) O.eq O.fn hq
  | tup hs hl h' =>
    cases ux
    obtain ⟨its, _, p, _⟩ := I.tuple (ex_t (vis_le w) hs)
    obtain ⟨o, ho, hcl, _⟩ := p
    exact refl_K (T := "tuple") hu XK J ⟨_, ho, hcl⟩ (O.mr _ (by decide)) F.slot_tuple_eq (fun q => dec_tuple XK J (O.mr _ (by decide)) ho hcl q) O.eq O.fn hq
  | _ => cases hd
theorem argsOf_at {fs : List (Str × D)} {vs : List V} (e : argsOf fs = some vs) : ∃ k, fs = [(k, .tup (vs.map D.v))] ∧ flatL vs = true ∧ k = Str.ofString "arguments" := by
  unfold argsOf at e
  split at e
  · rename_i k xs
    split at e
    · rename_i hk
      split at e
      · rename_i vs' e2
        split at e
        · rename_i hf
          cases e
          exact ⟨k, by rw [vsOf_eq e2], hf, hk⟩
        · cases e
      · cases e
    · cases e
  · cases e
/-- an instance is equal to itself -/
theorem same_args (hK : X.K = K) (I : Inv X pins σ w.hp s) {fv : List (Str × V)} {fs gs : List (Str × D)} {vs ws : List V} (h1 : RvP K w.al w.mu.length w.vis fv fs) (h2 : RvP K w.al w.mu.length w.vis fv gs) (e1 : argsOf fs = some vs) (e2 : argsOf gs = some ws) : vs = ws := by
  subst hK
  obtain ⟨k, rfl, _⟩ := argsOf_at e1
  obtain ⟨k', rfl, _⟩ := argsOf_at e2
  have hl := congrArg List.length h1.keys
  simp only [List.length_map, List.length_cons, List.length_nil] at hl
  match fv, hl with
  | [(g, v)], _ =>
    have r1 := h1.at_ 0 v _ rfl rfl
    have r2 := h2.at_ 0 v _ rfl rfl
    cases r1 with
    | tup hs hn hh =>
      cases r2 with
      | tup hs' hn' hh' =>
        have a1 := RvL.vals_inv (⟨hn, hh⟩ : RvL X.K w.al w.mu.length w.vis _ (vs.map D.v))
        have a2 := RvL.vals_inv (⟨hn', hh'⟩ : RvL X.K w.al w.mu.length w.vis _ (ws.map D.v))
        subst a1; subst a2
        exact I.tuple_inj (ex_t (vis_le w) hs) (ex_t (vis_le w) hs')
theorem own_eqB (hK : X.K = K) {C C' : Addr} {x y : V} {fs gs : List (Str × D)} {u v : Value} {b : Bool} (O : OwnOK X.prog X.w K X.mg X.base n Cs C) (sb : Sub X n A)
    (I : Inv X pins σ w.hp s) (R : Rep K w) (rx : w.rv K x (.ins C fs)) (ry : w.rv K y (.ins C' gs)) (ux : RelV x u) (uy : RelV y v) (h : eqIns Cs C fs (.ins C' gs) = some b) : wpAny (model X.prog X.w) A (eqBool u v) (fun r s' => r = b ∧ Stay X K pins σ w s') X.xe s := by
  have hq := own_left hK O sb I R rx ry ux uy h
  obtain ⟨a, dx, fv, od, rfl, h1, h2, _, J⟩ := ins_at I rx
  obtain ⟨a', dx', fv', od', rfl, h1', h2', _, J'⟩ := ins_at I ry
  cases (show u = Value.ref a from ux)
  cases (show v = Value.ref a' from uy)
  by_cases hab : a = a'
  · subst hab
    rw [h1] at h1'
    cases h1'
    have hb : b = true := by
      unfold eqIns at h
      dsimp only at h
      split at h
      · rw [if_pos rfl] at h
        split at h
        · rename_i vs ws e1 e2
          cases h
          exact decide_eq_true (same_args hK I h2 h2' e1 e2)
        · cases h
      · cases h
    exact SeqAt.EqAt.same (A := A) (s := s) (.ref a) X.prog X.w X.xe _ ⟨hb.symm, w, I, R, .refl w, rfl⟩
  · refine GQ.eqBool_refG hab (wpAny_mono hq (fun r s' q => ?_) fun _ _ x => x)
    obtain ⟨rfl, q⟩ := q
    exact ⟨b, rfl, rfl, q⟩
theorem eqPs_at : ∀ {xs ys : List D} {b : Bool}, eqPs Cs xs ys = some b → (xs.length ≠ ys.length → b = false) ∧ (xs.length = ys.length → ∃ bs : Nat → Bool, (b = true ↔ ∀ j, j < xs.length → bs j = true) ∧
    ∀ i x y, xs[i]? = some x → ys[i]? = some y → ∃ C fs C' gs, x = .ins C fs ∧ y = .ins C' gs ∧ C ∈ Cs ∧ eqIns Cs C fs (.ins C' gs) = some (bs i))
  | [], [], b, e => by
    cases e
    exact ⟨fun h => absurd rfl h, fun _ => ⟨fun _ => true, ⟨fun _ j h => absurd h (Nat.not_lt_zero _), fun _ => rfl⟩, fun i x y h => by simp at h⟩⟩
  | [], _ :: _, b, e => by
    cases e
    exact ⟨fun _ => rfl, fun h => by simp at h⟩
  | x :: r, [], b, e => by
    have : b = false := by cases x <;> (unfold eqPs at e; cases e; rfl)
    exact ⟨fun _ => this, fun h => by simp at h⟩
  | x :: r, y :: r', b, e => by
    cases x with
    | ins C fs =>
      unfold eqPs at e
      split at e
      · rename_i hm
        cases y with
        | ins C' gs =>
          dsimp only at e
          split at e
          · rename_i b1 c h1 h2
            cases e
            obtain ⟨i1, i2⟩ := eqPs_at h2
            refine ⟨fun h => ?_, fun h => ?_⟩
            · rw [i1 fun z => h (by rw [List.length_cons, List.length_cons, z]), Bool.and_false]
            · obtain ⟨bs, k1, k2⟩ := i2 (by simpa using h)
              refine ⟨fun i => match i with | 0 => b1 | i + 1 => bs i, ⟨fun z j hj => ?_, fun z => ?_⟩, fun i x y a1 a2 => ?_⟩
              · rw [Bool.and_eq_true] at z
                cases j with
                | zero => exact z.1
                | succ j => exact k1.mp z.2 j (by simpa using hj)
              · rw [Bool.and_eq_true]
                exact ⟨z 0 (by simp), k1.mpr fun j hj => z (j + 1) (by simpa using hj)⟩
              · cases i with
                | zero =>
                  simp at a1 a2
                  subst a1; subst a2
                  exact ⟨C, fs, C', gs, rfl, rfl, hm, h1⟩
                | succ i => exact k2 i x y (by simpa using a1) (by simpa using a2)
          · cases e
        | _ => cases e
      · cases e
    | _ => cases e
theorem stay_list {a : Addr} {vs : List V} {ds : List D} {s' : Shared} (hs : w.vis a = some (.lst vs)) (r : w.rl K vs ds) (q : Stay X K pins σ w s') : ∃ (w' : Wo) (its : List Value) (k : Nat), Inv X pins σ w'.hp s' ∧ Rep K w' ∧ Lt w w' ∧ w'.mu = w.mu ∧ s'.heap.get? a = some { cls := .type "list", data := .seq its.toArray k } ∧ Vals vs its ∧ w'.rl K vs ds := by
  obtain ⟨w', I', R', L, hm⟩ := q
  obtain ⟨_, its, k, rv, g⟩ := I'.hok _ _ (vis_le w' _ _ (L.ex _ _ hs))
  exact ⟨w', its, k, I', R', L, hm, g, rv, L.rl r⟩
theorem Stay.trans {s1 s2 : Shared} {w1 : Wo} (L : Lt w w1) (hm : w1.mu = w.mu) (q : Stay X K pins σ w1 s2) : Stay X K pins σ w s2 := by
  obtain ⟨w', I', R', L', hm'⟩ := q
  exact ⟨w', I', R', L.trans L', hm'.trans hm⟩
/-- two lists of instances -/
theorem own_list (hK : X.K = K) {x y : V} {xs ys : List D} {u v : Value} {b : Bool} (ho : ∀ C ∈ Cs, OwnOK X.prog X.w K X.mg X.base n Cs C) (sb : Sub X (n + 1) A)
    (I : Inv X pins σ w.hp s) (R : Rep K w) (rx : w.rv K x (.lst xs)) (ry : w.rv K y (.lst ys)) (ux : RelV x u) (uy : RelV y v) (h : eqPs Cs xs ys = some b) : wpAny (model X.prog X.w) A (richCompare .Eq u v) (fun r s' => r = .bool b ∧ Stay X K pins σ w s') X.xe s := by
  cases rx with
  | @lst a vs _ hs hl hh =>
  cases ry with
  | @lst c us _ hs' hl' hh' =>
  cases (show u = Value.ref a from ux)
  cases (show v = Value.ref c from uy)
  have r1 : w.rl K vs xs := ⟨hl, hh⟩
  have r2 : w.rl K us ys := ⟨hl', hh'⟩
  obtain ⟨e1, e2⟩ := eqPs_at h
  have S0 : Stay X K pins σ w s := ⟨w, I, R, .refl w, rfl⟩
  by_cases hlen : xs.length = ys.length
  · obtain ⟨bs, b1, b2⟩ := e2 hlen
    refine rc_listB (N := xs.length) (bs := bs) sb.room.units0 (fun _ s' => Stay X K pins σ w s') (fun i s' q => ?_) (fun s' hj q => ⟨by rw [b1.mpr hj], q⟩) (fun i s' hi hbi q => ⟨?_, q⟩) S0
    · obtain ⟨w', its, k, I', R', L, hm, g, rv, rl⟩ := stay_list hs r1 q
      obtain ⟨_, its2, k2, _, _, _, _, g2, rv2, rl2⟩ := stay_list (w := w) hs' r2 ⟨w', I', R', L, hm⟩
      refine ⟨its.toArray, its2.toArray, k, k2, g, g2, by rw [List.size_toArray, ← rv.length, hl], by rw [List.size_toArray, ← rv2.length, hl', hlen], fun h1 h2 => ?_⟩
      have k1 : i < vs.length := by rw [rv.length]; simpa using h1
      have k2' : i < us.length := by rw [rv2.length]; simpa using h2
      obtain ⟨p, hp, rp⟩ := rv.get (List.getElem?_eq_getElem k1)
      obtain ⟨p2, hp2, rp2⟩ := rv2.get (List.getElem?_eq_getElem k2')
      have i1 : i < xs.length := by omega
      have i2 : i < ys.length := by omega
      obtain ⟨C, fs, C', gs, q1, q2, hC, he⟩ := b2 i xs[i] ys[i] (List.getElem?_eq_getElem i1) (List.getElem?_eq_getElem i2)
      have t1 := r1.at_ i vs[i] xs[i] (List.getElem?_eq_getElem k1) (List.getElem?_eq_getElem i1)
      have t2 := r2.at_ i us[i] ys[i] (List.getElem?_eq_getElem k2') (List.getElem?_eq_getElem i2)
      rw [q1] at t1; rw [q2] at t2
      have g1 : its.toArray[i] = p := by
        have h1' : i < its.length := by simpa using h1
        have : its[i]? = some its[i] := List.getElem?_eq_getElem h1'
        rw [this] at hp
        simpa using Option.some.inj hp
      have g2' : its2.toArray[i] = p2 := by
        have h2' : i < its2.length := by simpa using h2
        have : its2[i]? = some its2[i] := List.getElem?_eq_getElem h2'
        rw [this] at hp2
        simpa using Option.some.inj hp2
      rw [g1, g2']
      refine wpAny_mono (own_eqB hK (ho C hC) sb.in1 I' R' (L.rv t1) (L.rv t2) rp rp2 he) (fun r s2 q => ?_) fun _ _ x => x
      exact ⟨q.1, q.2.trans (s1 := s') L hm⟩
    · cases b with
      | false => rfl
      | true => rw [b1.mp rfl i hi] at hbi; cases hbi
  · have hb := e1 hlen
    subst hb
    obtain ⟨_, its, k, rv, g⟩ := I.hok _ _ (vis_le w _ _ hs)
    obtain ⟨_, its2, k2, rv2, g2⟩ := I.hok _ _ (vis_le w _ _ hs')
    exact rc_listN sb.room.units0 g g2 (by rw [List.size_toArray, List.size_toArray, ← rv.length, ← rv2.length]; omega) ⟨rfl, S0⟩
/-- != of two instances -/
theorem own_ne (hK : X.K = K) {C : Addr} {x y : V} {dy : D} {fs : List (Str × D)} {u v : Value} {b : Bool} (O : OwnOK X.prog X.w K X.mg X.base n Cs C) (sb : Sub X (n + 1) A)
    (I : Inv X pins σ w.hp s) (R : Rep K w) (rx : w.rv K x (.ins C fs)) (ry : w.rv K y dy) (ux : RelV x u) (uy : RelV y v) (hd : ∃ C' gs, dy = .ins C' gs ∧ C' ∈ Cs) (h : eqIns Cs C fs dy = some b) : wpAny (model X.prog X.w) A (richCompare .NotEq u v) (fun r s' => r = .bool (!b) ∧ Stay X K pins σ w s') X.xe s := by
  obtain ⟨f, fd, ps, O, Fo, hb⟩ := O
  have hc := own_call hK Fo hb sb.in1 I R rx ry ux uy h
  obtain ⟨a, dx, fv, od, rfl, _, _, _, J⟩ := ins_at I rx
  cases (show u = Value.ref a from ux)
  obtain ⟨m, hF⟩ := I.fr
  obtain ⟨C', gs, rfl, hm⟩ := hd
  obtain ⟨a', dx', fv', od', rfl, _, _, _, J'⟩ := ins_at I ry
  cases (show v = Value.ref a' from uy)
  have hu := sb.room.un
  subst hK
  refine ne_K (by omega) hF I.ok.mod.kin J J'.type (O.no _ hm) O.ne O.mo O.eq O.fn (wpAny_mono hc (fun r s' q => ?_) fun _ _ x => x)
  obtain ⟨rfl, q⟩ := q
  exact ⟨b, rfl, rfl, q⟩
end
/-! ### the operators -/
def rOwnE (K : PySem.W.Frag) (Cs : List Addr) (neg : Bool) : R2 := fun x y H Q => ∃ (w : Wo) (dx dy : D) (b : Bool), w.hp = H ∧ Rep K w ∧ w.rv K x dx ∧ w.rv K y dy ∧ eqO Cs dx dy = some b ∧ (neg = true → (∃ C fs, dx = .ins C fs ∧ C ∈ Cs) ∧ ∃ C fs, dy = .ins C fs ∧ C ∈ Cs) ∧ ∀ w', Lt w w' → Rep K w' → w'.mu = w.mu → Q (.bl (neg ^^ b)) w'.hp
section
variable {X : Cx} {K : PySem.W.Frag} {n : Nat} {Cs : List Addr}
theorem stay_ep {pins : List (Addr × Obj)} {σ : L2.St} {w : Wo} {s' : Shared} {Q : VK} {b : Bool} (S : Stay X K pins σ w s') (q : ∀ w', Lt w w' → Rep K w' → w'.mu = w.mu → Q (.bl b) w'.hp) : EP X pins σ Q (.bool b) s' := by
  obtain ⟨w', I', R', L, hm⟩ := S
  exact ⟨.bl b, w'.hp, I', rfl, q w' L R' hm⟩
theorem op_ownE (hK : X.K = K) (ho : ∀ C ∈ Cs, OwnOK X.prog X.w K X.mg X.base n Cs C) (hr : Room (n + 1) X.A) : OpR X (compareOp .Eq) (rOwnE K Cs false) := by
  intro pins s σ H x y v u Q I rx ry h
  obtain ⟨w, dx, dy, b, rfl, R, r1, r2, e, _, q⟩ := h
  have sb : Sub X (n + 1) X.A := ⟨hr, rfl⟩
  have sb0 : Sub X n X.A := ⟨hr.mono (Nat.le_succ n), rfl⟩
  have fin : ∀ (r : Value) s', r = .bool b ∧ Stay X K pins σ w s' → EP X pins σ Q r s' := fun r s' z => by
    obtain ⟨rfl, S⟩ := z
    exact stay_ep S fun w' a b' c => by
      have := q w' a b' c
      rwa [Bool.false_xor] at this
  show wpAny (model X.prog X.w) X.A (richCompare .Eq v u) (EP X pins σ Q) X.xe s
  have left : ∀ C fs, dx = .ins C fs → wpAny (model X.prog X.w) X.A (richCompare .Eq v u) (EP X pins σ Q) X.xe s := fun C fs ed => by
    subst ed
    unfold eqO at e
    dsimp only at e
    split at e
    · rename_i hm
      exact wpAny_mono (own_left hK (ho C hm) sb0 I R r1 r2 rx ry e) fin fun _ _ z => z
    · cases e
  have right : ∀ C fs, dy = .ins C fs → bltD dx = true → C ∈ Cs → eqIns Cs C fs dx = some b → wpAny (model X.prog X.w) X.A (richCompare .Eq v u) (EP X pins σ Q) X.xe s := fun C fs ed hd hm he => by
    subst ed
    exact wpAny_mono (own_right hK (ho C hm) sb0 I R r1 r2 rx ry hd he) fin fun _ _ z => z
  have blt : ∀ {C : Addr} {fs : List (Str × D)}, (∀ C' gs, dx ≠ .ins C' gs) → eqIns Cs C fs dx = some b → bltD dx = true := fun {C fs} hn he => by
    unfold eqIns at he
    split at he
    · exact absurd rfl (hn _ _)
    · split at he
      · rename_i hb; exact hb
      · cases he
  cases dx with
  | ins C fs => exact left C fs rfl
  | lst xs =>
    cases dy with
    | ins C fs =>
      unfold eqO at e
      dsimp only at e
      split at e
      · rename_i hm
        exact right C fs rfl rfl hm e
      · cases e
    | lst ys => exact wpAny_mono (own_list hK ho sb I R r1 r2 rx ry e) fin fun _ _ z => z
    | _ => cases e
  | _ =>
    cases dy with
    | ins C fs =>
      unfold eqO at e
      dsimp only at e
      split at e
      · rename_i hm
        exact right C fs rfl (blt (fun _ _ z => nomatch z) e) hm e
      · cases e
    | _ => cases e
theorem op_ownNe (hK : X.K = K) (ho : ∀ C ∈ Cs, OwnOK X.prog X.w K X.mg X.base n Cs C) (hr : Room (n + 1) X.A) : OpR X (compareOp .NotEq) (rOwnE K Cs true) := by
  intro pins s σ H x y v u Q I rx ry h
  obtain ⟨w, dx, dy, b, rfl, R, r1, r2, e, hn, q⟩ := h
  obtain ⟨⟨C, fs, rfl, hC⟩, C', gs, rfl, hC'⟩ := hn rfl
  show wpAny (model X.prog X.w) X.A (richCompare .NotEq v u) (EP X pins σ Q) X.xe s
  unfold eqO at e
  dsimp only at e
  rw [if_pos hC] at e
  refine wpAny_mono (own_ne hK (ho C hC) ⟨hr, rfl⟩ I R r1 r2 rx ry ⟨C', gs, rfl, hC'⟩ e) (fun r s' z => ?_) fun _ _ z => z
  obtain ⟨rfl, S⟩ := z
  exact stay_ep S fun w' a b' c => by
    have := q w' a b' c
    rwa [Bool.true_xor] at this
/-- x in [y], two instances -/
def rOwnIn (K : PySem.W.Frag) (Cs : List Addr) : R2 := fun x y H Q => ∃ (w : Wo) (C C' : Addr) (fs gs : List (Str × D)) (b : Bool), w.hp = H ∧ Rep K w ∧ w.rv K x (.ins C fs) ∧ w.rv K y (.lst [.ins C' gs]) ∧ C' ∈ Cs ∧ eqIns Cs C' gs (.ins C fs) = some b ∧ ∀ w', Lt w w' → Rep K w' → w'.mu = w.mu → Q (.bl b) w'.hp
theorem op_ownIn (hK : X.K = K) (ho : ∀ C ∈ Cs, OwnOK X.prog X.w K X.mg X.base n Cs C) (hr : Room (n + 1) X.A) : OpR X (compareOp .In) (rOwnIn K Cs) := by
  intro pins s σ H x y v u Q I rx ry h
  obtain ⟨w, C, C', fs, gs, b, rfl, R, r1, r2, hC, e, q⟩ := h
  have sb : Sub X (n + 1) X.A := ⟨hr, rfl⟩
  cases r2 with
  | @lst a vs _ hs hl hh =>
  cases (show u = Value.ref a from ry)
  obtain ⟨_, its, k, rv, g⟩ := I.hok _ _ (vis_le w _ _ hs)
  have hl1 : vs.length = 1 := hl
  match vs, hl1 with
  | [z], _ =>
  have rz : w.rv K z (.ins C' gs) := hh 0 z _ rfl rfl
  cases rv with
  | @cons _ p _ its rp rt =>
  cases rt
  refine in_one g (y := p) rfl (wpAny_mono (own_eqB hK (ho C' hC) sb.in1 I R rz r1 rp rx e) (fun r s' z => ?_) fun _ _ z => z)
  obtain ⟨rfl, S⟩ := z
  obtain ⟨w', its', k', I', R', L, hm, g', rv', _⟩ := stay_list hs ⟨hl, hh⟩ S
  refine ⟨⟨its'.toArray, k', g', ?_⟩, stay_ep S q⟩
  have : its'.length = 1 := by rw [← rv'.length]; rfl
  rw [List.getElem?_toArray]
  exact List.getElem?_eq_none (by omega)
end
/-! ### at the level of data -/
def oOwnE (Cs : List Addr) : R3 := fun x y μ Q => wSome (eqO Cs x y) fun b => Q (.v (.bl b)) μ
def oOwnNe (Cs : List Addr) : R3 := fun x y μ Q => match x, y with
  | .ins C fs, .ins C' gs => C ∈ Cs ∧ C' ∈ Cs ∧ wSome (eqIns Cs C fs (.ins C' gs)) fun b => Q (.v (.bl (!b))) μ
  | _, _ => False
def oOwnIn (Cs : List Addr) : R3 := fun x y μ Q => match x, y with
  | .ins C fs, .lst [.ins C' gs] => C' ∈ Cs ∧ wSome (eqIns Cs C' gs (.ins C fs)) fun b => Q (.v (.bl b)) μ
  | _, _ => False
section
variable {K : PySem.W.Frag} {I : Pre} {Cs : List Addr}
theorem r_ownE : SR K I (rOwnE K Cs false) (oOwnE Cs) := fun w x y dx dy Q Q3 R _ rx ry h q => by
  obtain ⟨b, e, h⟩ := wSome_at h
  exact ⟨w, dx, dy, b, rfl, R, rx, ry, e, nofun, fun w' L R' hm => q w' _ _ L R' (by rw [Bool.false_xor]; exact .v _) (by rw [hm]; exact h)⟩
theorem r_ownNe : SR K I (rOwnE K Cs true) (oOwnNe Cs) := fun w x y dx dy Q Q3 R _ rx ry h q => by
  unfold oOwnNe at h
  split at h
  · rename_i C fs C' gs
    obtain ⟨hC, hC', h⟩ := h
    obtain ⟨b, e, h⟩ := wSome_at h
    refine ⟨w, _, _, b, rfl, R, rx, ry, ?_, fun _ => ⟨⟨C, fs, rfl, hC⟩, C', gs, rfl, hC'⟩, fun w' L R' hm => q w' _ _ L R' (by rw [Bool.true_xor]; exact .v _) (by rw [hm]; exact h)⟩
    unfold eqO
    dsimp only
    rw [if_pos hC]; exact e
  · exact h.elim
theorem r_ownIn : SR K I (rOwnIn K Cs) (oOwnIn Cs) := fun w x y dx dy Q Q3 R _ rx ry h q => by
  unfold oOwnIn at h
  split at h
  · rename_i C fs C' gs
    obtain ⟨hC', h⟩ := h
    obtain ⟨b, e, h⟩ := wSome_at h
    exact ⟨w, C, C', fs, gs, b, rfl, R, rx, ry, hC', e, fun w' L R' hm => q w' _ _ L R' (.v _) (by rw [hm]; exact h)⟩
  · exact h.elim
end
end Wb

set_option Elab.async false
set_option linter.all false
set_option maxRecDepth 100000
set_option maxHeartbeats 1000000
/-! repr by an own __repr__ -/
namespace Wb
open PySem PySem.Spec PyProof.Rows L2
open Builtin Builtin.List
section
variable {prog : Program} {w : World} {A : Around} {E : Value → Shared → Prop} {s : Shared} {K : PySem.W.Frag} {x C f : Addr} {ox : Obj} {od : Option Obj}
/-- an instance's text, within a list's -/
theorem reprUnder_K {b : Nat} {Q : Str → Shared → Prop} (hb : b ≤ sizeLine) (hu : A.units < cLine) (X : K.In s.heap) (I : PySem.W.InstAt s.heap x ox C od) (hs : PySem.W.findIn K (.ref C) "__repr__" = some (some (.ref f))) (hf : PySem.W.isFn K (.ref f) = true)
    (h : wpAny (model prog w) A (call (.ref f) [.ref x]) (fun v s' => ∃ t u, v = .str t u ∧ Q t s') E s) : wpAny (model prog w) A (pyReprUnder b (.ref x)) Q E s := by
  refine wpAny_pyReprUnder_ref hb ?_
  unfold pyReprObjUnder pyReprObjBy
  refine wpAny_bind (wpAny_cRoomFor hu ?_)
  refine wpAny_bind (wpAny_bind (I.type.here ((PySem.W.looks_findIn X hs).here ?_)))
  show wpAny _ _ (if (some (Value.ref f)).isNone = true then _ else _) _ _ _
  rw [if_neg (by simp)]
  have h1 : wpAny (model prog w) A (callSpecialIfBoundBy? (fun g first => match reprUnder? g, first with
    | some twin, [self] => call twin [self, rawInt b]
    | _, _ => call g (first ++ [])) (.ref x) "__repr__") (fun r s' => ∃ t u, r = some (.str t u) ∧ Q t s') E s := by
    simp only [callSpecialIfBoundBy?, bindSpecialIfBound?]
    refine wpAny_holding (wpAny_bind (wpAny_bind (wpAny_bind (I.type.here ((PySem.W.looks_findIn X hs).here ?_)))))
    refine wpAny_bind (wpAny_askSetting (wpAny_ite ?_))
    have fin : wpAny (model prog w) A (call (.ref f) ([.ref x] ++ []) >>= fun v => pure (some v)) (fun r s' => ∃ t u, r = some (.str t u) ∧ Q t s') E s := wpAny_bind (wpAny_mono h (fun v s' h' => by
      obtain ⟨t, u, rfl, q⟩ := h'
      exact wpAny_pure ⟨t, u, rfl, q⟩) fun _ _ h' => h')
    split
    · exact wpAny_bind ((PySem.W.bind_fn X _ (beq_iff_eq.mp hf)).here (wpAny_pure (by exact fin)))
    · exact wpAny_tryCatch (wpAny_bind ((PySem.W.bind_fn X _ (beq_iff_eq.mp hf)).here (wpAny_pure (by exact fin))))
  refine wpAny_bind (wpAny_mono h1 (fun r s' hr => ?_) fun _ _ e => e)
  obtain ⟨t, u, rfl, q⟩ := hr
  exact wpAny_bind (wpAny_isInstance (T := "str") (b := true) rfl isSubtype_str_str (wpAny_pure ⟨t, u, rfl, q⟩))
end
/-! ### the list's loop, whatever the items' repr does besides -/
section
variable {X : Cx} {K : PySem.W.Frag} {pins : List (Addr × Obj)} {σ : L2.St} {w : Wo}
structure PartOk (X : Cx) (pins : List (Addr × Obj)) (P : Addr) : Prop where
  loc : P ≠ X.env.locals
  fs : P ∉ X.fs
  new : X.s_0.heap.objs.size ≤ P
  cell : ∀ x c, X.env.cells.lookup x = some c → c ≠ P
  pin : ∀ p ∈ X.pn ++ pins, p.1 ≠ P
def partObj (acc : Array Value) (c : Nat) : Obj := { cls := .type "list", dict := none, data := .seq acc c, slots := #[] }
/-- between two items -/
def LJ (X : Cx) (K : PySem.W.Frag) (pins : List (Addr × Obj)) (σ : L2.St) (w : Wo) (P : Addr) (acc : Array Value) (s' : Shared) : Prop :=
  ∃ w' c, Inv X pins σ w'.hp s' ∧ Rep K w' ∧ Lt w w' ∧ w'.mu = w.mu ∧ w'.hp P = none ∧ s'.heap.get? P = some (partObj acc c)
/-- one item's text -/
def ItemR (X : Cx) (K : PySem.W.Frag) (n : Nat) (v : V) (d : D) (t : Str) : Prop :=
  ∀ (A : Around) (pins : List (Addr × Obj)) (σ : L2.St) (w : Wo) (s : Shared) (u : Value) (base : Nat), Sub X n A → Inv X pins σ w.hp s → Rep K w → w.rv K v d → RelV v u → base ≤ sizeLine →
    wpAny (model X.prog X.w) A (pyReprUnder base u) (fun r s' => r = t ∧ Stay X K pins σ w s') X.xe s
theorem sub_under {n : Nat} {A : Around} (sb : Sub X (n + 1) A) (args : Args) : Sub X n (A.under (.builtin "list.__repr__.loop" args)) := by
  refine ⟨⟨?_, ?_, ?_⟩, ?_⟩
  · exact sb.room.hd
  · have := sb.room.dp
    have e1 : (Code.builtin "list.__repr__.loop" args).weight = 0 + 0 + (if (Code.builtin "list.__repr__.loop" args).isGuard then 1 else 0) + 0 := rfl
    have e2 : (A.under (.builtin "list.__repr__.loop" args)).depth = A.depth + (Code.builtin "list.__repr__.loop" args).weight := rfl
    have e3 : (Code.builtin "list.__repr__.loop" args).weight ≤ 1 := by rw [e1]; split <;> omega
    rw [e2]; omega
  · have := sb.room.un
    rw [units_under_list_loop]; omega
  · rw [← sb.fr]
    first | rfl | simp [Around.under, Code.envs, Code.isFrame, pushEnvs]
theorem LJ.stay {P : Addr} {acc : Array Value} {s : Shared} (q : LJ X K pins σ w P acc s) : Stay X K pins σ w s := let ⟨w', _, I, R, L, m, _, _⟩ := q; ⟨w', I, R, L, m⟩
theorem partObj_nc (acc : Array Value) (c : Nat) (v : Option Value) : (partObj acc c).data ≠ .cell v := fun e => by cases e
theorem repr_loopD {n : Nat} {A : Around} (sb : Sub X (n + 1) A) {a P : Addr} {vs : List V} {ds : List D} {ts : List Str} {b : Nat} {R : Result → Shared → Prop} (po : PartOk X pins P) (hs : w.vis a = some (.lst vs)) (rl : w.rl K vs ds) (hlen : ts.length = ds.length)
    (hT : ∀ (i : Nat) (v : V) (d : D) (t : Str), vs[i]? = some v → ds[i]? = some d → ts[i]? = some t → ItemR X K n v d t) (hsz : b + (listText ts).length ≤ sizeLine) (hE : ∀ e s', X.xe e s' → R (.error e) s') (hR : ∀ u s', Stay X K pins σ w s' → R (.ok (.ret (.str (listText ts) u))) s') :
    ∀ (k i : Nat) (s : Shared) (acc : Array Value) (done : List (Str × Tok)), ds.length - i = k → i ≤ ds.length → LJ X K pins σ w P acc s → acc.toList = strValues done → done.map (·.1) = ts.take i →
    codeAny (model X.prog X.w) A (.builtin "list.__repr__.loop" ⟨[.ref a, rawInt i, .ref P, rawInt ((b + piled (ts.take i) : Nat) : Int)], []⟩) R s := by
  have hL := textFrom_len ts 0 "["
  have hX : (listText ts).length = (textFrom 0 "[" ts).length + 1 := by
    show (textFrom 0 "[" ts ++ "]").length = _
    rw [strLen_append]; rfl
  have hsz1 : ds.length ≤ sizeLine := by
    have h1 := hL.1
    rw [if_neg (Nat.lt_irrefl 0)] at h1
    omega
  have hsz2 : ∀ t ∈ ts, t.length ≤ sizeLine := fun t ht => by
    have h2 := hL.2.1 t ht
    omega
  have hsz3 : (listText ts).length ≤ sizeLine := by omega
  have hp3 := piled_le_listText ts
  have hlv : vs.length = ds.length := rl.len
  intro k
  induction k with
  | zero =>
    intro i s acc done hk hi J hacc hdone
    have hS := J.stay
    obtain ⟨w', its, k', I', R', L, hm, hg, rv, rl'⟩ := stay_list hs rl J.stay
    obtain ⟨_, c, _, _, _, _, _, hP⟩ := J
    have hin : i = its.length := by rw [← rv.length, hlv]; omega
    refine codeAny_builtin F.entry_list_repr_loop (wpAny_mono (E := X.xe) ?_ (fun _ _ x => x) fun e s' x => hE e s' x)
    show wpAny _ _ (Builtin.«list.__repr__.loop» ⟨[.ref a, .int i 0, .ref P, .int ((b + piled (ts.take i) : Nat) : Int) 0], []⟩) _ _ s
    rw [repr_loop_tree]
    refine wpAny_bind (wpAny_listItems hg rfl ?_)
    have hnone : its.toArray[(i : Int).toNat]? = none := by simp [hin]
    simp only [hnone]
    unfold reprEnd
    refine wpAny_bind (wpAny_listItems hP rfl ?_)
    rw [hacc, repr_fold]
    refine wpAny_bind (wpAny_pure ?_)
    have hall : done.map (·.1) = ts := by rw [hdone, hin, ← rv.length, hlv, ← hlen, List.take_length]
    rw [hall]
    refine wpAny_bind (wpAny_mkStr (wpAny_pure ?_) hsz3)
    obtain ⟨w2, I2, R2, L2, m2⟩ := hS
    exact hR _ _ ⟨w2, I2.tok _, R2, L2, m2⟩
  | succ k ih =>
    intro i s acc done hk hi J hacc hdone
    have hlt : i < ds.length := by omega
    obtain ⟨w', c, I', R', L, hm, hP0, hP⟩ := J
    obtain ⟨_, its, k', rv, hg⟩ := I'.hok _ _ (vis_le w' _ _ (L.ex _ _ hs))
    have hli : i < its.length := by rw [← rv.length, hlv]; exact hlt
    have hlt1 : i < ts.length := by omega
    have hlv1 : i < vs.length := by omega
    have ht : ts[i]? = some ts[i] := List.getElem?_eq_getElem hlt1
    obtain ⟨p, hp, rp⟩ := rv.get (List.getElem?_eq_getElem hlv1)
    have rd := rl.at_ i vs[i] ds[i] (List.getElem?_eq_getElem hlv1) (List.getElem?_eq_getElem hlt)
    have hrep := hT i vs[i] ds[i] ts[i] (List.getElem?_eq_getElem hlv1) (List.getElem?_eq_getElem hlt) ht
    have hp1 := piled_take_succ ht
    have hp2 := piled_take_le ts (i + 1)
    have I2 : Inv X ((P, partObj acc c) :: pins) σ w'.hp s := I'.pins_of fun q hq => by
      rcases List.mem_cons.mp hq with rfl | hq
      · exact ⟨hP, hP0, po.loc, po.fs, partObj_nc _ _⟩
      · exact I'.pin q (List.mem_append_right _ hq)
    refine codeAny_builtin F.entry_list_repr_loop (wpAny_mono (E := X.xe) ?_ (fun _ _ x => x) fun e s' x => hE e s' x)
    show wpAny _ _ (Builtin.«list.__repr__.loop» ⟨[.ref a, .int i 0, .ref P, .int ((b + piled (ts.take i) : Nat) : Int) 0], []⟩) _ _ s
    rw [repr_loop_tree]
    refine wpAny_bind (wpAny_listItems hg rfl ?_)
    have hsome : its.toArray[(i : Int).toNat]? = some p := by simpa using hp
    simp only [hsome]
    rw [Int.toNat_natCast]
    refine wpAny_bind (wpAny_holding (wpAny_mono (hrep _ ((P, partObj acc c) :: pins) σ w' s p (b + piled (ts.take i) + 1) (sub_under sb _) I2 R' (L.rv rd) rp (by omega)) (fun r s2 h2 => ?_) fun _ _ x => x))
    obtain ⟨rfl, w2, I3, R3, L3, m3⟩ := h2
    obtain ⟨hP2, hP3, _⟩ := I3.pin (P, partObj acc c) (List.mem_append_right _ (List.mem_cons_self ..))
    refine wpAny_bind (wpAny_mkStr ?_ (hsz2 _ (List.mem_of_getElem? ht)))
    refine wpAny_bind ?_
    show wpAny _ _ (updateSeq P _) _ _ _
    have hasz : acc.size ≤ sizeLine := by
      have e1 : acc.toList.length = acc.size := by simp
      have e2 : (strValues done).length = done.length := by simp [strValues]
      have e3 : done.length = (ts.take i).length := by rw [← hdone, List.length_map]
      have e4 : (ts.take i).length ≤ i := by rw [List.length_take]; omega
      rw [hacc] at e1; omega
    refine wpAny_updateSeq hP2 rfl (wpAny_pure ⟨F.quiet_list_repr_loop _, ?_⟩) hasz
    have e1 : ((i : Int) + 1) = ((i + 1 : Nat) : Int) := by omega
    have e2 : b + piled (ts.take i) + (ts[i].length + 2) = b + piled (ts.take (i + 1)) := by omega
    rw [e1, e2]
    have I4 : Inv X pins σ w2.hp s2 := I3.pins_of fun q hq => I3.pin q (List.mem_append_right _ (List.mem_cons_of_mem _ hq))
    refine ih (i + 1) _ (acc.push (.str ts[i] s2.toks)) (done ++ [(ts[i], s2.toks)]) (by omega) hlt ?_ (by rw [Array.toList_push, hacc]; unfold strValues; rw [List.map_append]; rfl) (by rw [List.map_append, hdone, List.take_add_one, ht]; rfl)
    refine ⟨w2, _, I4.turned (fun b o hb e => (Heap.get?_update_other _ _ (fun h : P = b => hb h.symm)).trans e) hP3 po.loc (.inr po.new) po.cell po.pin, R3, L.trans L3, m3.trans hm, hP3, Heap.get?_update_self _ hP2 rfl⟩
end
/-! ### what repr says -/
def shF : V → Str
  | .str x => reprText x
  | .bl b => if b then "True" else "False"
  | _ => "None"
def insText (nm : Str) (vs : List V) : Str := nm ++ "(" ++ Str.join ", " (vs.map shF) ++ ")"
def insSh (Cs : List (Addr × Str)) : D → Option Str
  | .ins C fs => match Cs.lookup C, argsOf fs with
    | some nm, some vs => some (insText nm vs)
    | _, _ => none
  | _ => none
def insShs (Cs : List (Addr × Str)) : List D → Option (List Str)
  | [] => some []
  | d :: r => match insSh Cs d, insShs Cs r with
    | some t, some ts => some (t :: ts)
    | _, _ => none
def shO (Cs : List (Addr × Str)) : D → Option Str
  | .lst (d :: r) => (insShs Cs (d :: r)).map listText
  | d => insSh Cs d
theorem insShs_at {Cs : List (Addr × Str)} : ∀ {ds : List D} {ts : List Str}, insShs Cs ds = some ts → ts.length = ds.length ∧ ∀ (i : Nat) (d : D) (t : Str), ds[i]? = some d → ts[i]? = some t → insSh Cs d = some t
  | [], ts, e => by cases e; exact ⟨rfl, fun i d t h => by simp at h⟩
  | d :: r, ts, e => by
    unfold insShs at e
    split at e
    · rename_i t ts' h1 h2
      cases e
      obtain ⟨a, b⟩ := insShs_at h2
      refine ⟨by simp [a], fun i d' t' p q => ?_⟩
      cases i with
      | zero => simp at p q; subst p; subst q; exact h1
      | succ i => exact b i d' t' (by simpa using p) (by simpa using q)
    · cases e
/-- what an own __repr__ promises -/
def spReprO (C : Addr) (nm : Str) : Sp3 := fun ds μ Q E => match ds with
  | [.ins C' fs] => C' = C ∧ wSome (argsOf fs) fun vs => (insText nm vs).length ≤ sizeLine ∧ Q (.v (.str (insText nm vs))) μ
  | _ => False
structure OwnR (K : PySem.W.Frag) (C f : Addr) : Prop where
  rp : PySem.W.findIn K (.ref C) "__repr__" = some (some (.ref f))
  fn : PySem.W.isFn K (.ref f) = true
def OwnRK (P : Program) (w : World) (K : PySem.W.Frag) (mg : Str → Option Value) (base : Heap) (n : Nat) (C : Addr) (nm : Str) : Prop :=
  ∃ (f : Addr) (fd : FuncData) (ps : List Str), OwnR K C f ∧ FnOk P w K mg base CX0 n f fd ps (lift K (spReprO C nm)) ∧ Binds K fd ps []
section
variable {X : Cx} {K : PySem.W.Frag} {pins : List (Addr × Obj)} {σ : L2.St} {w : Wo} {s : Shared} {A : Around} {n : Nat} {Cs : List (Addr × Str)}
theorem ownr_call (hK : X.K = K) {C f : Addr} {nm : Str} {fd : FuncData} {ps : List Str} {x : V} {fs : List (Str × D)} {u : Value} {vs : List V} (F : FnOk X.prog X.w K X.mg X.base CX0 n f fd ps (lift K (spReprO C nm))) (hb : Binds K fd ps []) (sb : Sub X n A)
    (I : Inv X pins σ w.hp s) (R : Rep K w) (rx : w.rv K x (.ins C fs)) (ux : RelV x u) (h : argsOf fs = some vs) (hsz : (insText nm vs).length ≤ sizeLine) : wpAny (model X.prog X.w) A (call (.ref f) [u]) (fun r s' => ∃ t k, r = .str t k ∧ t = insText nm vs ∧ Stay X K pins σ w s') X.xe s := by
  subst hK
  have hsp : lift X.K (spReprO C nm) [x] w.hp (fun z H' => z = .str (insText nm vs) ∧ ∃ w', w'.hp = H' ∧ Rep X.K w' ∧ Lt w w' ∧ w'.mu = w.mu) E0 :=
    ⟨w, [.ins C fs], fun d μ' => d = .v (.str (insText nm vs)) ∧ μ' = w.mu, E03, rfl, R, .cons rx .nil, ⟨rfl, by rw [h]; exact ⟨hsz, rfl, rfl⟩⟩, fun w' z d L R' r q => by
      obtain ⟨rfl, q2⟩ := q
      cases r
      exact ⟨rfl, w', rfl, R', L, q2⟩, fun _ _ _ _ _ _ _ _ z => z.elim⟩
  have e0 : Env0 X.prog X.w X.K X.mg X.base A X.stack s w.hp := by
    have e := I.env0
    exact ⟨by rw [sb.fr]; exact e.frames, e.mod, e.bs, e.bsz, e.funs, e.frf, e.hok, e.bare⟩
  have hl := F.len _ _ _ _ hsp
  have r2 : Vals [x] [u] := .cons ux .nil
  refine wpAny_call (codeAny_mono (F.run A X.stack s w.hp ⟨[u], []⟩ [u] [x] _ _ sb.room e0 (by
    have := hb s [u] I.kIn (by simpa using hl)
    simpa using this) r2 hsp) fun r s' hq => ?_)
  cases r with
  | error e => exact hq.elim
  | ok fl =>
    cases fl with
    | ret z =>
      obtain ⟨zv, H', I', rz, ez, w', rfl, R', L, hm⟩ := I.after hq
      subst ez
      obtain ⟨k, rfl⟩ := rz
      exact ⟨_, k, rfl, rfl, w', I', R', L, hm⟩
    | next => exact False.elim hq
    | brk => exact False.elim hq
    | cont => exact False.elim hq
theorem insSh_at {d : D} {t : Str} (e : insSh Cs d = some t) : ∃ C fs nm vs, d = .ins C fs ∧ Cs.lookup C = some nm ∧ argsOf fs = some vs ∧ t = insText nm vs := by
  cases d with
  | ins C fs =>
    unfold insSh at e
    dsimp only at e
    cases h1 : Cs.lookup C with
    | none => rw [h1] at e; cases e
    | some nm =>
      cases h2 : argsOf fs with
      | none => rw [h1, h2] at e; cases e
      | some vs =>
        rw [h1, h2] at e
        cases e
        exact ⟨C, fs, nm, vs, rfl, h1, h2, rfl⟩
  | _ => cases e
/-- an instance's text within a list -/
theorem item_ins (hK : X.K = K) (ho : ∀ C nm, Cs.lookup C = some nm → OwnRK X.prog X.w K X.mg X.base n C nm) {v : V} {d : D} {t : Str} (e : insSh Cs d = some t) (hsz : t.length ≤ sizeLine) : ItemR X K n v d t := by
  intro A pins σ w s u base sb I R rv ru hb
  obtain ⟨C, fs, nm, vs, rfl, h1, h2, rfl⟩ := insSh_at e
  obtain ⟨f, fd, ps, O, F, hbi⟩ := ho C nm h1
  have hc := ownr_call hK F hbi sb I R rv ru h2 hsz
  obtain ⟨a, dx, fv, od, rfl, _, _, _, J⟩ := ins_at I rv
  cases (show u = Value.ref a from ru)
  exact reprUnder_K hb sb.room.units0 (hK ▸ I.kIn) J O.rp O.fn (wpAny_mono hc (fun r s' q => by
    obtain ⟨t, k, rfl, rfl, S⟩ := q
    exact ⟨_, k, rfl, rfl, S⟩) fun _ _ x => x)
/-- repr(instance) -/
theorem call_ins (hK : X.K = K) (ho : ∀ C nm, Cs.lookup C = some nm → OwnRK X.prog X.w K X.mg X.base n C nm) (sb : Sub X (n + 1) A) {v : V} {d : D} {u : Value} {t : Str} (e : insSh Cs d = some t) (hsz : t.length ≤ sizeLine)
    (I : Inv X pins σ w.hp s) (R : Rep K w) (rv : w.rv K v d) (ru : RelV v u) : wpAny (model X.prog X.w) A (call (.builtin "repr") [u]) (fun r s' => ∃ k, r = .str t k ∧ Stay X K pins σ w s') X.xe s := by
  obtain ⟨C, fs, nm, vs, rfl, h1, h2, rfl⟩ := insSh_at e
  obtain ⟨f, fd, ps, O, F, hbi⟩ := ho C nm h1
  have hc := ownr_call hK F hbi sb.in1 I R rv ru h2 hsz
  obtain ⟨a, dx, fv, od, rfl, _, _, _, J⟩ := ins_at I rv
  cases (show u = Value.ref a from ru)
  obtain ⟨m, hF⟩ := I.fr
  subst hK
  exact PySem.W.repr_K (sb.in1.room.units0) hF I.ok.mod.kin J O.rp O.fn (wpAny_mono hc (fun r s' q => by
    obtain ⟨t, k, rfl, rfl, S⟩ := q
    exact ⟨k, rfl, S⟩) fun _ _ x => x)
/-- repr(list of instances) -/
theorem call_insL (hK : X.K = K) (hg : A.guards = some []) (ho : ∀ C nm, Cs.lookup C = some nm → OwnRK X.prog X.w K X.mg X.base n C nm) (sb : Sub X (n + 2) A) {v : V} {d : D} {r : List D} {u : Value} {ts : List Str} (e : insShs Cs (d :: r) = some ts) (hsz : (listText ts).length ≤ sizeLine)
    (I : Inv X pins σ w.hp s) (R : Rep K w) (rv : w.rv K v (.lst (d :: r))) (ru : RelV v u) : wpAny (model X.prog X.w) A (call (.builtin "repr") [u]) (fun r s' => ∃ k, r = .str (listText ts) k ∧ Stay X K pins σ w s') X.xe s := by
  cases rv with
  | @lst a vs _ hs hl hh =>
  cases (show u = Value.ref a from ru)
  obtain ⟨el, ea⟩ := insShs_at e
  obtain ⟨_, its, k, rvs, g⟩ := I.hok _ _ (vis_le w _ _ hs)
  have hne : ∃ x l, its = x :: l := by
    cases its with
    | nil => rw [rvs.length] at hl; simp at hl
    | cons x l => exact ⟨x, l, rfl⟩
  obtain ⟨x, l, rfl⟩ := hne
  have hTy : s.TypeIs (.ref a) "list" := ⟨_, g, rfl⟩
  have hu : A.in1.units < cLine := (sb.in1 (n := n + 1)).room.units0
  have hu2 : A.in1.units < cLine := hu
  have hL := textFrom_len ts 0 "["
  have hX : (listText ts).length = (textFrom 0 "[" ts).length + 1 := by
    show (textFrom 0 "[" ts ++ "]").length = _
    rw [strLen_append]; rfl
  refine Calls.call_function_entry F.kind_repr F.plain_repr F.entry_repr (F.args_repr1 _) ?_
  unfold Builtin.«repr»
  refine wpAny_bind (m := oneArg "repr" _) (wpAny_pure ?_)
  refine wpAny_bind (wpAny_cRoomFor hu ?_)
  refine wpAny_bind (wpAny_specialOf (name := Str.ofString "__repr__") hTy F.slot_list_repr.lookup ?_)
  refine wpAny_bind (m := callSpecialIfBound? (.ref a) (Str.ofString "__repr__")) (wpAny_callSpecialIfBound?_slot (name := Str.ofString "__repr__") hTy F.slot_list_repr ?_)
  refine wpAny_call (codeAny_call_builtin F.slot_list_repr.plain F.entry_list_repr (F.slot_list_repr.check _ _ _ _ _ _ _ _ hTy (F.args_list_repr_1 _) ?_))
  refine wpAny_list_repr_head (A := A.in1.in1) (n := k) (l := l) (x := x) (g := []) (b := 0) hg (fun v rest kw hm => absurd hm List.not_mem_nil) g rfl ?_
  refine wpAny_bind (m := newList []) (wpAny_newObj_type ?_)
  refine wpAny_pure ⟨F.quiet_list_repr_loop _, ?_⟩
  have keep : ∀ (c : Nat) b o, s.heap.get? b = some o → (s.heap.push { cls := .type "list", dict := none, data := .seq #[] c, slots := #[] }).get? b = some o := fun c b o e => Heap.get?_push_of_some _ e
  have po : PartOk X pins s.heap.objs.size := ⟨(Nat.ne_of_lt I.lt).symm, I.nofs (Nat.le_refl _), I.sz, fun x c e => by
    obtain ⟨v, o, ho, _⟩ := I.cell x c e
    exact Nat.ne_of_lt (Heap.lt_size ho), fun p hp => Nat.ne_of_lt (Heap.lt_size (I.pin p hp).1)⟩
  have hloop := repr_loopD (R := fun r s' => match r with
      | Except.ok (Flow.ret v) => wpAny (model X.prog X.w) A.in1 (match some v with
          | some r => do
            let b ← isInstance r (Value.type "str")
            if b = true then ret r
              else do
                rule "repr.not-str"
                let nm ← typeNameOf r
                raiseErrorMade "TypeError" (toString "__repr__ returned non-string (type " ++ toString nm ++ toString ")")
          | x => unsupported "repr:special-get-raises") (fun fin s' => ∃ v, fin = Fin.done (Flow.ret v) ∧ ∃ k, v = Value.str (listText ts) k ∧ Stay X K pins σ w s') X.xe s'
      | Except.ok a => False
      | Except.error e => X.xe e s') (b := 0) (sb.in1 (n := n + 1)) po hs (⟨hl, hh⟩ : w.rl K vs (d :: r)) el (fun i v d' t h1 h2 h3 => item_ins hK ho (ea i d' t h2 h3) (by
        have := hL.2.1 t (List.mem_of_getElem? h3)
        omega)) (by omega) (fun e s' h => h) (fun u s' S => ?_) (d :: r).length 0 { s with heap := s.heap.push { cls := .type "list", dict := none, data := .seq #[] 0, slots := #[] } } #[] [] (by omega) (Nat.zero_le _)
        ⟨w, 0, I.kept (keep 0), R, .refl w, rfl, I.hok.fresh (Nat.le_refl _), Heap.get?_push_size _ rfl⟩ rfl rfl
  · exact hloop
  · exact wpAny_bind (wpAny_isInstance (T := "str") (b := true) rfl isSubtype_str_str (wpAny_pure ⟨_, rfl, u, rfl, S⟩))
def rReprO (K : PySem.W.Frag) (Cs : List (Addr × Str)) : List V → Hp → VK → Prop := fun xs H Q => ∃ (w : Wo) (v : V) (d : D) (t : Str), xs = [v] ∧ w.hp = H ∧ Rep K w ∧ w.rv K v d ∧ shO Cs d = some t ∧ t.length ≤ sizeLine ∧ ∀ w', Lt w w' → Rep K w' → w'.mu = w.mu → Q (.str t) w'.hp
theorem call_reprO (hK : X.K = K) (hG : X.A.guards = some []) (ho : ∀ C nm, Cs.lookup C = some nm → OwnRK X.prog X.w K X.mg X.base n C nm) (hr : Room (n + 2) X.A) : CallR X (.builtin "repr") (rReprO K Cs) := by
  intro pins s σ H xs us Q I r h
  obtain ⟨w, v, d, t, rfl, rfl, R, rv, e, hsz, q⟩ := h
  have sb : Sub X (n + 2) X.A := ⟨hr, rfl⟩
  cases r with
  | cons rx rr =>
    cases rr
    have fin : ∀ (z : Value) s', (∃ k, z = .str t k ∧ Stay X K pins σ w s') → EP X pins σ Q z s' := fun z s' hz => by
      obtain ⟨k, rfl, w', I', R', L, hm⟩ := hz
      exact ⟨.str t, w'.hp, I', ⟨k, rfl⟩, q w' L R' hm⟩
    have one : insSh Cs d = some t → wpAny (model X.prog X.w) X.A (call (.builtin "repr") [_]) (EP X pins σ Q) X.xe s := fun e => wpAny_mono (call_ins hK ho (sb.mono (by omega)) e hsz I R rv rx) fin fun _ _ z => z
    cases d with
    | lst ds =>
      cases ds with
      | nil => exact one e
      | cons d r =>
        unfold shO at e
        cases h1 : insShs Cs (d :: r) with
        | none => dsimp only at e; rw [h1] at e; cases e
        | some ts =>
          dsimp only at e
          rw [h1] at e; cases e
          exact wpAny_mono (call_insL hK hG ho sb h1 hsz I R rv rx) fin fun _ _ z => z
    | _ => exact one e
/-- repr of a plain thing -/
def rReprF : List V → Hp → VK → Prop := fun xs H Q => ∃ v, xs = [v] ∧ flat3 v = true ∧ (shF v).length ≤ sizeLine ∧ Q (.str (shF v)) H
theorem call_reprF : CallR X (.builtin "repr") rReprF := by
  intro pins s σ H xs us Q I r h
  obtain ⟨v, rfl, hf, hsz, q⟩ := h
  cases r with
  | cons rx rr =>
    cases rr
    cases v with
    | str x =>
      obtain ⟨t, rfl⟩ := rx
      exact P.repr_of_str (h := ⟨.str (reprText x), H, I.tok _, ⟨_, rfl⟩, q⟩) (hsz := hsz)
    | bl b =>
      cases rx
      exact P.repr_of_bool (h := ⟨.str (if b then "True" else "False"), H, I.tok _, ⟨_, rfl⟩, q⟩)
    | non =>
      cases rx
      exact P.repr_of_none (h := ⟨.str "None", H, I.tok _, ⟨_, rfl⟩, q⟩)
    | _ => cases hf
end
/-! ### at the level of data -/
def cReprO (Cs : List (Addr × Str)) : C3 := fun ds μ Q => w1 ds fun d => wSome (shO Cs d) fun t => t.length ≤ sizeLine ∧ Q (.v (.str t)) μ
def cReprF : C3 := fun ds μ Q => w1 ds fun d => match d with
  | .v v => flat3 v = true ∧ (shF v).length ≤ sizeLine ∧ Q (.v (.str (shF v))) μ
  | _ => False
section
variable {K : PySem.W.Frag} {I : Pre} {Cs : List (Addr × Str)}
theorem c_reprO : SC K I (rReprO K Cs) (cReprO Cs) := fun w vs ds Q Q3 R _ r h q => by
  obtain ⟨v, d, rfl, rfl, rv, h⟩ := w1_at r h
  obtain ⟨t, e, hsz, h⟩ := wSome_at h
  exact ⟨w, v, d, t, rfl, rfl, R, rv, e, hsz, fun w' L R' hm => q w' _ _ L R' (.v _) (by rw [hm]; exact h)⟩
theorem c_reprF : SC K I rReprF cReprF := fun w vs ds Q Q3 R _ r h q => by
  obtain ⟨v, d, rfl, rfl, rv, h⟩ := w1_at r h
  cases rv with
  | v =>
    obtain ⟨h1, h2, h3⟩ := h
    exact ⟨_, rfl, h1, h2, q w _ _ (.refl w) R (.v _) h3⟩
  | _ => exact h.elim
end
/-! ### texts with things set in -/
def eFmt (e : E3) : E3 := fun s μ Q => e s μ fun d μ1 => match d with
  | .v (.str y) => y.length ≤ 16777216 ∧ Q (.v (.str y)) μ1
  | _ => False
def eJs : List E3 → Str → St3 → Mu → (Str → Mu → Prop) → Prop
  | [], acc, _, μ, Q => Q acc μ
  | e :: es, acc, s, μ, Q => e s μ fun d μ1 => match d with
    | .v (.str y) => (acc ++ y).length ≤ 16777216 ∧ eJs es (acc ++ y) s μ1 Q
    | _ => False
def eJoin (es : List E3) : E3 := fun s μ Q => eJs es Str.empty s μ fun t μ1 => Q (.v (.str t)) μ1
inductive SJs (K : PySem.W.Frag) (I : Pre) : List TE → List E3 → Prop where
  | nil : SJs K I [] []
  | cons {t : TE} {e : E3} {ts : List TE} {es : List E3} (h : SE K I t e) (r : SJs K I ts es) : SJs K I (t :: ts) (e :: es)
section
variable {K : PySem.W.Frag} {I : Pre}
theorem s_fmt {t : TE} {e : E3} (h : SE K I t e) : SE K I (tFmt t) (eFmt e) := fun w σ s Q Q3 hS he q => by
  refine h w σ s _ _ hS he fun w1 v d L R1 rv g => ?_
  cases rv with
  | v =>
    cases v with
    | str y =>
      obtain ⟨h1, h2⟩ := g
      exact .inl ⟨y, rfl, by rw [sizeLine_eq]; exact h1, q w1 _ _ L R1 (.v _) h2⟩
    | _ => exact g.elim
  | _ => exact g.elim
theorem sjs_run {ts : List TE} {es : List E3} (h : SJs K I ts es) : ∀ (acc : Str) (w : Wo) (σ : L2.St) (s : St3) (Q : Str → Hp → Prop) (Q3 : Str → Mu → Prop), Sr K I w σ s → eJs es acc s w.mu Q3 → (∀ w' t, Lt w w' → Rep K w' → Q3 t w'.mu → Q t w'.hp) → tJs ts acc σ w.hp Q := by
  induction h with
  | nil => exact fun acc w σ s Q Q3 hS he q => q w acc (.refl w) hS.rep he
  | @cons t e ts es h r ih =>
    intro acc w σ s Q Q3 hS he q
    refine h w σ s _ _ hS he fun w1 v d L R1 rv g => ?_
    cases rv with
    | v =>
      cases v with
      | str y =>
        obtain ⟨h1, h2⟩ := g
        exact ⟨y, rfl, by rw [sizeLine_eq]; exact h1, ih (acc ++ y) w1 σ s Q Q3 (hS.to L R1) h2 fun w' t L' => q w' t (L.trans L')⟩
      | _ => exact g.elim
    | _ => exact g.elim
theorem s_join {ts : List TE} {es : List E3} (h : SJs K I ts es) : SE K I (fun σ H Q => tJs ts Str.empty σ H fun out H1 => Q (.str out) H1) (eJoin es) := fun w σ s Q Q3 hS he q =>
  sjs_run h Str.empty w σ s _ _ hS he fun w' t L R' h' => q w' _ _ L R' (.v _) h'
end
end Wb

set_option Elab.async false
set_option linter.all false
set_option maxRecDepth 100000
set_option maxHeartbeats 1000000
/-! instances with plain arguments: ==, repr; names, abouts that are right -/
namespace Wb
open PySem PySem.Spec PyProof.Rows L2
open TL (tl)
/-! ### == of plain things -/
def pvV : V → PyData
  | .bl b => .bool b
  | .str s => .str s
  | _ => .none
theorem pd_flat : ∀ {vs : List V}, vs.all flat3 = true → pdL (vs.map D.v) = some (vs.map pvV)
  | [], _ => by simp [pdL]
  | v :: r, h => by
    rw [List.all_cons, Bool.and_eq_true] at h
    rw [List.map_cons, pdL, pd_flat h.2]
    cases v with
    | non => rfl
    | bl b => rfl
    | str s => rfl
    | _ => cases h.1
theorem eqv_flat1 {a b : V} (ha : flat3 a = true) (hb : flat3 b = true) : PyData.eqv (pvV a) (pvV b) = decide (a = b) := by
  cases a <;> first | cases ha | skip
  all_goals cases b <;> first | cases hb | skip
  all_goals simp [pvV, PyData.eqv]
  all_goals (rw [Bool.eq_iff_iff, beq_iff_eq, decide_eq_true_eq])
theorem eqv_flat : ∀ {vs ws : List V}, vs.all flat3 = true → ws.all flat3 = true → PyData.eqvAll (vs.map pvV) (ws.map pvV) = decide (vs = ws)
  | [], [], _, _ => by simp [PyData.eqvAll]
  | [], _ :: _, _, _ => by simp [PyData.eqvAll]
  | _ :: _, [], _, _ => by simp [PyData.eqvAll]
  | v :: r, w :: q, h, k => by
    rw [List.all_cons, Bool.and_eq_true] at h k
    rw [List.map_cons, List.map_cons, PyData.eqvAll, eqv_flat1 h.1 k.1, eqv_flat h.2 k.2, Bool.eq_iff_iff]
    simp
theorem lay_flat : ∀ {vs : List V}, vs.all flat3 = true → PyData.canLayAll0 (vs.map pvV) = true
  | [], _ => rfl
  | v :: r, h => by
    rw [List.all_cons, Bool.and_eq_true] at h
    rw [List.map_cons]
    show (PyData.canLay0 (pvV v) && PyData.canLayAll0 (r.map pvV)) = true
    rw [lay_flat h.2]
    cases v with
    | non => rfl
    | bl b => rfl
    | str s => exact (Bool.and_true _).trans h.1
    | _ => cases h.1
theorem depth_flat : ∀ vs : List V, PyData.depthAll (vs.map pvV) = 0
  | [] => rfl
  | v :: r => by
    rw [List.map_cons]
    show max (PyData.depth (pvV v)) (PyData.depthAll (r.map pvV)) = 0
    rw [depth_flat r]
    cases v <;> rfl
theorem shaped_flatL {vs : List V} (h : vs.all flat3 = true) : SeqAt.shaped (.list (vs.map pvV)) = true := by
  unfold SeqAt.shaped
  rw [show PyData.canLay0 (.list (vs.map pvV)) = true from lay_flat h, show PyData.depth (.list (vs.map pvV)) = PyData.depthAll (vs.map pvV) + 1 from by simp [PyData.depth, Nat.add_comm], depth_flat]
  rfl
theorem shaped_flatT {vs : List V} (h : vs.all flat3 = true) : SeqAt.shaped (.tuple (vs.map pvV)) = true := by
  unfold SeqAt.shaped
  rw [show PyData.canLay0 (.tuple (vs.map pvV)) = true from lay_flat h, show PyData.depth (.tuple (vs.map pvV)) = PyData.depthAll (vs.map pvV) + 1 from by simp [PyData.depth, Nat.add_comm], depth_flat]
  rfl
/-- two tuples, two lists of plain things compared -/
theorem eq_flatT {μ : Mu} {vs ws : List V} {k : Bool → Prop} (h : vs.all flat3 = true) (h' : ws.all flat3 = true) (q : k (decide (vs = ws))) :
    wSome (pdM μ (.tup (vs.map D.v))) fun p => wSome (pdM μ (.tup (ws.map D.v))) fun r => SeqAt.shaped p = true ∧ SeqAt.shaped r = true ∧ k (PyData.eqv p r) := by
  have e1 : pdM μ (.tup (vs.map D.v)) = some (.tuple (vs.map pvV)) := by show (pdL _).map _ = _; rw [pd_flat h]; rfl
  have e2 : pdM μ (.tup (ws.map D.v)) = some (.tuple (ws.map pvV)) := by show (pdL _).map _ = _; rw [pd_flat h']; rfl
  rw [e1, e2]
  exact ⟨shaped_flatT h, shaped_flatT h', by rw [PyData.eqv, eqv_flat h h']; exact q⟩
theorem eq_flatL {μ : Mu} {vs ws : List V} {k : Bool → Prop} (h : vs.all flat3 = true) (h' : ws.all flat3 = true) (q : k (decide (vs = ws))) :
    wSome (pdM μ (.lst (vs.map D.v))) fun p => wSome (pdM μ (.lst (ws.map D.v))) fun r => SeqAt.shaped p = true ∧ SeqAt.shaped r = true ∧ k (PyData.eqv p r) := by
  have e1 : pdM μ (.lst (vs.map D.v)) = some (.list (vs.map pvV)) := by show (pdL _).map _ = _; rw [pd_flat h]; rfl
  have e2 : pdM μ (.lst (ws.map D.v)) = some (.list (ws.map pvV)) := by show (pdL _).map _ = _; rw [pd_flat h']; rfl
  rw [e1, e2]
  exact ⟨shaped_flatL h, shaped_flatL h', by rw [PyData.eqv, eqv_flat h h']; exact q⟩
/-! ### instances -/
def insD (C : Addr) (vs : List V) : D := .ins C [(Str.ofString "arguments", .tup (vs.map D.v))]
theorem vsOf_dv (vs : List V) : vsOf (vs.map D.v) = some vs := by
  have := vsOf_map (f := id) vs
  simpa using this
theorem flatL_all {vs : List V} (h : flatL vs = true) : vs.all flat3 = true := by
  unfold flatL at h
  rw [Bool.and_eq_true] at h
  exact h.1
theorem flatL_len {vs : List V} (h : flatL vs = true) : vs.length ≤ 100 := by
  unfold flatL at h
  rw [Bool.and_eq_true] at h
  exact of_decide_eq_true h.2
theorem argsOf_ins {vs : List V} (h : flatL vs = true) : argsOf [(Str.ofString "arguments", D.tup (vs.map D.v))] = some vs := by
  unfold argsOf
  dsimp only
  rw [if_pos rfl, vsOf_dv]
  simp [h]
theorem eqIns_same {Cs : List Addr} {C : Addr} (hC : C ∈ Cs) {vs ws : List V} (h : flatL vs = true) (h' : flatL ws = true) : eqIns Cs C [(Str.ofString "arguments", .tup (vs.map D.v))] (insD C ws) = some (decide (vs = ws)) := by
  unfold eqIns insD
  simp only [hC, if_true, argsOf_ins h, argsOf_ins h']
theorem eqIns_other {Cs : List Addr} {C C' : Addr} (hC : C' ∈ Cs) (hn : C' ≠ C) {vs ws : List V} : eqIns Cs C [(Str.ofString "arguments", .tup (vs.map D.v))] (insD C' ws) = some false := by
  unfold eqIns insD
  simp only [hC, if_true, hn, if_false]
theorem eqIns_blt {Cs : List Addr} {C : Addr} {fs : List (Str × D)} {y : D} (h : bltD y = true) : eqIns Cs C fs y = some false := by
  unfold eqIns
  split
  · cases h
  · rw [if_pos h]
theorem eqO_ins {Cs : List Addr} {C : Addr} (hC : C ∈ Cs) {vs : List V} (y : D) : eqO Cs (insD C vs) y = eqIns Cs C [(Str.ofString "arguments", .tup (vs.map D.v))] y := by
  unfold eqO insD
  simp only [hC, if_true]
theorem eqO_blt {Cs : List Addr} {C : Addr} (hC : C ∈ Cs) {vs : List V} {x : D} (h : bltD x = true) : eqO Cs x (insD C vs) = some false := by
  have e := eqIns_blt (Cs := Cs) (C := C) (fs := [(Str.ofString "arguments", .tup (vs.map D.v))]) h
  cases x with
  | ins => cases h
  | o => cases h
  | dic => cases h
  | fnc => cases h
  | lst xs => show (if C ∈ Cs then _ else _) = _; rw [if_pos hC]; exact e
  | v xs => show (if C ∈ Cs then _ else _) = _; rw [if_pos hC]; exact e
  | ls xs => show (if C ∈ Cs then _ else _) = _; rw [if_pos hC]; exact e
  | tup xs => show (if C ∈ Cs then _ else _) = _; rw [if_pos hC]; exact e
theorem eqPs_same {Cs : List Addr} : ∀ {xs : List D}, (∀ x ∈ xs, ∃ C vs, x = insD C vs ∧ C ∈ Cs ∧ flatL vs = true) → eqPs Cs xs xs = some true
  | [], _ => rfl
  | x :: r, h => by
    obtain ⟨C, vs, rfl, hC, hf⟩ := h x (List.mem_cons_self ..)
    have e := eqIns_same hC hf hf
    rw [decide_eq_true rfl] at e
    show (if C ∈ Cs then (match eqIns Cs C [(Str.ofString "arguments", .tup (vs.map D.v))] (insD C vs), eqPs Cs r r with
      | some b, some c => some (b && c)
      | _, _ => none) else none) = _
    rw [if_pos hC, e, eqPs_same fun y hy => h y (List.mem_cons_of_mem _ hy)]
    rfl
theorem eqPs_one {Cs : List Addr} {C : Addr} (hC : C ∈ Cs) {vs ws : List V} (h : flatL vs = true) (h' : flatL ws = true) : eqPs Cs [insD C vs] [insD C ws] = some (decide (vs = ws)) := by
  show (if C ∈ Cs then (match eqIns Cs C [(Str.ofString "arguments", .tup (vs.map D.v))] (insD C ws), some true with
      | some b, some c => some (b && c)
      | _, _ => none) else none) = _
  rw [if_pos hC, eqIns_same hC h h']
  simp
theorem shO_ins {Cs : List (Addr × Str)} {C : Addr} {nm : Str} {vs : List V} (hl : Cs.lookup C = some nm) (h : flatL vs = true) : shO Cs (insD C vs) = some (insText nm vs) := by
  show (match Cs.lookup C, argsOf [(Str.ofString "arguments", D.tup (vs.map D.v))] with
    | some nm, some vs => some (insText nm vs)
    | _, _ => none) = _
  rw [hl, argsOf_ins h]
theorem shO_two {Cs : List (Addr × Str)} {C : Addr} {nm : Str} {vs ws : List V} (hl : Cs.lookup C = some nm) (h : flatL vs = true) (h' : flatL ws = true) : shO Cs (.lst [insD C vs, insD C ws]) = some (listText [insText nm vs, insText nm ws]) := by
  have e1 : insSh Cs (insD C vs) = some (insText nm vs) := shO_ins hl h
  have e2 : insSh Cs (insD C ws) = some (insText nm ws) := shO_ins hl h'
  show (match insSh Cs (insD C vs), (match insSh Cs (insD C ws), some ([] : List Str) with
    | some t, some ts => some (t :: ts)
    | _, _ => none) with
    | some t, some ts => some (t :: ts)
    | _, _ => none).map listText = _
  rw [e1, e2]
  rfl
/-! ### how a text is shown -/
section
open PySem.Builtin PySem.Builtin.Str
theorem tl_repr (x : Str) : tl (reprText x) = reprQuote x :: ((tl x).flatMap (reprChar (reprQuote x)) ++ [reprQuote x]) := by
  have key : ∀ (q : Nat) (l : List Nat) (acc : Array Nat), (l.foldl (fun out c => out ++ (reprChar q c).toArray) acc).toList = acc.toList ++ l.flatMap (reprChar q) := by
    intro q l
    induction l with
    | nil => intro acc; simp
    | cons a r ih =>
      intro acc
      rw [List.foldl_cons, ih]
      simp
  show ((x.cps.foldl (fun out c => out ++ (reprChar (reprQuote x) c).toArray) #[reprQuote x]).push (reprQuote x)).toList = _
  rw [Array.toList_push, ← Array.foldl_toList, key]
  simp [TL.tl]
def plC (c : Nat) : Bool := decide (c ≠ 39 ∧ c ≠ 34 ∧ c ≠ 92 ∧ c ≠ 10 ∧ c ≠ 13 ∧ c ≠ 9) && Unicode.isPrintable c
theorem char_pl {q c : Nat} (h : plC c = true) (hq : q = 39 ∨ q = 34) : reprChar q c = [c] := by
  unfold plC at h
  rw [Bool.and_eq_true, decide_eq_true_eq] at h
  obtain ⟨⟨h1, h2, h3, h4, h5, h6⟩, h7⟩ := h
  unfold reprChar
  dsimp only
  have e : (c == q || c == 92) = false := by
    rw [Bool.or_eq_false_iff, beq_eq_false_iff_ne, beq_eq_false_iff_ne]
    exact ⟨by rcases hq with rfl | rfl <;> assumption, h3⟩
  rw [e, beq_eq_false_iff_ne.mpr h4, beq_eq_false_iff_ne.mpr h5, beq_eq_false_iff_ne.mpr h6, h7]
  rfl
theorem flat_pl {q : Nat} (hq : q = 39 ∨ q = 34) : ∀ {l : List Nat}, (∀ c ∈ l, plC c = true) → l.flatMap (reprChar q) = l
  | [], _ => rfl
  | c :: r, h => by rw [List.flatMap_cons, char_pl (h c (List.mem_cons_self ..)) hq, flat_pl hq fun d hd => h d (List.mem_cons_of_mem _ hd)]; rfl
theorem quote_or (x : Str) : reprQuote x = 39 ∨ reprQuote x = 34 := by unfold reprQuote; split <;> simp
/-- a text of plain signs is shown as it is -/
theorem repr_pl {x : Str} (h : ∀ c ∈ tl x, plC c = true) : tl (reprText x) = 39 :: (tl x ++ [39]) := by
  have hq : reprQuote x = 39 := by
    unfold reprQuote
    have e : x.cps.contains 39 = false := by
      rw [Bool.eq_false_iff]
      intro z
      have := h 39 (by simpa [TL.tl] using Array.contains_iff_mem.mp z)
      revert this
      decide +kernel
    rw [e]; rfl
  rw [tl_repr, hq, flat_pl (.inl rfl) h]
theorem char_ne {q c : Nat} : reprChar q c ≠ [] := by
  unfold reprChar
  dsimp only
  repeat' split
  all_goals simp
/-- only the text without signs is shown by two signs -/
theorem repr_two {x : Str} (h : (tl (reprText x)).length = 2) : tl x = [] := by
  rw [tl_repr] at h
  cases e : tl x with
  | nil => rfl
  | cons c r =>
    rw [e] at h
    have : 0 < (reprChar (reprQuote x) c).length := List.length_pos_iff.mpr char_ne
    simp only [List.flatMap_cons, List.length_cons, List.length_append, List.length_nil] at h
    omega
theorem char_low : ∀ c : Nat, 32 ≤ c → c < 127 → (reprChar 39 c).length ≤ 2 ∧ (reprChar 34 c).length ≤ 2 := by
  have key : (List.range 127).all (fun c => decide (32 ≤ c → (reprChar 39 c).length ≤ 2 ∧ (reprChar 34 c).length ≤ 2)) = true := by decide +kernel
  intro c h1 h2
  exact of_decide_eq_true (List.all_eq_true.mp key c (List.mem_range.mpr h2)) h1
theorem repr_len {x : Str} (h : Gd x) : (reprText x).length ≤ 2 * x.length + 2 := by
  rw [tl_len, tl_len x, tl_repr]
  have key : ∀ l : List Nat, (∀ c ∈ l, 32 ≤ c ∧ c < 127) → (l.flatMap (reprChar (reprQuote x))).length ≤ 2 * l.length := by
    intro l
    induction l with
    | nil => intro _; simp
    | cons c r ih =>
      intro h
      have h1 := ih fun d hd => h d (List.mem_cons_of_mem _ hd)
      have h2 := char_low c (h c (List.mem_cons_self ..)).1 (h c (List.mem_cons_self ..)).2
      have h3 : (reprChar (reprQuote x) c).length ≤ 2 := by
        rcases quote_or x with e | e <;> rw [e]
        · exact h2.1
        · exact h2.2
      rw [List.flatMap_cons, List.length_append, List.length_cons]
      omega
  have := key (tl x) h
  simp only [List.length_cons, List.length_append, List.length_nil]
  omega
end
/-! ### two instances that are shown alike -/
theorem cut_q {q : Nat} : ∀ {u v X Y : List Nat}, q ∉ u → q ∉ v → u ++ q :: X = v ++ q :: Y → u = v ∧ X = Y
  | [], [], X, Y, _, _, e => by simpa using e
  | [], b :: v, X, Y, _, k, e => by
    simp at e
    exact absurd (e.1 ▸ List.mem_cons_self ..) k
  | a :: u, [], X, Y, h, _, e => by
    simp at e
    exact absurd (e.1 ▸ List.mem_cons_self ..) h
  | a :: u, b :: v, X, Y, h, k, e => by
    rw [List.cons_append, List.cons_append, List.cons.injEq] at e
    obtain ⟨r1, r2⟩ := cut_q (fun z => h (List.mem_cons_of_mem _ z)) (fun z => k (List.mem_cons_of_mem _ z)) e.2
    exact ⟨by rw [e.1, r1], r2⟩
theorem pl_no {l : List Nat} (h : ∀ c ∈ l, plC c = true) : 39 ∉ l := fun z => by
  have := h 39 z
  revert this
  decide +kernel
theorem st_pl {x y : Str} {X Y : List Nat} (h : ∀ c ∈ tl x, plC c = true) (k : ∀ c ∈ tl y, plC c = true) (e : tl (shF (.str x)) ++ X = tl (shF (.str y)) ++ Y) : x = y ∧ X = Y := by
  rw [show shF (.str x) = reprText x from rfl, show shF (.str y) = reprText y from rfl, repr_pl h, repr_pl k] at e
  simp only [List.cons_append, List.append_assoc, List.nil_append, List.cons.injEq, true_and] at e
  obtain ⟨a, b⟩ := cut_q (pl_no h) (pl_no k) e
  exact ⟨str_eq.mpr a, b⟩
theorem st_bl {a b : Bool} {X Y : List Nat} (e : tl (shF (.bl a)) ++ X = tl (shF (.bl b)) ++ Y) : a = b ∧ X = Y := by
  have h1 : tl (shF (.bl true)) = [84, 114, 117, 101] := by decide +kernel
  have h2 : tl (shF (.bl false)) = [70, 97, 108, 115, 101] := by decide +kernel
  cases a <;> cases b <;> simp only [h1, h2] at e <;> simp at e
  · exact ⟨rfl, e⟩
  · exact ⟨rfl, e⟩
def vO : Option Str → V
  | some s => .str s
  | none => .non
theorem st_non {d : Option Str} {X Y : List Nat} (e : tl (shF (vO d)) ++ X = tl (shF .non) ++ Y) : d = none ∧ X = Y := by
  have h1 : tl (shF .non) = [78, 111, 110, 101] := by decide +kernel
  cases d with
  | none => exact ⟨rfl, List.append_cancel_left e⟩
  | some s =>
    rw [show shF (vO (some s)) = reprText s from rfl, tl_repr, h1] at e
    rcases quote_or s with z | z <;> rw [z] at e <;> simp at e
theorem st_end {a : Str} {X : List Nat} (e : tl (shF (.str a)) ++ X = tl (shF (.str (Str.ofString ""))) ++ X) : a = Str.ofString "" := by
  have h1 : tl (shF (.str (Str.ofString ""))) = [39, 39] := by decide +kernel
  have e2 := List.append_cancel_right e
  have := repr_two (x := a) (by rw [show reprText a = shF (.str a) from rfl, e2, h1]; rfl)
  rw [str_eq, this]; decide +kernel
def txR : List V → List Nat
  | [] => [41]
  | [v] => tl (shF v) ++ [41]
  | v :: w :: r => tl (shF v) ++ ([44, 32] ++ txR (w :: r))
theorem txR_eq : ∀ vs : List V, TL.joinL [44, 32] ((vs.map shF).map tl) ++ [41] = txR vs
  | [] => rfl
  | [v] => rfl
  | v :: w :: r => by
    have ih := txR_eq (w :: r)
    show (tl (shF v) ++ ([44, 32] ++ TL.joinL [44, 32] (((w :: r).map shF).map tl))) ++ [41] = tl (shF v) ++ ([44, 32] ++ txR (w :: r))
    rw [← ih]; simp only [List.append_assoc]
theorem tl_insText (nm : Str) (vs : List V) : tl (insText nm vs) = tl nm ++ (40 :: txR vs) := by
  unfold insText
  rw [TL.tl_append, TL.tl_append, TL.tl_append, TL.tl_join, show tl (Str.ofString "(") = [40] from by decide +kernel, show tl (Str.ofString ")") = [41] from by decide +kernel, show tl (Str.ofString ", ") = [44, 32] from by decide +kernel, ← txR_eq]
  simp only [List.append_assoc, List.cons_append, List.nil_append]
theorem insText_cancel {nm : Str} {vs ws : List V} (e : insText nm vs = insText nm ws) : txR vs = txR ws := by
  have := congrArg tl e
  rw [tl_insText, tl_insText] at this
  have := List.append_cancel_left this
  simpa using this
theorem txR_step {v w : V} {vs ws : List V} (e : txR (v :: vs) = txR (w :: ws)) (hv : vs ≠ []) (hw : ws ≠ []) : tl (shF v) ++ ([44, 32] ++ txR vs) = tl (shF w) ++ ([44, 32] ++ txR ws) := by
  cases vs with
  | nil => exact absurd rfl hv
  | cons a r =>
    cases ws with
    | nil => exact absurd rfl hw
    | cons b q => exact e
/-- what is shown is not too long -/
theorem insText_len {nm : Str} {vs : List V} {B : Nat} (h : ∀ v ∈ vs, (shF v).length ≤ B) : (insText nm vs).length ≤ nm.length + 2 + vs.length * (B + 2) := by
  rw [tl_len, tl_insText, List.length_append, List.length_cons, ← tl_len]
  have key : ∀ vs : List V, (∀ v ∈ vs, (shF v).length ≤ B) → (txR vs).length ≤ 1 + vs.length * (B + 2) := by
    intro vs
    induction vs with
    | nil => intro _; simp [txR]
    | cons v r ih =>
      intro h
      have h1 := h v (List.mem_cons_self ..)
      have h2 := ih fun u hu => h u (List.mem_cons_of_mem _ hu)
      rw [tl_len] at h1
      rw [List.length_cons, Nat.succ_mul]
      cases r with
      | nil => simp only [txR, List.length_append, List.length_cons, List.length_nil]; omega
      | cons a r =>
        show (tl (shF v) ++ ([44, 32] ++ txR (a :: r))).length ≤ _
        rw [List.length_append, List.length_append]
        simp only [List.length_cons, List.length_nil] at h2 ⊢
        omega
  have := key vs h
  omega
theorem sum_piled : ∀ ts : List Str, (ts.map (·.length)).sum + ts.length * 2 = piled ts
  | [] => rfl
  | t :: r => by
    have ih := sum_piled r
    rw [piled_cons, List.map_cons, List.sum_cons, List.length_cons]; omega
theorem insText_sizes (nm : Str) (vs : List V) : (((vs.map shF).map (·.length)).sum + (vs.map shF).length * 2 ≤ (insText nm vs).length) ∧ (insText nm vs).length = nm.length + 2 + (Str.join (Str.ofString ", ") (vs.map shF)).length ∧ ∀ v ∈ vs, (shF v).length ≤ (insText nm vs).length := by
  have h2 : (insText nm vs).length = nm.length + 2 + (Str.join (Str.ofString ", ") (vs.map shF)).length := by
    unfold insText
    rw [len_app, len_app, len_app, show (Str.ofString "(").length = 1 from by decide +kernel, show (Str.ofString ")").length = 1 from by decide +kernel]
    omega
  have h1 : ((vs.map shF).map (·.length)).sum + (vs.map shF).length * 2 ≤ (insText nm vs).length := by
    rw [sum_piled, h2]
    by_cases e : vs.map shF = []
    · rw [e]; exact Nat.zero_le _
    · have := join_length_add _ e
      have e2 : (Str.join (Str.ofString ", ") (vs.map shF)).length + 2 = piled (vs.map shF) := this
      omega
  refine ⟨h1, h2, fun v hv => Nat.le_trans ?_ h1⟩
  rw [sum_piled]
  obtain ⟨a, b, e⟩ := List.append_of_mem hv
  rw [e, List.map_append, List.map_cons, piled_append, piled_cons]
  omega
theorem blt_cases {y : D} (h : bltD y = true) : y = .v .non ∨ (∃ b, y = .v (.bl b)) ∨ (∃ i, y = .v (.int i)) ∨ (∃ s, y = .v (.str s)) ∨ (∃ xs, y = .lst xs) ∨ (∃ xs, y = .ls xs) ∨ (∃ xs, y = .tup xs) := by
  match y, h with
  | .v .non, _ => simp
  | .v (.int i), _ => simp
  | .v (.bl b), _ => simp
  | .v (.str s), _ => simp
  | .lst xs, _ => simp
  | .ls xs, _ => simp
  | .tup xs, _ => simp
/-! ### names, abouts that are right -/
theorem sub_one (c : Nat) (y : Str) : subS ⟨#[c]⟩ y = decide (c ∈ tl y) := StrLaws.found_one y c
theorem nm_pl {s : Str} (h : isNm s = true) : ∀ c ∈ tl s, c ∈ tl nameSigns := fun c hc => by
  unfold isNm at h
  rw [Bool.and_eq_true, List.all_eq_true] at h
  have := h.2 c hc
  rw [sub_one] at this
  exact of_decide_eq_true this
theorem signs_pl : ∀ c ∈ tl nameSigns, plC c = true ∧ 32 ≤ c ∧ c < 127 := by
  have key : (tl nameSigns).all (fun c => plC c && decide (32 ≤ c ∧ c < 127)) = true := by decide +kernel
  intro c hc
  have := List.all_eq_true.mp key c hc
  rw [Bool.and_eq_true, decide_eq_true_eq] at this
  exact this
theorem nm_plC {s : Str} (h : isNm s = true) : ∀ c ∈ tl s, plC c = true := fun c hc => (signs_pl c (nm_pl h c hc)).1
theorem nm_gd {s : Str} (h : isNm s = true) : Gd s := fun c hc => (signs_pl c (nm_pl h c hc)).2
theorem nm_len {s : Str} (h : isNm s = true) : 1 ≤ s.length ∧ s.length ≤ 10 := by
  unfold isNm at h
  rw [Bool.and_eq_true, Bool.and_eq_true] at h
  exact of_decide_eq_true h.1.1
theorem nm_ok {t : Str} (h1 : 1 ≤ t.length ∧ t.length ≤ 10) (h2 : ∀ c ∈ tl t, c ∈ tl nameSigns) (h3 : ∀ c r, tl t = c :: r → c ≠ 45) (h4 : ∀ c r, tl t = r ++ [c] → c ≠ 45) (h5 : Txt.startswith t (Str.ofString "no-") = false) : isNm t = true := by
  have hd : tl (Str.ofString "-") = [45] := by decide +kernel
  have ne : ∀ c, c ≠ 45 → decide ((⟨#[c]⟩ : Str) = Str.ofString "-") = false := fun c hc => by
    rw [decide_eq_false_iff_not, str_eq, hd]
    intro z
    exact hc (by simpa [TL.tl] using z)
  have hne : tl t ≠ [] := fun e => by have := h1.1; rw [tl_len, e] at this; simp at this
  have e1 : Txt.startswith t (Str.ofString "-") = false := by
    cases e : tl t with
    | nil => exact absurd e hne
    | cons c r => rw [starts_one e hd]; exact ne c (h3 c r e)
  have e2 : Txt.endswith t (Str.ofString "-") = false := by
    have e := (List.dropLast_concat_getLast hne).symm
    rw [ends_one e hd]; exact ne _ (h4 _ _ e)
  unfold isNm
  rw [e1, e2, h5, decide_eq_true h1]
  show ((tl t).all fun c => subS ⟨#[c]⟩ nameSigns) = true
  rw [List.all_eq_true]
  intro c hc
  rw [sub_one]; exact decide_eq_true (h2 c hc)
theorem nm_m {t : Str} (h1 : 1 ≤ t.length ∧ t.length ≤ 10) (h2 : ∀ c ∈ tl t, c ∈ tl nameSigns) (h4 : ∀ c r, tl t = r ++ [c] → c ≠ 45) (h5 : Txt.startswith t (Str.ofString "no-") = true) : isNm (Str.ofString "m" ++ cutS t (some 1) none) = true := by
  have hn : tl (Str.ofString "no-") = [110, 111, 45] := by decide +kernel
  have hm : tl (Str.ofString "m") = [109] := by decide +kernel
  obtain ⟨r, hr⟩ := starts_iff.mp h5
  rw [hn] at hr
  have ht : tl (Str.ofString "m" ++ cutS t (some 1) none) = 109 :: ([111, 45] ++ r) := by
    rw [TL.tl_append, hm, show cutS t (some 1) none = cutS t (some ((1 : Nat) : Int)) none from rfl, tl_from, ← hr]; rfl
  have hl : (Str.ofString "m" ++ cutS t (some 1) none).length = t.length := by
    rw [tl_len, ht, tl_len, ← hr]; simp
  refine nm_ok (by rw [hl]; exact h1) (fun c hc => ?_) (fun c q e => ?_) (fun c q e => ?_) ?_
  · rw [ht] at hc
    rcases List.mem_cons.mp hc with rfl | hc
    · decide +kernel
    · exact h2 c (by rw [← hr]; exact List.mem_cons_of_mem _ hc)
  · rw [ht] at e
    cases e
    decide
  · have hne : r ≠ [] := fun z => by
      subst z
      exact h4 45 [110, 111] hr.symm rfl
    obtain ⟨r', z, rfl⟩ : ∃ r' z, r = r' ++ [z] := ⟨_, _, (List.dropLast_concat_getLast hne).symm⟩
    have e2 : tl t = (110 :: 111 :: 45 :: r') ++ [z] := by rw [← hr]; rfl
    have e3 : tl (Str.ofString "m" ++ cutS t (some 1) none) = (109 :: 111 :: 45 :: r') ++ [z] := by rw [ht]; rfl
    rw [e3] at e
    have := (List.append_inj' e rfl).2
    simp only [List.cons.injEq, and_true] at this
    rw [← this]
    exact h4 _ _ e2
  · rw [starts_tl, ht, hn]; rfl
/-- a text without blanks -/
def Nb (s : Str) : Prop := ∀ c ∈ tl s, 33 ≤ c ∧ c < 127
theorem Nb.gd {s : Str} (h : Nb s) : Gd s := fun c hc => ⟨Nat.le_of_succ_le (h c hc).1, (h c hc).2⟩
theorem Nb.no {s : Str} (h : Nb s) : 32 ∉ tl s := fun z => by have := (h 32 z).1; omega
theorem sg_blank : Str.ofString " " = sg1 32 := by decide +kernel
theorem ab_nil : isAb (Str.ofString "") = true := by decide +kernel
theorem ab_join {ws : List Str} (hne : ws ≠ []) (h : ∀ x ∈ ws, Nb x ∧ 1 ≤ x.length) (hl : (Txt.join (Str.ofString " ") ws).length ≤ 200) : isAb (Txt.join (Str.ofString " ") ws) = true := by
  unfold isAb
  rw [decide_eq_true hl, sg_blank, split_is (c := 32) (by decide) hne (fun x hx => (h x hx).1.no) rfl]
  have : (ws.all fun w => !decide (w = Str.ofString "")) = true := by
    rw [List.all_eq_true]
    intro x hx
    have := (h x hx).2
    rw [Bool.not_eq_true', decide_eq_false_iff_not]
    intro z
    rw [z] at this
    revert this; decide +kernel
  rw [this, Bool.or_true]; rfl
theorem ab_one {x : Str} (h : Nb x) (h1 : 1 ≤ x.length) (h2 : x.length ≤ 200) : isAb x = true := by
  have e : Txt.join (Str.ofString " ") [x] = x := join_one
  have := ab_join (ws := [x]) (List.cons_ne_nil _ _) (fun y hy => by rw [List.mem_singleton.mp hy]; exact ⟨h, h1⟩) (by rw [e]; exact h2)
  rwa [e] at this
theorem nb_mul {x : Str} {n : Int} (h : Nb x) : Nb (Txt.mul x n) := by
  intro c hc
  unfold Txt.mul at hc
  split at hc
  · simp [TL.tl, Str.empty] at hc
  · split at hc
    · exact h c hc
    · have e := tl_rep x n.toNat
      rw [show tl _ = _ from e] at hc
      obtain ⟨l, hl, hcl⟩ := List.mem_flatten.mp hc
      rw [List.eq_of_mem_replicate hl] at hcl
      exact h c hcl
/-- a name, sign by sign -/
def NI (size i : Nat) (t : Str) : Prop := t.length = i ∧ (∀ c ∈ tl t, c ∈ tl nameSigns) ∧ (∀ c r, tl t = c :: r → c ≠ 45) ∧ (i = size → ∀ c r, tl t = r ++ [c] → c ≠ 45)
theorem NI.zero {size : Nat} (h : 1 ≤ size) : NI size 0 (Str.ofString "") := by
  have e : tl (Str.ofString "") = [] := by decide +kernel
  refine ⟨by decide +kernel, fun c hc => ?_, fun c r z => ?_, fun z => by omega⟩
  · rw [e] at hc; cases hc
  · rw [e] at z; cases z
theorem NI.step {size i : Nat} {t : Str} {c : Nat} (h : NI size i t) (hc : c ∈ tl nameSigns) (h45 : c = 45 → i ≠ 0 ∧ i + 1 ≠ size) : NI size (i + 1) (t ++ ⟨#[c]⟩) := by
  obtain ⟨h1, h2, h3, h4⟩ := h
  have e : tl (t ++ ⟨#[c]⟩) = tl t ++ [c] := TL.tl_append _ _
  refine ⟨by rw [len_app, h1]; first | done | rfl, fun d hd => ?_, fun d r z => ?_, fun hi d r z => ?_⟩
  · rw [e] at hd
    rcases List.mem_append.mp hd with hd | hd
    · exact h2 d hd
    · rw [List.mem_singleton.mp hd]; exact hc
  · rw [e] at z
    cases ht : tl t with
    | nil =>
      rw [ht] at z
      have : i = 0 := by rw [← h1, tl_len, ht]; rfl
      cases z
      exact fun q => (h45 q).1 this
    | cons a q =>
      rw [ht] at z
      have := h3 a q ht
      cases z
      exact this
  · rw [e] at z
    have := (List.append_inj' z rfl).2
    simp only [List.cons.injEq, and_true] at this
    rw [← this]
    exact fun q => (h45 q).2 hi
theorem NI.nm {size : Nat} {t : Str} (h : NI size size t) (h1 : 1 ≤ size ∧ size ≤ 10) (h5 : Txt.startswith t (Str.ofString "no-") = false) : isNm t = true := nm_ok (by rw [h.1]; exact h1) h.2.1 h.2.2.1 (h.2.2.2 rfl) h5
theorem NI.nmm {size : Nat} {t : Str} (h : NI size size t) (h1 : 1 ≤ size ∧ size ≤ 10) (h5 : Txt.startswith t (Str.ofString "no-") = true) : isNm (Str.ofString "m" ++ cutS t (some 1) none) = true := nm_m (by rw [h.1]; exact h1) h.2.1 (h.2.2.2 rfl) h5
theorem nb_sgn {s : Str} {c : Nat} (h : Nb s) (k : c ∈ tl s) : Nb ⟨#[c]⟩ := fun d hd => by
  have : d = c := by simpa [TL.tl] using hd
  rw [this]; exact h c k
theorem nb_ok {t : Str} (h : (tl t).all (fun c => decide (33 ≤ c ∧ c < 127)) = true) : Nb t := fun c hc => of_decide_eq_true (List.all_eq_true.mp h c hc)
theorem nb_join0 {ys : List Str} (h : ∀ y ∈ ys, Nb y) : Nb (Txt.join (Str.ofString "") ys) := by
  intro c hc
  rw [TL.join_eq, TL.tl_join] at hc
  exact tl_joinL_mem (P := fun c => 33 ≤ c ∧ c < 127) (fun c hc => by rw [show tl (Str.ofString "") = [] from by decide +kernel] at hc; cases hc) (fun y hy => by
    obtain ⟨z, hz, rfl⟩ := List.mem_map.mp hy
    exact h z hz) c hc
theorem join0_len : ∀ {ys : List Str}, (∀ y ∈ ys, y.length = 1) → (Txt.join (Str.ofString "") ys).length = ys.length := by
  intro ys h
  rw [TL.join_eq, tl_len, TL.tl_join, show tl (Str.ofString "") = [] from by decide +kernel]
  have key : ∀ ys : List Str, (∀ y ∈ ys, y.length = 1) → (TL.joinL [] (ys.map tl)).length = ys.length := by
    intro ys
    induction ys with
    | nil => intro _; rfl
    | cons a r ih =>
      intro h
      have h1 := h a (List.mem_cons_self ..)
      have h2 := ih fun y hy => h y (List.mem_cons_of_mem _ hy)
      rw [tl_len] at h1
      cases r with
      | nil => show (tl a).length = 1; exact h1
      | cons b q =>
        show (tl a ++ ([] ++ TL.joinL [] ((b :: q).map tl))).length = _
        rw [List.length_append, List.nil_append, h2, h1]; simp only [List.length_cons]; omega
  exact key ys h
/-! ### the arguments of an option, of a place -/
theorem flat_str {s : Str} (h : Gd s) : flat3 (.str s) = true := h.vd.ok
theorem flat_vO {d : Option Str} (h : ∀ x, d = some x → Gd x) : flat3 (vO d) = true := by
  cases d with
  | none => rfl
  | some x => exact flat_str (h x rfl)
theorem shF_str {s : Str} {B : Nat} (h : Gd s) (hl : s.length ≤ B) : (shF (.str s)).length ≤ 2 * B + 2 := by
  have := repr_len h
  show (reprText s).length ≤ _
  omega
theorem shF_vO {d : Option Str} (h : ∀ x, d = some x → x.length ≤ 60 ∧ Gd x) : (shF (vO d)).length ≤ 402 := by
  cases d with
  | none => decide +kernel
  | some x => exact Nat.le_trans (shF_str (h x rfl).2 (h x rfl).1) (by decide)
theorem shF_bl (b : Bool) : (shF (.bl b)).length ≤ 402 := by cases b <;> decide +kernel
end Wb

set_option Elab.async false
set_option linter.all false
set_option maxRecDepth 100000
set_option maxHeartbeats 1000000
/-! tokens only grow -/
namespace Wb
open PySem PySem.Spec PyProof.Rows L2
theorem toks_runs {M : Model} {Γ : PySem.Ctx} {p : Pos} {t : Sem Fin} {fs : List Frame} {s s' : Shared} {e : PySem.End} (h : Runs M Γ p t fs s e s') : s.toks ≤ s'.toks := by
  induction h with
  | fresh _ ih => exact Nat.le_trans (Nat.le_succ _) ih
  | call _ _ a b => exact Nat.le_trans a b
  | resumeFresh _ _ _ _ a b => exact Nat.le_trans a b
  | resumeSuspended _ _ _ _ a b => exact Nat.le_trans a b
  | segRet _ _ a b => exact Nat.le_trans a b
  | segGen _ _ a b => exact Nat.le_trans a b
  | segSuspGen _ _ _ _ a b => exact Nat.le_trans a b
  | _ => first | exact Nat.le_refl _ | assumption
theorem toks_wakes {M : Model} {Γ : PySem.Ctx} {p : Pos} {g : Nat} {r : Resume} {s s' : Shared} {res : GenResult} (h : Wakes M Γ p g r s res s') : s.toks ≤ s'.toks := by
  unfold Wakes at h
  split at h
  · exact h.elim
  · split at h
    · obtain ⟨e, s1, h1, _, _, rfl⟩ := h
      have q : (s.setGen g GenState.running).toks ≤ s1.toks := toks_runs h1
      exact q
    · rw [h.2]; exact Nat.le_refl _
    · rw [h.2]; exact Nat.le_refl _
  · obtain ⟨e, s1, h1, _, _, rfl⟩ := h
    have q : (s.setGen g GenState.running).toks ≤ s1.toks := toks_runs h1
    exact q
  · rw [h.2]; exact Nat.le_refl _
  · rw [h.2]; exact Nat.le_refl _
theorem toks_wp {α : Type} {M : Model} {Γ : PySem.Ctx} : ∀ (t : Sem α) (Q : α → Pos → Shared → Prop) (E : Value → Pos → Shared → Prop) (p : Pos) (s : Shared) (n : Nat), n ≤ s.toks → Sem.wp M Γ t Q E p s → Sem.wp M Γ t (fun a p' s' => Q a p' s' ∧ n ≤ s'.toks) (fun e p' s' => E e p' s' ∧ n ≤ s'.toks) p s := by
  intro t
  induction t with
  | pure a => exact fun Q E p s n hn h => ⟨h, hn⟩
  | raise e => exact fun Q E p s n hn h => ⟨h, hn⟩
  | unsupported w => exact fun Q E p s n hn h => h
  | finish e => exact fun Q E p s n hn h => h
  | rule t k ih => exact fun Q E p s n hn h => ih () Q E p s n hn h
  | «at» q k ih => exact fun Q E p s n hn h => ih () Q E q s n hn h
  | load a v k ih => exact fun Q E p s n hn ⟨o, e, h⟩ => ⟨o, e, ih o Q E p s n hn h⟩
  | update a v f k ih => exact fun Q E p s n hn ⟨e, h⟩ => ⟨e, ih () Q E p _ n hn h⟩
  | alloc o k ih => exact fun Q E p s n hn h => ih _ Q E p _ n hn h
  | loadIfAlive a k ih => exact fun Q E p s n hn h => ih _ Q E p s n hn h
  | point l k ih => exact fun Q E p s n hn h => ih _ Q E p s n hn h
  | register a k ih => exact fun Q E p s n hn h => h
  | fresh k ih => exact fun Q E p s n hn h => ih _ Q E p _ n (Nat.le_succ_of_le hn) h
  | ask k ih => exact fun Q E p s n hn h => ih _ Q E p s n hn h
  | choose src m k ih => exact fun Q E p s n hn ⟨e, h⟩ => ⟨e, ih _ Q E p _ n hn h⟩
  | os q l k ih => exact fun Q E p s n hn h => ih _ Q E p _ n hn h
  | call c hh g l k ih => exact fun Q E p s n hn ⟨r, s', hr, h⟩ => ⟨r, s', hr, ih r Q E p s' n (Nat.le_trans hn (toks_runs hr)) h⟩
  | handled o k ih => exact fun Q E p s n hn h => ih _ Q E p s n hn h
  | newGen c k ih => exact fun Q E p s n hn h => ih _ Q E p _ n hn h
  | genState g k ih => exact fun Q E p s n hn ⟨st, e, h⟩ => ⟨st, e, ih _ Q E p s n hn h⟩
  | resume g r l k ih => exact fun Q E p s n hn ⟨res, s', hr, h⟩ => ⟨res, s', hr, ih res Q E p s' n (Nat.le_trans hn (toks_wakes hr)) h⟩
  | yield v g l k ih => exact fun Q E p s n hn h => h
  | stack k ih => exact fun Q E p s n hn h => ih _ Q E p s n hn h
  | fork c k ih => exact fun Q E p s n hn h => h
  | thread k ih => exact fun Q E p s n hn h => ih _ Q E p s n hn h
  | await a t b l k ih => exact fun Q E p s n hn h => h
section
variable {α β : Type} {M : Model} {A : Around} {E : Value → Shared → Prop} {s : Shared} {n : Nat}
theorem wpAny_toks {t : Sem α} {Q : α → Shared → Prop} (hn : n ≤ s.toks) (h : wpAny M A t Q E s) : wpAny M A t (fun a s' => Q a s' ∧ n ≤ s'.toks) E s := fun Γ p hΓ =>
  Sem.wp_mono M Γ t (fun _ _ _ x => x) (fun _ _ _ x => x.1) p s (toks_wp t _ _ p s n hn (h Γ p hΓ))
theorem thnT {t : Sem α} {f : α → Sem β} {Q : α → Shared → Prop} {R : β → Shared → Prop} (hn : n ≤ s.toks) (h : wpAny M A t Q E s) (k : ∀ a s', Q a s' → n ≤ s'.toks → wpAny M A (f a) R E s') : wpAny M A (t >>= f) R E s :=
  wpAny_bind (wpAny_mono (wpAny_toks hn h) (fun a s' x => k a s' x.1 x.2) fun _ _ x => x)
theorem codeAny_toks {c : Code} {R : Result → Shared → Prop} (hn : n ≤ s.toks) (h : codeAny M A c R s) : codeAny M A c (fun r s' => R r s' ∧ n ≤ s'.toks) s := fun Γ p a b =>
  let ⟨r, s', hr, q⟩ := h Γ p a b
  ⟨r, s', hr, q, Nat.le_trans hn (toks_runs hr)⟩
end
end Wb

set_option Elab.async false
set_option linter.all false
set_option maxRecDepth 100000
set_option maxHeartbeats 1000000
/-! a head that knows how many tokens the top has given out -/
namespace Wb
open PySem PySem.Spec PySem.Calls PyProof.Rows PySem.W
/-- what is to be walked, where at least m tokens are out -/
def WalkT (m : Nat) (q : Program) (loose : List Str) (XP : (Str → Option Value) → Heap → Prop) (YP : World → Heap → Prop) (r : RowW) (d : DefRec) (kwd : List (Str × Expr)) : Prop :=
  ∀ (w : World) (s₀ t : Shared) (mg mb : Str → Option Value), m ≤ t.toks → Ground q loose r.records XP w s₀ mg mb t.heap → YP w t.heap →
    ∀ (fa : Addr) (o : Obj) (pm cd doc dv kv : Value), t.heap.get? fa = some o → o.data = .func { docDef d.name d.params d.body d.scope pm cd doc with defaults := dv, kwdefaults := kv } →
      t.heap.CodeRec cd d.name → Dflts mg t.heap d.params kwd dv kv → mg d.name = some (.ref fa) → t.gens = #[] → ∀ (ds : List WData) (us : List Value) (as : List Addr), r.claim.pre ds = true →
        WData.layableAll ds = true → ReadsAllW r.records (classAt s₀.heap) t.heap us ds as → WellAll w.params t.heap us ds → (∀ a ∈ as, (a == sysModules) = false) →
          wpAny (model r.prog w) callerA (PySem.call (.ref fa) us) (fun v t' => GoodWG r.claim (classAt s₀.heap) (ExcName.means s₀.heap) ds t (.ok (.ret v)) t') (fun e t' => GoodWG r.claim (classAt s₀.heap) (ExcName.means s₀.heap) ds t (.error e) t') t
theorem holds_openT {r : OpenRow} {q : Program} {loose : List Str} {Xt : Shared → Bool} {XP : (Str → Option Value) → Heap → Prop} {α : Type} {Yf : Shared → α} {Ya : World → α} {YP : World → Heap → Prop} {d : DefRec} {kwd : List (Str × Expr)} {N : Nat} {m : Nat}
    (ht : ∀ w s, Yf s = Ya w → m ≤ s.toks) (left : LeftO r.prog q loose Xt Yf Ya N) (hY : ∀ w s, Yf s = Ya w → YP w s.heap) (hYk : ∀ w g g', YP w g → (∀ b o, g.get? b = some o → g'.get? b = some o) → YP w g') (hX : ∀ s, Xt s = true → XP (s.heap.nsMap mainGlobals) s.heap)
    (hXk : ∀ mg g g', XP mg g → (∀ b o, g.get? b = some o → g'.get? b = some o) → XP mg g') (hdef : defOf q r.name = some (d, kwd)) (hp : r.prog.theDef r.name = some (d.params, d.body, d.scope)) (hk : kwWritten? d.params.kwonlyargs d.params.kw_defaults = some kwd)
    (hRf : ∀ s, Xt s = true → RecFacts r.records s.heap) (hwr : (!r.writes || r.records.isEmpty) = true) (k1 : r.wellSaid = true) (ok : (chainsOk q && opensWell r.prog && (frees r.toRowW && r.within.isEmpty)) = true) (hb : r.prog.bare) (hw : r.toRowW.promised)
    (walk : WalkT m q loose XP YP r.toRowW d kwd) : r.Holds := by
  have z1 := Bool.and_eq_true_iff.mp ok
  have z2 := Bool.and_eq_true_iff.mp z1.1
  have z3 := Bool.and_eq_true_iff.mp z1.2
  obtain ⟨fs, fu, fa, fap, fm⟩ := frees_parts z3.1
  have wi : r.toRowW.claim.within = [] := List.isEmpty_iff.mp z3.2
  have look := fun w => left.behind (XP := fun mg g => XP mg g ∧ RecFacts r.toRowW.records g) (fun s hs => ⟨hX s hs, hRf s hs⟩) z2.1 w
  refine ⟨k1, hw, ⟨⟨hb, z2.2, by show r.toRowW.makers.map _ = []; rw [fm]; rfl⟩, hw.witness, fun w => ⟨(look w).1, fun s1 h1 => ?_⟩⟩⟩
  obtain ⟨b, hf, hg0, s, hT, hz, hgens, hg, GG, y⟩ := (look w).2 s1 h1
  have hT2 := hT
  have RF := GG.X.2
  have G0 : Ground q loose [] XP w s (s.heap.nsMap mainGlobals) (s.heap.nsMap builtinsNs) s.heap := { GG with X := GG.X.1 }
  refine ⟨b, hf, hg0, s, hT, fun n hn => ?_, RF.1, RF.2.1, ?_⟩
  · obtain rfl : n = r.name := by split at hn <;> simp_all
    exact pinned_of_view hg G0 hdef hp hk
  have g0 : s.gens = #[] := Array.eq_empty_of_size_eq_zero (beq_iff_eq.mp hgens)
  have G := RF.ground G0
  refine ClaimW.callFrom_of_specG (c := r.toRowW.claim) hz g0 fun ds hpre hlay ord hord => ?_
  obtain ⟨⟨us, t⟩, laid⟩ := Option.isSome_iff_exists.mp (layAllW_isSome (P := w.params) (ord := ord) G.has ds r.toRowW.args s (pre_splitW hpre).1)
  have gr := layAllW_grows _ _ _ laid
  have al := layAllW_rest _ _ _ laid
  obtain ⟨as, rd, ina, old⟩ := reads_layAllW hord _ _ _ laid hlay t.heap fun _ _ e => e
  have L : Laid r.toRowW.records w s t ds us as := ⟨⟨ord, hord, laid⟩, rd, ina, old, gr.keeps, al.1.trans g0, al.2.2.1⟩
  have G1 := G.keeps hXk gr.keeps
  obtain ⟨a, o, pm, cd, doc, dv, kv, c1, c2, c3, c4, c5⟩ := G1.fn hdef
  have run := walk w s t _ _ (Nat.le_trans (ht w s y) gr.toks) G1 (hYk _ _ _ (hY w s y) gr.keeps) a o pm cd doc dv kv c2 c3 c4 c5 (defOf_name hdef ▸ c1) L.gens ds us as hpre hlay L.reads L.well (L.low G.low)
  have hi := ident_freeW fu fa fap
  have fin : ∀ (res : Result) (t' : Shared), GoodWG r.toRowW.claim (classAt s.heap) (ExcName.means s.heap) ds t res t' → _ := fun res t' g => g.laid (c := r.toRowW.claim) fs wi hi L
  refine ⟨us, t, laid, wpAny_bind (wpAny_nsGet G1.T.g ?_)⟩
  rw [c1]
  refine wpAny_bind (wpAny_mono run (fun v t' g => wpAny_pure ⟨_, rfl, ?_⟩) fun e t' g => ?_)
  · have z := fin _ _ g
    exact ⟨z.1, z.2.1, z.2.2, fun e => ⟨namesKept_of hT2 hg r.keeps gr.keeps g.2.1.old, noTable hwr e⟩⟩
  · have z := fin _ _ g
    exact ⟨z.1, z.2.1, z.2.2, fun e => ⟨namesKept_of hT2 hg r.keeps gr.keeps g.2.1.old, noTable hwr e⟩⟩
end Wb

set_option Elab.async false
set_option linter.all false
set_option maxRecDepth 100000
set_option maxHeartbeats 1000000
/-! judgements that know how many tokens were out when the def began -/
namespace Wb
open PySem PySem.Spec PyProof.Rows L2
section
variable {α : Type} {M : Model} {A : Around} {E : Value → Shared → Prop} {s : Shared} {n : Nat}
theorem thnN {t : Sem α} {Q Q' : α → Shared → Prop} (hn : n ≤ s.toks) (h : wpAny M A t Q E s) (k : ∀ a s', n ≤ s'.toks → Q a s' → Q' a s') : wpAny M A t Q' E s :=
  wpAny_mono (Wb.wpAny_toks hn h) (fun a s' x => k a s' x.2 x.1) fun _ _ x => x
end
structure EN (X : Cx) (e : Expr) (t : TE) : Prop where
  run : ∀ (pins : List (Addr × Obj)) (s : Shared) (σ : L2.St) (H : Hp) (Q : VK), X.s_0.toks ≤ s.toks → Inv X pins σ H s → t σ H Q → wpAny (model X.prog X.w) X.A (eval e X.env) (EP X pins σ Q) X.xe s
structure TN (X : Cx) (e : Expr) (t : TT) : Prop where
  run : ∀ (pins : List (Addr × Obj)) (s : Shared) (σ : L2.St) (H : Hp) (Q : Bool → Hp → Prop), X.s_0.toks ≤ s.toks → Inv X pins σ H s → t σ H Q → wpAny (model X.prog X.w) X.A (isTrue e X.env (eval e X.env)) (TP X pins σ Q) X.xe s
structure WN (X : Cx) (e : Expr) (t : TT) : Prop where
  run : ∀ (whole : Sem Value) (pins : List (Addr × Obj)) (s : Shared) (σ : L2.St) (H : Hp) (Q : Bool → Hp → Prop), X.s_0.toks ≤ s.toks → Inv X pins σ H s → t σ H Q → wpAny (model X.prog X.w) X.A (isTrue e X.env whole) (TP X pins σ Q) X.xe s
structure AN (X : Cx) (es : List Expr) (t : TA) : Prop where
  run : ∀ (pos : Pos) (pins : List (Addr × Obj)) (s : Shared) (σ : L2.St) (H : Hp) (Q : List V → Hp → Prop), X.s_0.toks ≤ s.toks → Inv X pins σ H s → t σ H Q → wpAny (model X.prog X.w) X.A (spliced (backTo pos (starEach es X.env))) (AP X pins σ Q) X.xe s
structure SN (X : Cx) (st : Stmt) (t : TS) : Prop where
  run : ∀ (pins : List (Addr × Obj)) (s : Shared) (σ : L2.St) (H : Hp) (D : Ends), X.s_0.toks ≤ s.toks → Inv X pins σ H s → t D σ H → wpAny (model X.prog X.w) X.A (exec st X.env) (SP X pins D) X.xe s
structure SsN (X : Cx) (st : List Stmt) (t : TS) : Prop where
  run : ∀ (pins : List (Addr × Obj)) (s : Shared) (σ : L2.St) (H : Hp) (D : Ends), X.s_0.toks ≤ s.toks → Inv X pins σ H s → t D σ H → wpAny (model X.prog X.w) X.A (execs st X.env) (SP X pins D) X.xe s
section
variable {X : Cx} {a b e o : Expr} {es rest : List Expr} {ta tb te to : TE} {tA tB' : TT} {tr : TA} {st : Stmt} {sts : List Stmt} {t u : TS} {pos : Pos}
theorem en_of (h : PE X e te) : EN X e te := ⟨fun p s σ H Q _ I q => h.run p s σ H Q I q⟩
theorem tn_of (h : PT X e tA) : TN X e tA := ⟨fun p s σ H Q _ I q => h.run p s σ H Q I q⟩
theorem an_of (h : PA X es tr) : AN X es tr := ⟨fun x p s σ H Q _ I q => h.run x p s σ H Q I q⟩
theorem sn_of (h : PS X st t) : SN X st t := ⟨fun p s σ H D _ I q => h.run p s σ H D I q⟩
theorem ssn_of (h : PSs X sts t) : SsN X sts t := ⟨fun p s σ H D _ I q => h.run p s σ H D I q⟩
/-- two parts, the left one first -/
theorem twoN (ha : EN X a ta) (hb : EN X b tb) {pins : List (Addr × Obj)} {s : Shared} {σ : L2.St} {H : Hp} {R : V → V → Hp → Prop} (n : X.s_0.toks ≤ s.toks) (I : Inv X pins σ H s) (h : ta σ H fun x H1 => tb σ H1 fun y H2 => R x y H2) {Q : Value → Shared → Prop} {f : Value → Value → Sem Value}
    (k : ∀ v u s2 x y H2, Inv X pins σ H2 s2 → RelV x v → RelV y u → R x y H2 → wpAny (model X.prog X.w) X.A (f v u) Q X.xe s2) :
    wpAny (model X.prog X.w) X.A (eval a X.env) (fun v s₁ => wpAny (model X.prog X.w) X.A (eval b X.env) (fun u s₂ => wpAny (model X.prog X.w) X.A (f v u) Q X.xe s₂) X.xe s₁) X.xe s :=
  thnN n (ha.run pins s σ H _ n I h) fun v s1 n1 ⟨x, H1, I1, r1, q1⟩ => thn (hb.run pins s1 σ H1 _ n1 I1 q1) fun u s2 ⟨y, H2, I2, r2, q2⟩ => k v u s2 x y H2 I2 r1 r2 q2
theorem en_op {op : Operator} {r : R2} (ho : OpR X (binaryOp op) r) (ha : EN X a ta) (hb : EN X b tb) : EN X (.BinOp a op b pos) (tOp r ta tb) :=
  ⟨fun pins s σ H Q n I h => wpAny_BinOp (twoN ha hb n I h fun v u s2 x y H2 I2 rx ry q => ho pins s2 σ H2 x y v u Q I2 rx ry q)⟩
theorem en_cmpR {op : CmpOp} {r : R2} (ho : OpR X (compareOp op) r) (ha : EN X a ta) (hb : EN X b tb) (hm : behindInMarks op b = false) : EN X (.Compare a [op] [b] pos) (tOp r ta tb) :=
  ⟨fun pins s σ H Q n I h => wpAny_Compare1 (twoN ha hb n I h fun v u s2 x y H2 I2 rx ry q => ho pins s2 σ H2 x y v u Q I2 rx ry q) hm⟩
theorem tn_cmpR {op : CmpOp} {r : R2} (ho : OpR X (compareOp op) r) (ha : EN X a ta) (hb : EN X b tb) (hm : behindInMarks op b = false) : TN X (.Compare a [op] [b] pos) (tTest (tOp r ta tb)) := by
  refine ⟨fun pins s σ H Q n I h => wpAny_isTrue_Compare1 (twoN ha hb n I h fun v u s2 x y H2 I2 rx ry q => thn (ho pins s2 σ H2 x y v u _ I2 rx ry q) fun c s3 w => ?_) hm⟩
  obtain ⟨z, H3, I3, r3, k, rfl, q3⟩ := w
  cases r3
  exact wpAny_truthy_bool ⟨H3, I3, q3⟩
theorem tn_not (ha : TN X a tA) : TN X (.UnaryOp .Not a pos) (tNot tA) := ⟨fun pins s σ H Q n I h => isTrue_not (ha.run pins s σ H (fun c H1 => Q (!c) H1) n I h)⟩
theorem tn_val (h : EN X e te) (he : ∀ whole, isTrue e X.env whole = (do let v ← whole; standAt e.pos; holding [v] (truthy v)) := by intro _; rfl) : TN X e (tB te) := by
  refine ⟨fun pins s σ H Q n I hw => isTrue_plain (thn (h.run pins s σ H _ n I hw) fun v s1 w => ?_) (he _)⟩
  obtain ⟨x, H1, I1, r1, d, rfl, q⟩ := w
  cases r1
  exact wpAny_truthy_bool ⟨H1, I1, q⟩
theorem wn_or1 (ha : TN X a tA) : WN X (.BoolOp .Or [a] pos) tA := by
  refine ⟨fun wh pins s σ H Q n I h => isTrue_or (thn (ha.run pins s σ H Q n I h) fun c s1 w => ?_)⟩
  cases c
  · exact isTrue_or_nil w
  · exact w
theorem wn_or (ha : TN X a tA) (hb : WN X (.BoolOp .Or (b :: rest) pos) tB') : WN X (.BoolOp .Or (a :: b :: rest) pos) (L2.tOr tA tB') := by
  refine ⟨fun wh pins s σ H Q n I h => isTrue_or (thnN n (ha.run pins s σ H _ n I h) fun c s1 n1 w => ?_)⟩
  obtain ⟨H1, I1, q⟩ := w
  cases c
  · exact hb.run wh pins s1 σ H1 Q n1 I1 q
  · exact ⟨H1, I1, q⟩
theorem wn_and1 (ha : TN X a tA) : WN X (.BoolOp .And [a] pos) tA := by
  refine ⟨fun wh pins s σ H Q n I h => isTrue_and (thn (ha.run pins s σ H Q n I h) fun c s1 w => ?_)⟩
  cases c
  · exact w
  · exact isTrue_and_nil w
theorem wn_and (ha : TN X a tA) (hb : WN X (.BoolOp .And (b :: rest) pos) tB') : WN X (.BoolOp .And (a :: b :: rest) pos) (L2.tAnd tA tB') := by
  refine ⟨fun wh pins s σ H Q n I h => isTrue_and (thnN n (ha.run pins s σ H _ n I h) fun c s1 n1 w => ?_)⟩
  obtain ⟨H1, I1, q⟩ := w
  cases c
  · exact ⟨H1, I1, q⟩
  · exact hb.run wh pins s1 σ H1 Q n1 I1 q
theorem WN.tn (h : WN X e tA) : TN X e tA := ⟨h.run _⟩
theorem en_one {op : BoolOp} (h : EN X a ta) : EN X (.BoolOp op [a] pos) ta := ⟨fun pins s σ H Q n I q => BoolOp_one (h.run pins s σ H Q n I q)⟩
theorem en_and (ha : EN X a ta) (hb : EN X (.BoolOp .And (b :: rest) pos) tb) : EN X (.BoolOp .And (a :: b :: rest) pos) (tAndV ta tb) := by
  refine ⟨fun pins s σ H Q n I h => BoolOp_and (thnN n (ha.run pins s σ H _ n I h) fun v s1 n1 w => ?_)⟩
  obtain ⟨x, H1, I1, r1, c, rfl, q⟩ := w
  cases r1
  refine wpAny_truthy_bool ?_
  cases c
  · exact ⟨.bl false, H1, I1, rfl, q⟩
  · exact hb.run pins s1 σ H1 Q n1 I1 q
theorem en_not (ha : EN X a ta) : EN X (.UnaryOp .Not a pos) (tNotV ta) := by
  refine ⟨fun pins s σ H Q n I h => UnaryOp_ (thn (ha.run pins s σ H _ n I h) fun v s1 w => ?_)⟩
  obtain ⟨x, H1, I1, r1, c, rfl, q⟩ := w
  cases r1
  exact not_of (wpAny_truthy_bool ⟨.bl (!c), H1, I1, rfl, q⟩)
theorem an_nil : AN X [] tNil := an_of pa_nil
theorem an_cons (ha : EN X e te) (hr : AN X es tr) (hs : starEach (e :: es) X.env = (false, eval e X.env) :: starEach es X.env := by rfl) : AN X (e :: es) (tCons te tr) := by
  refine ⟨fun pos pins s σ H Q n I h => ?_⟩
  rw [hs]
  refine Calls.spliced_cons (thnN n (ha.run pins s σ H _ n I h) fun v s1 n1 w => ?_)
  obtain ⟨x, H1, I1, r1, q1⟩ := w
  exact thn (hr.run pos pins s1 σ H1 _ n1 I1 q1) fun us s2 ⟨xs, H2, I2, r2, q2⟩ => ⟨x :: xs, H2, I2, .cons r1 r2, q2⟩
/-! statements -/
theorem ssn_cons (h1 : SN X st t) (h2 : SsN X sts u) : SsN X (st :: sts) (tSeq t u) := by
  refine ⟨fun pins s σ H D n I h => wpAny_execs_cons (thnN n (h1.run pins s σ H { D with nx := u D } n I h) fun f s1 n1 q => ?_)⟩
  cases f with
  | next =>
    obtain ⟨σ', H', I', q⟩ := q
    exact h2.run pins s1 σ' H' D n1 I' q
  | _ => exact q
theorem ssn_one (h1 : SN X st t) : SsN X [st] t := by
  refine ⟨fun pins s σ H D n I h => wpAny_execs_cons (thn (h1.run pins s σ H D n I h) fun f s1 q => ?_)⟩
  cases f with
  | next => exact wpAny_execs_nil q
  | _ => exact q
theorem sn_expr (he : EN X e te) (hs : swapsWith e none pos.line X.env = pure false := by rfl) : SN X (.Expr e pos) (tDrop te) :=
  ⟨fun pins s σ H D n I h => wpAny_Expr_any (thn (he.run pins s σ H _ n I h) fun v s1 ⟨x, H1, I1, _, q⟩ => ⟨σ, H1, I1, q⟩) I.quiet hs⟩
theorem sn_ret (he : EN X e te) : SN X (.Return (some e) pos) (tRet te) :=
  ⟨fun pins s σ H D n I h => wpAny_Return_some (thn (he.run pins s σ H _ n I h) fun v s1 ⟨x, H1, I1, r, q⟩ => ⟨x, σ, H1, I1, r, q⟩)⟩
theorem sn_if {c : Expr} {x y : List Stmt} (hc : TN X c tA) (ha : SsN X x t) (hb : SsN X y u) : SN X (.If c x y pos) (tIfS tA t u) := by
  refine ⟨fun pins s σ H D n I h => wpAny_If (thnN n (hc.run pins s σ H _ n I h) fun d s1 n1 w => ?_)⟩
  obtain ⟨H1, I1, q⟩ := w
  cases d
  · exact hb.run pins s1 σ H1 D n1 I1 q
  · exact ha.run pins s1 σ H1 D n1 I1 q
theorem sn_set {i : Nat} {x : Str} {pos' : Pos} (hN : X.N.Nodup) (hi : X.N[i]? = some x) (hx : Loc X.env.scope x) (he : EN X e te) (hs : swapsWith e (some (.Name x pos')) pos.line X.env = pure false := by rfl)
    (hf : X.fn x = true ∨ X.env.scope.names.lookup x = some .local := by first | exact .inl rfl | exact .inr rfl | assumption) : SN X (.Assign [.Name x pos'] e pos) (tAsg te (gName i)) :=
  ⟨fun pins s σ H D n I h => wpAny_Assign_Name (thn (he.run pins s σ H _ n I h) fun v s1 ⟨y, H1, I1, r, q⟩ => store_ok I1 hN hi hx r (fun s2 I2 => ⟨_, H1, I2, q⟩) hf) hs⟩
theorem sn_while {c : Expr} {body : List Stmt} (hp : PassesOwn (model X.prog X.w) X.A X.env X.xe) (hc : TN X c tA) (hb : SsN X body t) : SN X (.While c body [] pos) (tWhile tA t) := by
  refine ⟨fun pins s σ H D n0 I h => ?_⟩
  obtain ⟨W, ⟨m0, w0⟩, turn⟩ := h
  refine wpAny_While (codeAny_whileLoop (fun n s' => X.s_0.toks ≤ s'.toks ∧ ∃ σ' H', Inv X pins σ' H' s' ∧ W n σ' H') (fun n s1 z => ?_) m0 ⟨n0, σ, H, I, w0⟩)
  obtain ⟨n1, σ1, H1, I1, w1⟩ := z
  refine wpAny_passesOwn hp (thnN n1 (hc.run pins s1 σ1 H1 _ n1 I1 (turn n σ1 H1 w1)) fun d s2 n2 z => ?_)
  obtain ⟨H2, I2, q2⟩ := z
  cases d
  · rw [if_neg Bool.false_ne_true]
    exact wpAny_execs_nil ⟨σ1, H2, I2, q2⟩
  · obtain ⟨N, hN, q2⟩ := q2
    rw [if_pos rfl]
    refine wpAny_passesOwn hp (thnN n2 (hb.run pins s2 σ1 H2 _ n2 I2 q2) fun f s3 n3 q3 => ?_)
    have on : (∃ σ' H', Inv X pins σ' H' s3 ∧ N σ' H') → ∃ m, m < n ∧ X.s_0.toks ≤ s3.toks ∧ ∃ σ' H', Inv X pins σ' H' s3 ∧ W m σ' H' := fun ⟨σ3, H3, I3, k⟩ =>
      let ⟨m, hm, w3⟩ := hN σ3 H3 k
      ⟨m, hm, n3, σ3, H3, I3, w3⟩
    cases f with
    | next => exact on q3
    | cont => exact on q3
    | brk => exact q3
    | ret v => exact q3
theorem sn_for {tg iter : Expr} {body : List Stmt} {wi : TI} {g : TG} (hp : PassesOwn (model X.prog X.w) X.A X.env X.xe) (hc : X.calm = true) (hi : PI X tg iter wi) (hg : PG X tg g) (hb : SsN X body t) (hs : ∀ x, foldedSetIterable iter X.env x = pure x := by intro _; rfl) :
    SN X (.For tg iter body [] pos) (tFor wi g t) := by
  refine ⟨fun pins s σ H D n0 I h => wpAny_For (thnN n0 (hi.run pins s σ H _ I h) fun v s1 n1 h1 => thnN n1 h1 fun itv s2 n2 h2 => ?_) hs⟩
  obtain ⟨it, fp, tn, J, H2, rfl, I2, T, st2, f2, W, ⟨m0, w0⟩, turn⟩ := h2
  have sta : ∀ {G : Hp}, (∀ c ∈ fp, G c = none) → ∀ c ∈ fp, FpOk X pins G c := fun z c hc => ⟨z c hc, (f2 c hc).2⟩
  refine codeAny_forLoop_any (fun n z => X.s_0.toks ≤ z.toks ∧ ∃ i τ G, Inv X pins τ G z ∧ tn i z.heap ∧ (∀ c ∈ fp, G c = none) ∧ W i n τ G) (fun n s3 z => ?_) m0 ⟨n2, 0, σ, H2, I2, st2, fun c hc => (f2 c hc).1, w0⟩
  obtain ⟨n3, i, τ, G, I3, st3, f3, w3⟩ := z
  rcases turn i n τ G w3 with ⟨stop, qn⟩ | ⟨go, N, hN, step⟩
  · refine wpAny_passesOwn hp (thn (T.done X rfl rfl rfl hc i pins s3 τ G X.xe I3 (sta f3) st3 stop) fun r s4 z => ?_)
    obtain ⟨rfl, I4⟩ := z
    exact wpAny_execs_nil ⟨τ, G, I4, qn⟩
  · refine wpAny_passesOwn hp (thnN n3 (T.item X rfl rfl rfl hc i pins s3 τ G X.xe I3 (sta f3) st3 go) fun r s4 n4 z => ?_)
    obtain ⟨u, rfl, h4⟩ := z
    refine wpAny_passesOwn hp (thnN n4 h4 fun _ s5 n5 z => ?_)
    obtain ⟨x, G5, I5, r5, y5, st5, f5⟩ := z
    have J5 := I5.pinned (sta f5) (T.obj _ _ st5)
    refine wpAny_passesOwn hp (thnN n5 (hg.run _ s5 τ G5 x u _ J5 r5 (step x G5 y5)) fun _ s6 n6 z => ?_)
    obtain ⟨τ6, G6, I6, q6⟩ := z
    refine wpAny_passesOwn hp (thnN n6 (hb.run _ s6 τ6 G6 _ n6 I6 q6) fun f s7 n7 q7 => ?_)
    have on : (∃ τ' G', Inv X (pins ++ pinsAt fp s5.heap) τ' G' s7 ∧ N τ' G') → ∃ m, m < n ∧ X.s_0.toks ≤ s7.toks ∧ ∃ i τ' G', Inv X pins τ' G' s7 ∧ tn i s7.heap ∧ (∀ c ∈ fp, G' c = none) ∧ W i m τ' G' := fun ⟨τ7, G7, I7, k7⟩ => by
      obtain ⟨m, hm, w7⟩ := hN τ7 G7 k7
      have pin : ∀ c ∈ fp, ∀ o, s5.heap.get? c = some o → s7.heap.get? c = some o ∧ G7 c = none := fun c hc o e =>
        let z := I7.pin (c, o) (List.mem_append_right _ (List.mem_append_right _ (mem_pinsAt hc e)))
        ⟨z.1, z.2.1⟩
      refine ⟨m, hm, n7, i + 1, τ7, G7, I7.unpinned, T.keep _ _ _ st5 fun c hc o e => (pin c hc o e).1, fun c hc => ?_, w7⟩
      obtain ⟨o, e, _⟩ := T.obj _ _ st5 c hc
      exact (pin c hc o e).2
    cases f with
    | next => exact on q7
    | cont => exact on q7
    | brk => obtain ⟨τ7, G7, I7, q7⟩ := q7; exact ⟨τ7, G7, I7.unpinned, q7⟩
    | ret v => obtain ⟨x7, τ7, G7, I7, r7, q7⟩ := q7; exact ⟨x7, τ7, G7, I7.unpinned, r7, q7⟩
end
/-! ### defs whose promise rests on so many tokens being out -/
structure FnN (m : Nat) (P : Program) (w : World) (K : PySem.W.Frag) (mg : Str → Option Value) (base : Heap) (k : Nat) (f : Addr) (fd : FuncData) (ps : List Str) (sp : Sp) : Prop where
  len : ∀ vs H Q E, sp vs H Q E → vs.length = ps.length
  run : ∀ (A : Around) (outer : List Env) (s : Shared) (H : Hp) (args : Args) (us : List Value) (vs : List V) (Q : VK) (E : XK), m ≤ s.toks → Room k A → Env0 P w K mg base A outer s H → BindsTo s fd args (ps.zip us) → Vals vs us → sp vs H Q E →
    codeAny (model P w) A (.call (.ref f) args) (CR CX0 outer P w H s Q E) s
section
variable {P : Program} {w : World} {K : PySem.W.Frag} {mg : Str → Option Value} {base : Heap} {m : Nat}
theorem _root_.L2.Fun.okN {x qual : Str} {st : Stmt} {f : Addr} {fd : FuncData} {N ps : List Str} {k : Nat} {sp : Sp} (F : Fun K x qual st f fd) (S : FnScope N ps (defScope st)) (len : ∀ vs H Q E, sp vs H Q E → vs.length = ps.length)
    (hbody : ∀ (cdv : Value) (A : Around) (outer : List Env) (s : Shared) (H : Hp) (vs : List V) (Q : VK) (E : XK), m ≤ s.toks → Room k (A.deeper (envOfC qual (defScope st) s.heap.objs.size f cdv)) → sp vs H Q E →
      ∃ t, SsN (cxOf CX0 P w K mg base N qual (defScope st) f cdv A outer s H E).nox (defBody st) t ∧ t { nx := fun _ H' => Q .non H', rt := Q } (start N vs) H) : FnN m P w K mg base (k + 1) f fd ps sp := by
  obtain ⟨oc, od, kV, doc, pm, an, cdv, ct, osl, rfl, lk, hcd⟩ := F.ex
  refine ⟨len, fun A outer s H args us vs Q E hm hr e0 hb r hsp => ?_⟩
  have hl := len _ _ _ _ hsp
  have old : ∀ c o, base.get? c = some o → s.heap.get? c = some o := fun c o e => (e0.bs c o e).1
  have KX : K.In s.heap := e0.mod.kin.keeps old
  have kinds : ∀ y ∈ ps.zip us, (defScope st).names.lookup y.1 = some .local ∨ ((defScope st).names.lookup y.1 = some .cell ∧ ((cellsFrom (s.heap.objs.size + 1) (defScope st).names []).lookup y.1).isSome = true) := fun ⟨c, v⟩ hy =>
    (S.par c (List.of_mem_zip hy).1).imp (fun q => q) fun q => ⟨q, PySem.W.cellsFrom_some _ _ _ (.inl q)⟩
  refine codeAny_call_function hr.depth (KX _ _ lk) rfl S.co S.gen rfl (PySem.W.codeRec_of KX hcd) (hb _ _ _ _ ?_)
  refine wpAny_mono (Wb.wpAny_toks (Nat.le_refl s.toks) (wpAny_newFunctionEnv_cells (Q := fun env s1 => env = envOfC qual (defScope st) s.heap.objs.size f cdv ∧ InCallC s env.locals (bindL env.kindOf (ps.zip us) fun _ => none) env.cells (bindC env.kindOf (ps.zip us) fun _ => none) s1) S.kind kinds fun env he s1 x => ⟨he, x⟩)) (fun env s1 z => ?_) fun _ _ z => z
  obtain ⟨⟨he, x⟩, hk⟩ := z
  subst he
  refine ⟨(e0.mod.nolimit.keeps old).keeps x.toInCall.keep, codeAny_func ?_⟩
  obtain ⟨t, ht, hq⟩ := hbody cdv A outer s H vs Q E hm (hr.deeper _) hsp
  have I : Inv (cxOf CX0 P w K mg base N qual (defScope st) f cdv A outer s H E) [] (start N vs) H s1 := inv_start S hr.hd e0 hl r x
  have fin : ∀ {τ : L2.St} {G : Hp} {v : V} {u : Value} {z : Shared}, Inv (cxOf CX0 P w K mg base N qual (defScope st) f cdv A outer s H E) [] τ G z → RelV v u → Q v G → CE outer P w H s Q u z :=
    fun {τ G v u z} J rv q => ⟨v, G, J.os, J.bare, J.base, J.hok, rv, q⟩
  refine wpAny_mono (ht.run [] s1 (start N vs) H _ hk (I.wish _) hq) (fun fl z hz => ?_) fun e z hz => False.elim hz
  have hz := SP.unwish hz
  cases fl with
  | ret u =>
    obtain ⟨v, τ, G, J, rv, q⟩ := hz
    exact fin J rv q
  | next =>
    obtain ⟨τ, G, J, q⟩ := hz
    exact fin (v := V.non) (u := Value.none) J rfl q
  | brk => obtain ⟨_, _, _, q⟩ := hz; exact False.elim q
  | cont => obtain ⟨_, _, _, q⟩ := hz; exact False.elim q
end
section
variable {X : Cx} {k m : Nat} {f : Addr} {fd : FuncData} {ps : List Str} {sp : Sp} {x : Str} {p pos : Pos} {e o : Expr} {es : List Expr} {t : TA} {te to : TE} {K : PySem.W.Frag}
theorem en_call (F : FnN m X.prog X.w X.K X.mg X.base k f fd ps sp) (hm : m ≤ X.s_0.toks) (hr : Room k X.A) (hg : Gl X x) (hx : X.mg x = some (.ref f)) (hk : PySem.W.keepIn X.K (.ref f) = true) (hb : Binds X.K fd ps [])
    (ha : AN X (e :: es) t) (hdb : (x == ("__debug__" : Str)) = false := by decide) (he : starEach (e :: es) X.env = (false, eval e X.env) :: starEach es X.env := by rfl) (hpl : (backTo pos (starEach es X.env)).any (·.1) = false := by rfl) :
    EN X (.Call (.Name x p) (e :: es) [] pos) (tCall sp [] E0 t) := by
  refine ⟨fun pins s σ H Q n I h => wpAny_Call_Name_kw (ld_glob I hg hx ?_ hdb)⟩
  refine PySem.W.callWith_K (h₀ := X.base) I.ok.mod.kin hk (thnN n (ha.run pos pins s σ H _ n I h) fun us s1 n1 z => ?_) he hpl
  obtain ⟨vs, H1, I1, r, q⟩ := z
  refine ⟨I1.kIn, ?_⟩
  have q' : sp vs H1 Q E0 := by simpa using q
  have hl : us.length = ps.length := by rw [← r.length]; exact F.len _ _ _ _ q'
  have b := hb s1 us I1.kIn (by simpa using hl)
  rw [List.append_nil] at b
  refine wpAny_call (codeAny_mono (F.run X.A X.stack s1 H1 ⟨us, []⟩ us vs Q E0 (Nat.le_trans hm n1) hr I1.env0 b r q') fun res s' hq => ?_)
  cases res with
  | error e => exact False.elim hq
  | ok fl => cases fl with
    | ret u => exact I1.after hq
    | _ => exact False.elim hq
theorem en_callB {id : String} {r : List V → Hp → VK → Prop} (hc : CallR X (.builtin id) r) (hg : Gl X x) (hm : X.mg x = none) (hv : bootBuiltins x = some (.builtin id)) (ha : AN X (e :: es) t) (hn : x ≠ "__name__" := by decide) (hdb : (x == ("__debug__" : Str)) = false := by decide)
    (he : starEach (e :: es) X.env = (false, eval e X.env) :: starEach es X.env := by rfl) (hpl : (backTo pos (starEach es X.env)).any (·.1) = false := by rfl) : EN X (.Call (.Name x p) (e :: es) [] pos) (tCB r t) :=
  ⟨fun pins s σ H Q n I h => wpAny_Call_Name_kw (ld_blt I hg hm hv (PyProof.Rows.callWith_builtin1 (thn (ha.run pos pins s σ H _ n I h) fun us s1 ⟨vs, H1, I1, r1, q1⟩ => hc pins s1 σ H1 vs us Q I1 r1 q1) he hpl) hn hdb)⟩
/-- a text's method with one argument -/
theorem en_m1 {id : String} {name : Str} {apos : Pos} {r : V → List V → Hp → VK → Prop} (slot : Slot "str" name id) (ty : typeOf (.builtin id) = pure (.type "method_descriptor")) (rule : MtR X id r) (ho : EN X o to) (he : EN X e te)
    (hs : starEach [e] X.env = [(false, eval e X.env)] := by rfl) (hbase : attributeBase o name X.env (eval o X.env) = eval o X.env := by rfl) (hline : (apos.endLine == pos.line) = true := by rfl) : EN X (.Call (.Attribute o name apos) [e] [] pos) (tM1 r to te) := by
  refine ⟨fun pins s σ H Q n I h => PySem.Call_method1 hbase hs hline (thnN n (ho.run pins s σ H _ n I h) fun v s1 n1 z => ?_)⟩
  obtain ⟨x, H1, I1, r1, ⟨a, rfl⟩, q1⟩ := z
  obtain ⟨k, rfl⟩ := _root_.id r1
  refine ⟨"str", _, F.plainAttrs_str, slot, ty, typeIs_str _ _ _, (fun _ e => nomatch e), Calls.callWith_builtin rfl (Calls.evalArgs_plain (Calls.spliced_cons ?_))⟩
  exact thn (he.run pins s1 σ H1 _ n1 I1 q1) fun u s2 ⟨y, H2, I2, r2, q2⟩ => Calls.spliced_nil (rule pins s2 σ H2 _ [y] _ [u] Q I2 r1 (.cons r2 .nil) q2)
/-- a list's method -/
theorem en_bmK (hK : X.K = K) {name : Str} {apos cpos : Pos} {Ty id : String} {r : V → List V → Hp → VK → Prop} (pa : PlainAttrs Ty) (slot : Slot Ty name id) (hty : typeOf (.builtin id) = pure (.type "method_descriptor")) (hm : MtR X id r) (ho : EN X o to) (ha : AN X (e :: es) t)
    (hbase : attributeBase o name X.env (eval o X.env) = eval o X.env := by rfl) (hfew : ((backTo cpos (starEach (e :: es) X.env)).all (fun x => !x.1) && (backToKw cpos (keywordEach [] X.env)).all (fun x => x.1.isSome) && decide ((e :: es).length + ([] : List Keyword).length + (if ([] : List Keyword).isEmpty then 0 else 1) < 30)) = true := by rfl)
    (hline : (apos.endLine == cpos.line) = true := by rfl) (hs : starEach (e :: es) X.env = (false, eval e X.env) :: starEach es X.env := by rfl) (hpl : (backTo cpos (starEach es X.env)).any (·.1) = false := by rfl) : EN X (.Call (.Attribute o name apos) (e :: es) [] cpos) (tBM K Ty r to t) := by
  subst hK
  refine ⟨fun pins s σ H Q n I h => wpAny_Call_method_late hbase hfew hline rfl (thnN n (ho.run pins s σ H _ n I h) fun v s1 n1 z => ?_)⟩
  obtain ⟨x, H1, I1, r1, ty, q1⟩ := z
  obtain ⟨h1, h2⟩ := tyV_is I1 r1 ty
  refine ⟨Ty, id, pa, slot, hty, h1, h2, ?_⟩
  have hA := ha.run cpos pins s1 σ H1 _ n1 I1 q1
  rw [hs] at hA ⊢
  refine Calls.callWith_builtin (show (false || (backTo cpos (starEach es X.env)).any (·.1)) = false by rw [hpl]; rfl) (Calls.evalArgs_plain (thn hA fun us s2 z => ?_))
  obtain ⟨vs, H2, I2, r2, q2⟩ := z
  exact hm pins s2 σ H2 x vs v us Q I2 r1 r2 q2
end
/-! ### a list made of a list -/
section
variable {X : Cx} {elt tg iter : Expr} {ifs : List Expr} {scope : Scope} {own : List (Str × Nat)} {pos : Pos} {wi : TI} {g : TG} {tt : TT} {te : TE}
theorem en_lc (hc : X.calm = true) (hN : X.N.Nodup) (hi : PI X tg iter wi) (ok : BlkOk X.N X.env.scope scope own) (hg : ∀ (s : Shared) (H : Hp) (C : Addr) (cl : List (Str × Addr)) (fp : List Addr), PG (X.blk s H scope (compEnvC scope cl C X.env) fp) tg g)
    (ht : ∀ (s : Shared) (H : Hp) (C : Addr) (cl : List (Str × Addr)) (fp : List Addr), PTs (X.blk s H scope (compEnvC scope cl C X.env) fp) ifs tt)
    (he : ∀ (s : Shared) (H : Hp) (C : Addr) (cl : List (Str × Addr)) (fp : List Addr), X.s_0.toks ≤ s.toks → EN (X.blk s H scope (compEnvC scope cl C X.env) fp) elt te) (hs : ∀ x, foldedSetIterable iter X.env x = pure x := by intro _; rfl) :
    EN X (.ListComp elt [⟨tg, iter, ifs, 0⟩] scope pos) (tLc wi g tt te (own.map (·.2))) := by
  refine ⟨fun pins s σ H Q n0 I h => ?_⟩
  rw [eval_ListComp]
  have frees : ∀ y ∈ scope.names, y.2 = .free → ∃ c, X.env.cells.lookup y.1 = some c := fun y hy e => (ok.free y hy e).elim (fun k => I.ok.has _ (.inl k)) fun k => I.ok.has _ (.inr k)
  refine wpAny_comprehension_free (use := none) rfl hs (closure_ok frees) ok.kind (fun y hy e => by rw [ok.uniq y hy, e]) (thnN n0 (hi.run pins s σ H _ I h) fun xv s1 n1 hx => thnN n1 hx fun itv s2 n2 h2 => ?_)
  obtain ⟨it, fp, tn, J, H2, rfl, I2, T, st2, f2, q⟩ := h2
  refine wpAny_newObj_type (newEnv_comp ?_) (by show 0 ≤ sizeLine; decide)
  generalize hD : s2.heap.objs.size = D
  obtain ⟨W, ⟨m0, w0⟩, turn⟩ := q D (I2.hok.fresh (Nat.le_of_eq hD))
  generalize hz3 : ({ s2 with heap := s2.heap.push { cls := .type "list", data := .seq ([] : List Value).toArray } } : Shared) = z3
  have n3 : X.s_0.toks ≤ z3.toks := by rw [← hz3]; exact n2
  have hp3 : z3.heap = s2.heap.push { cls := .type "list", data := .seq ([] : List Value).toArray } := by rw [← hz3]
  have I3 : Inv X pins σ (upd H2 D (.lst [])) z3 := by
    subst hz3
    exact I2.laid (t' := s2.toks) (fun c o e => Heap.get?_push_of_some _ e) (Nat.le_of_eq hD) ⟨Nat.zero_le _, [], 0, .nil, by rw [← hD]; exact Heap.get?_push_size _ rfl⟩
  have low : ∀ c ∈ fp, c < s2.heap.objs.size := fun c hc => let ⟨_, e, _⟩ := T.obj _ _ st2 c hc; Heap.lt_size e
  have f3 : ∀ c ∈ fp, FpOk X pins (upd H2 D (.lst [])) c ∧ c < z3.heap.objs.size := fun c hc =>
    ⟨⟨(upd_ne (by rw [← hD]; exact Nat.ne_of_lt (low c hc))).trans (f2 c hc).1, (f2 c hc).2⟩, by rw [hp3, Heap.size_push]; exact Nat.lt_succ_of_lt (low c hc)⟩
  have st3 : tn 0 z3.heap := T.keep _ _ _ st2 fun c _ o e => by rw [hp3]; exact Heap.get?_push_of_some _ e
  have I4 := block_start I3 ok hN f3
  generalize hcl : cellsFrom (z3.heap.objs.size + 1) scope.names (cloFrom X.env.cells scope.names []) = cl at I4
  have jg := hg z3 (upd H2 D (.lst [])) z3.heap.objs.size cl fp
  have jt := ht z3 (upd H2 D (.lst [])) z3.heap.objs.size cl fp
  have je := he z3 (upd H2 D (.lst [])) z3.heap.objs.size cl fp n3
  have non3 : ∀ c ∈ fp, (upd H2 D (.lst [])) c = none := fun c hc => (f3 c hc).1.1
  show codeAny _ _ (.compStart (.ListComp elt [⟨tg, iter, ifs, 0⟩] scope pos) 0 (.ref it) (.ref D) (compEnvC scope cl z3.heap.objs.size X.env)) (compPost _ _ _ none _ (.ref D) z3.heap.objs.size) _
  generalize hce : compEnvC scope cl z3.heap.objs.size X.env = ce at I4 jg jt je ⊢
  have hL : ce.locals = z3.heap.objs.size := by subst hce; rfl
  generalize upd H2 D (.lst []) = G3 at I3 I4 jg jt je w0 non3 f3
  generalize hz4 : ({ z3 with heap := pushCells (z3.heap.push { cls := .type "dict", data := .dict #[] }) scope.names } : Shared) = z4 at I4 ⊢
  have n4 : z3.toks ≤ z4.toks := by rw [← hz4]; exact Nat.le_refl _
  have st4 : tn 0 z4.heap := T.keep _ _ _ st3 fun c _ o e => by rw [← hz4]; exact pushCells_keeps _ _ _ _ (Heap.get?_push_of_some _ e)
  have sta : ∀ {τ : L2.St} {G : Hp} {z : Shared}, Inv (X.blk z3 G3 scope ce fp) [] τ G z → (∀ c ∈ fp, G c = none) → ∀ c ∈ fp, FpOk (X.blk z3 G3 scope ce fp) [] G c := fun J k c hc => ⟨k c hc, (J.ok.exf c hc).1, J.ok.exfs c hc, .inl hc, fun x d e => (J.ok.exf c hc).2 x d e, fun p hp => nomatch (show p ∈ ([] : List (Addr × Obj)) from hp)⟩
  have loop : codeAny (model X.prog X.w) X.A (.compLoop (.ListComp elt [⟨tg, iter, ifs, 0⟩] scope pos) 0 (.ref it) (.ref D) ce) (compPost (model X.prog X.w) X.A X.xe none (EP X pins σ Q) (.ref D) z3.heap.objs.size) z4 := by
    refine compLoop_any (fun n z => z3.toks ≤ z.toks ∧ ∃ i G, Inv (X.blk z3 G3 scope ce fp) [] (wipe σ (own.map (·.2))) G z ∧ tn i z.heap ∧ (∀ c ∈ fp, G c = none) ∧ W i n G) (fun n s5 z => ?_) m0 ⟨n4, 0, G3, I4, st4, non3, w0⟩
    obtain ⟨n5, i, G, I5, st5, f5, w5⟩ := z
    rcases turn i n G w5 with ⟨stop, qq⟩ | ⟨go, Nx, hNx, step⟩
    · refine thnF (T.done (X.blk z3 G3 scope ce fp) rfl rfl rfl hc i [] s5 _ G (fun _ _ => False) I5 (sta I5 f5) st5 stop) fun r s6 z => ?_
      obtain ⟨rfl, I6⟩ := z
      have I7 : Inv X pins σ G s6 := I3.call' (ch := fp) I6.os I6.base I6.hok I6.bare fun c hc => let z := (f3 c hc).1; ⟨z.2.2.2.1, z.2.1, z.2.2.2.2.1, z.2.2.2.2.2⟩
      obtain ⟨mm, hn, _⟩ := I6.loc
      have hn : s6.heap.Ns ce.locals mm := hn
      have hf : G ce.locals = none := I6.free
      rw [hL] at hn hf
      obtain ⟨g0, g1, g2, g3, g4, g5⟩ := I3.fpOk (Nat.le_refl _) hf
      exact ⟨mm, hn, fun hh sb => ⟨.ref D, G, I7.turned (t' := s6.toks) (fun c o hc e => (sb.2 c hc).trans e) g0 g1 g3 g4 g5, rfl, qq⟩⟩
    · refine thnF (Wb.wpAny_toks n5 (T.item (X.blk z3 G3 scope ce fp) rfl rfl rfl hc i [] s5 _ G (fun _ _ => False) I5 (sta I5 f5) st5 go)) fun r s6 z => ?_
      obtain ⟨⟨u, rfl, h6⟩, n6⟩ := z
      refine thnF (Wb.wpAny_toks n6 h6) fun _ s7 z => ?_
      obtain ⟨⟨x, G7, I7, r7, y7, st7, f7⟩, n7⟩ := z
      have J7 := I7.pinned (sta I7 f7) (T.obj _ _ st7)
      refine thnF (Wb.wpAny_toks n7 (jg.run _ s7 _ G7 x u _ J7 r7 (step x G7 y7))) fun _ s8 z => ?_
      obtain ⟨⟨σ8, G8, I8, hw8, q8⟩, n8⟩ := z
      refine thnF (Wb.wpAny_toks n8 (jt.run _ s8 σ8 G8 _ I8 q8)) fun d s9 z => ?_
      obtain ⟨⟨G9, I9, q9⟩, n9⟩ := z
      have fin : ∀ {z : Shared} {K : Hp}, z3.toks ≤ z.toks → Inv (X.blk z3 G3 scope ce fp) ([] ++ pinsAt fp s7.heap) σ8 K z → Nx K → ∃ m, m < n ∧ z3.toks ≤ z.toks ∧ ∃ i G, Inv (X.blk z3 G3 scope ce fp) [] (wipe σ (own.map (·.2))) G z ∧ tn i z.heap ∧ (∀ c ∈ fp, G c = none) ∧ W i m G := fun {z K} nz J nx => by
        obtain ⟨m, hm, w'⟩ := hNx K nx
        have pin : ∀ c ∈ fp, ∀ o, s7.heap.get? c = some o → z.heap.get? c = some o ∧ K c = none := fun c hc o e =>
          let y := J.pin (c, o) (List.mem_append_right _ (List.mem_append_right _ (mem_pinsAt hc e)))
          ⟨y.1, y.2.1⟩
        refine ⟨m, hm, nz, i + 1, K, (J.unpinned (pins := [])).weak (by rw [← hw8, wipe_length]) (fun j v e => by rw [← hw8] at e; exact (wipe_some e).1), T.keep _ _ _ st7 fun c hc o e => (pin c hc o e).1, fun c hc => ?_, w'⟩
        obtain ⟨o, e, _⟩ := T.obj _ _ st7 c hc
        exact (pin c hc o e).2
      cases d with
      | false =>
        rw [if_neg Bool.false_ne_true] at q9 ⊢
        exact fin n9 I9 q9
      | true =>
        rw [if_pos rfl] at q9 ⊢
        refine thnF (Wb.wpAny_toks n9 (je.run _ s9 σ8 G9 _ n9 I9 q9)) fun z s10 w => ?_
        obtain ⟨⟨y, K, I10, r10, acc, hK, hz, nx⟩, n10⟩ := w
        exact wpAny_mono (Wb.wpAny_toks n10 (app_ok (X := X.blk z3 G3 scope ce fp) (Q := fun _ s11 => Inv (X.blk z3 G3 scope ce fp) ([] ++ pinsAt fp s7.heap) σ8 (upd K D (.lst (acc ++ [y]))) s11) I10 hK hz r10 fun s11 I11 => I11)) (fun _ s11 w => fin w.2 w.1 nx) fun _ _ w => w
  exact codeAny_compStart_list loop (T.self X.A 0 _ _ _ st4 loop)
end
/-! ### replace by a text of the module -/
section
variable {X : Cx} {o : Expr} {to : TE} {x : Str} {y : Str} {k m : Nat}
def tRepl (to : TE) (a b : Str) : TE := fun σ H Q => to σ H fun v H1 => ∃ z, v = .str z ∧ z.length + (z.length + 1) * b.length ≤ 16777216 ∧ Q (.str (Txt.replace z a b)) H1
/-- text.replace(G, G + G) -/
theorem en_replG {p1 p2 p3 pb apos pos : Pos} (ho : EN X o to) (hg : Gl X x) (hm : X.mg x = some (.str y k)) (hk : k ≠ 0) (hkm : k < X.s_0.toks) (hl : y.length ≤ 1000) (hne : (y == y ++ y) = false) (hdb : (x == ("__debug__" : Str)) = false := by decide)
    (hst : starEach [.Name x p1, .BinOp (.Name x p2) .Add (.Name x p3) pb] X.env = [(false, eval (.Name x p1) X.env), (false, eval (.BinOp (.Name x p2) .Add (.Name x p3) pb) X.env)] := by rfl)
    (hbase : attributeBase o "replace" X.env (eval o X.env) = eval o X.env := by rfl) (hline : (apos.endLine == pos.line) = true := by rfl) :
    EN X (.Call (.Attribute o "replace" apos) [.Name x p1, .BinOp (.Name x p2) .Add (.Name x p3) pb] [] pos) (tRepl to y (y ++ y)) := by
  refine ⟨fun pins s σ H Q n I h => PySem.Call_method2 hbase hst hline (thnN n (ho.run pins s σ H _ n I h) fun v s1 n1 w => ?_)⟩
  obtain ⟨z, H1, I1, r1, a, rfl, hb, q⟩ := w
  obtain ⟨ta, rfl⟩ := r1
  refine ⟨"str", _, F.plainAttrs_str, F.slot_str_replace, F.type_str_replace, typeIs_str _ _ _, (fun _ e => nomatch e), Calls.callWith_builtin rfl (Calls.evalArgs_plain (Calls.spliced_cons (ld_glob I1 hg hm ?_ hdb)))⟩
  refine Calls.spliced_cons (wpAny_BinOp (ld_glob I1 hg hm (ld_glob I1 hg hm (P.add_str ?_) hdb) hdb))
  have hy : (y.length == 0) = false := by
    rw [beq_eq_false_iff_ne]
    intro z
    have e : y = y ++ y := by
      rw [str_eq, TL.tl_append]
      rw [tl_len] at z
      rw [List.eq_nil_of_length_eq_zero z]; rfl
    rw [← e] at hne
    simp at hne
  rw [hy]
  refine ⟨by rw [len_app, sizeLine_eq]; omega, Calls.spliced_nil ?_⟩
  exact PySem.SC.replace hk (show s1.toks ≠ 0 by omega) (show k ≠ s1.toks by omega) hne hb fun t' j => ⟨.str _, H1, I1.tok j, ⟨t', rfl⟩, q⟩
/-- text.replace(G + G, G) -/
theorem en_replH {p1 p2 p3 pb apos pos : Pos} (ho : EN X o to) (hg : Gl X x) (hm : X.mg x = some (.str y k)) (hk : k ≠ 0) (hkm : k < X.s_0.toks) (hl : y.length ≤ 1000) (hne : (y ++ y == y) = false) (hdb : (x == ("__debug__" : Str)) = false := by decide)
    (hst : starEach [.BinOp (.Name x p2) .Add (.Name x p3) pb, .Name x p1] X.env = [(false, eval (.BinOp (.Name x p2) .Add (.Name x p3) pb) X.env), (false, eval (.Name x p1) X.env)] := by rfl)
    (hbase : attributeBase o "replace" X.env (eval o X.env) = eval o X.env := by rfl) (hline : (apos.endLine == pos.line) = true := by rfl) :
    EN X (.Call (.Attribute o "replace" apos) [.BinOp (.Name x p2) .Add (.Name x p3) pb, .Name x p1] [] pos) (tRepl to (y ++ y) y) := by
  refine ⟨fun pins s σ H Q n I h => PySem.Call_method2 hbase hst hline (thnN n (ho.run pins s σ H _ n I h) fun v s1 n1 w => ?_)⟩
  obtain ⟨z, H1, I1, r1, a, rfl, hb, q⟩ := w
  obtain ⟨ta, rfl⟩ := r1
  refine ⟨"str", _, F.plainAttrs_str, F.slot_str_replace, F.type_str_replace, typeIs_str _ _ _, (fun _ e => nomatch e), Calls.callWith_builtin rfl (Calls.evalArgs_plain (Calls.spliced_cons (wpAny_BinOp (ld_glob I1 hg hm (ld_glob I1 hg hm (P.add_str ?_) hdb) hdb))))⟩
  have hy : (y.length == 0) = false := by
    rw [beq_eq_false_iff_ne]
    intro z
    have e : y ++ y = y := by
      rw [str_eq, TL.tl_append]
      rw [tl_len] at z
      rw [List.eq_nil_of_length_eq_zero z]; rfl
    rw [e] at hne
    simp at hne
  rw [hy]
  refine ⟨by rw [len_app, sizeLine_eq]; omega, Calls.spliced_cons (ld_glob (I1.tok _) hg hm (Calls.spliced_nil ?_) hdb)⟩
  exact PySem.SC.replace (show s1.toks ≠ 0 by omega) hk (show s1.toks ≠ k by omega) hne hb fun t' j => ⟨.str _, H1, I1.tok j, ⟨t', rfl⟩, q⟩
end
/-! at the level of data -/
def eRepl (e : E3) (a b : Str) : E3 := fun s μ Q => e s μ fun d μ1 => match d with
  | .v (.str z) => z.length + (z.length + 1) * b.length ≤ 16777216 ∧ Q (.v (.str (Txt.replace z a b))) μ1
  | _ => False
section
variable {K : PySem.W.Frag} {I : Pre} {t : TE} {e : E3} {a b : Str}
theorem s_repl (h : SE K I t e) : SE K I (tRepl t a b) (eRepl e a b) := fun w σ s Q Q3 S he q => by
  refine h w σ s _ _ S he fun w1 v d L R1 rv g => ?_
  cases rv with
  | v =>
    cases v with
    | str z =>
      obtain ⟨h1, h2⟩ := g
      exact ⟨z, rfl, h1, q w1 _ _ L R1 (.v _) h2⟩
    | _ => exact g.elim
  | _ => exact g.elim
end
/-! ### the end -/
theorem walk_ofN {l : PySem.W.OpenLaw} {n k m : Nat} {q : Program} {loose : List Str} {XP : (Str → Option Value) → Heap → Prop} {YP : World → Heap → Prop} {d : DefRec} {K : Params → PySem.W.Frag} {sp : World → Sp} {x : Str}
    (hI : importsNone q = true) (hn : l.most = some n) (hn2 : n ≤ sizeLine) (hdf : d.params.defaults = []) (hr : Room k callerA) (hY : ∀ (w : World) (h : Heap), YP w h → (K w.params).In h) (hK : ∀ w : World, (K w.params).lookup sysModules = none)
    (F : ∀ (w : World) (mg : Str → Option Value) (fa : Addr) (h : Heap), (K w.params).In h → h.Ns mainGlobals mg → mg d.name = some (.ref fa) → ∃ fd : FuncData, (∀ (s : Shared) (u : Value), BindsTo s fd ⟨[u], []⟩ [(x, u)]) ∧
      ∀ base : Heap, (K w.params).In base → base.Ns mainGlobals mg → FnN m l.prog w (K w.params) mg base k fa fd [x] (sp w))
    (hsp : ∀ (w : World) (H : Hp) (a : Addr) (ns : List Int), ns.length ≤ n → H sysModules ≠ none → a ≠ sysModules → SqL (K w.params) H a (ns.map V.int) → sp w [.ref a] H (fun v _ => v = .bl true) fun _ _ _ => False) :
    WalkT m q loose XP YP l.row.toRowW d [] := by
  intro w s₀ t mg mb ht G Y fa o pm cd doc dv kv ho hd hcd hD hmg hg ds us as hpre hlay hrd hwl hlo
  obtain rfl := PySem.W.Dflts.none hD hdf
  obtain rfl := PySem.W.Dflts.noKw hD
  obtain ⟨a, vs, ns, rfl, rfl, hobj, hints, hlen⟩ := Att.script_of hn hpre hwl
  obtain ⟨fd, hb, hF⟩ := F w mg fa _ (hY w _ Y) G.T.g hmg
  obtain ⟨mm, hm, _⟩ := (G.T.seer hI).mods
  have run := law_callR (hY w _ Y) G.T.g G.T.b G.T.builtins G.T.nolimit hg hm (hK w) hobj hints (Nat.le_trans hlen hn2) (fun base H args us vs Q E h1 h2 e b v q => (hF base h1 h2).run callerA [] t H args us vs Q E ht hr e b v q) hb fun H h1 h2 h3 => hsp w H a ns hlen h1 h2 h3
  refine PySem.W.enter_call (codeAny_mono run fun r t' z => ?_)
  obtain ⟨rfl, h2, h3, h4⟩ := z
  exact ⟨.inl ⟨.bool true, .bool true, [], rfl, fun _ => rfl, .bool true, Att.post_true l _, fun _ => ⟨List.Pairwise.nil, fun _ hm => (nomatch hm)⟩⟩, h2, h3, h4⟩
/-- what is looked at behind the top: the written part, and whether so many tokens are out -/
def tkHook (K : Params → PySem.W.Frag) (as : List Addr) (e : ∀ P, as = (K P).map (·.1)) (m : Nat) : PySem.W.Hook where
  α := List (Option Obj) × Bool
  obs := fun s => (as.map s.heap.get?, Nat.ble m s.toks)
  val := fun w => ((K w.params).map fun p => some p.2, true)
  says := PySem.W.InK K
  of := fun w s x => PySem.W.InK.of e w s (Prod.mk.inj x).1
  keeps := PySem.W.InK.keeps
theorem tk_toks {K : Params → PySem.W.Frag} {as : List Addr} {e : ∀ P, as = (K P).map (·.1)} {m : Nat} (w : World) (s : Shared) (x : (tkHook K as e m).obs s = (tkHook K as e m).val w) : m ≤ s.toks := Nat.le_of_ble_eq_true (Prod.mk.inj x).2
theorem tk_in {K : Params → PySem.W.Frag} {as : List Addr} {e : ∀ P, as = (K P).map (·.1)} {m : Nat} {w : World} {h : Heap} (Y : (tkHook K as e m).says w h) : (K w.params).In h := Y
end Wb

set_option Elab.async false
set_option linter.all false
set_option maxRecDepth 100000
set_option maxHeartbeats 1000000
/-! the head at work: the parts come from the kit's own, the token count rides along -/
namespace Wb
open PySem PySem.Spec PyProof.Rows L2
/-- a statement that is never come to -/
def xNever : S3 := fun _ _ _ => False
theorem x_never {K : PySem.W.Frag} {I : Pre} : SS K I tNever xNever := fun w σ s D D3 S h q => h.elim
section
open PySem.W PySem.Calls
/-- the head's lemma with the tokens out counted beside what the hook looks at -/
theorem holds_openM (m : Nat) {r : OpenRow} {q : Program} {loose : List Str} {Xt : Shared → Bool} {XP : (Str → Option Value) → Heap → Prop} {α : Type} {Yf : Shared → α} {Ya : World → α} {YP : World → Heap → Prop} {d : DefRec} {kwd : List (Str × Expr)} {N : Nat}
    (left : LeftO r.prog q loose Xt (fun s => (Yf s, Nat.ble m s.toks)) (fun w => (Ya w, true)) N) (hY : ∀ w s, Yf s = Ya w → YP w s.heap) (hYk : ∀ w g g', YP w g → (∀ b o, g.get? b = some o → g'.get? b = some o) → YP w g')
    (hX : ∀ s, Xt s = true → XP (s.heap.nsMap mainGlobals) s.heap) (hXk : ∀ mg g g', XP mg g → (∀ b o, g.get? b = some o → g'.get? b = some o) → XP mg g')
    (hdef : defOf q r.name = some (d, kwd)) (hp : r.prog.theDef r.name = some (d.params, d.body, d.scope)) (hk : kwWritten? d.params.kwonlyargs d.params.kw_defaults = some kwd) (hRf : ∀ s, Xt s = true → RecFacts r.records s.heap)
    (hwr : (!r.writes || r.records.isEmpty) = true) (k1 : r.wellSaid = true) (ok : (chainsOk q && opensWell r.prog && (frees r.toRowW && r.within.isEmpty)) = true) (hb : r.prog.bare) (hw : r.toRowW.promised)
    (walk : WalkT m q loose XP YP r.toRowW d kwd) : r.Holds :=
  holds_openT (Yf := fun s => (Yf s, Nat.ble m s.toks)) (Ya := fun w => (Ya w, true)) (fun _ _ x => Nat.le_of_ble_eq_true (Prod.mk.inj x).2) left (fun w s x => hY w s (Prod.mk.inj x).1) hYk hX hXk hdef hp hk hRf hwr k1 ok hb hw walk
end
end Wb

set_option Elab.async false
set_option linter.all false
set_option maxRecDepth 100000
set_option maxHeartbeats 1000000
/-! rows of words as texts, on lists of signs -/
namespace Wb
open PySem PySem.Spec PyProof.Rows L2
open TL (tl)
open StrLaws (dbl)
/-- a word as it is written -/
def wt (w : Str) : Str := if w ≠ Str.ofString "" ∧ subS (Str.ofString " ") w = false ∧ subS (Str.ofString "'") w = false then w else Str.ofString "'" ++ Txt.replace w (Str.ofString "'") (Str.ofString "'" ++ Str.ofString "'") ++ Str.ofString "'"
def rowT (ws : List Str) : Str := Txt.join (Str.ofString " ") (ws.map wt)
def bareL (l : List Nat) : Bool := decide (l ≠ []) && decide (32 ∉ l) && decide (39 ∉ l)
def wtL (l : List Nat) : List Nat := if bareL l = true then l else 39 :: (dbl 39 l ++ [39])
def rowL : List (List Nat) → List Nat
  | [] => []
  | [w] => wtL w
  | w :: v :: r => wtL w ++ (32 :: rowL (v :: r))
theorem sgB : Str.ofString " " = ⟨#[32]⟩ := by decide +kernel
theorem sgQ : Str.ofString "'" = ⟨#[39]⟩ := by decide +kernel
theorem sgQQ : Str.ofString "'" ++ Str.ofString "'" = ⟨#[39, 39]⟩ := by decide +kernel
theorem tl_dbl (w : Str) : tl (Txt.replace w (Str.ofString "'") (Str.ofString "'" ++ Str.ofString "'")) = dbl 39 (tl w) := by
  rw [sgQQ, sgQ]; exact StrLaws.replace_double w 39
theorem wt_bare (w : Str) : (w ≠ Str.ofString "" ∧ subS (Str.ofString " ") w = false ∧ subS (Str.ofString "'") w = false) ↔ bareL (tl w) = true := by
  have e : (w = Str.ofString "") ↔ tl w = [] := by rw [str_eq]; rw [show tl (Str.ofString "") = [] from by decide +kernel]
  unfold bareL
  rw [sgB, sgQ, sub_one, sub_one]
  simp [e, and_assoc]
theorem tl_wt (w : Str) : tl (wt w) = wtL (tl w) := by
  unfold wt wtL
  by_cases h : bareL (tl w) = true
  · rw [if_pos ((wt_bare w).mpr h), if_pos h]
  · rw [if_neg fun z => h ((wt_bare w).mp z), if_neg h, TL.tl_append, TL.tl_append, tl_dbl, sgQ]
    rfl
theorem rowL_eq : ∀ ws : List Str, TL.joinL [32] ((ws.map wt).map tl) = rowL (ws.map tl)
  | [] => rfl
  | [w] => tl_wt w
  | w :: v :: r => by
    have ih := rowL_eq (v :: r)
    show tl (wt w) ++ ([32] ++ TL.joinL [32] (((v :: r).map wt).map tl)) = wtL (tl w) ++ (32 :: rowL ((v :: r).map tl))
    rw [ih, tl_wt]; rfl
theorem tl_rowT (ws : List Str) : tl (rowT ws) = rowL (ws.map tl) := by
  unfold rowT
  rw [TL.join_eq, TL.tl_join, show tl (Str.ofString " ") = [32] from by decide +kernel, rowL_eq]
theorem wtL_ne (l : List Nat) : wtL l ≠ [] := by
  unfold wtL
  split
  · rename_i h
    unfold bareL at h
    rw [Bool.and_eq_true, Bool.and_eq_true] at h
    exact of_decide_eq_true h.1.1
  · simp
theorem rowL_ne {w : List Nat} {r : List (List Nat)} : rowL (w :: r) ≠ [] := by
  cases r with
  | nil => exact wtL_ne w
  | cons v r => show wtL w ++ _ ≠ []; simp
/-- what stands behind a word -/
def tailL : List (List Nat) → List Nat
  | [] => []
  | v :: r => 32 :: rowL (v :: r)
theorem rowL_cons (w : List Nat) (r : List (List Nat)) : rowL (w :: r) = wtL w ++ tailL r := by
  cases r with
  | nil => show wtL w = wtL w ++ []; rw [List.append_nil]
  | cons v r => rfl
theorem tailL_head {c : Nat} {l : List Nat} {r : List (List Nat)} (h : tailL r = c :: l) : c = 32 := by
  cases r with
  | nil => cases h
  | cons v r => cases h; rfl
/-- how far a quoted word goes -/
def qE : List Nat → Nat
  | [] => 0
  | c :: r => if c = 39 then (match r with
    | d :: r' => if d = 39 then 2 + qE r' else 0
    | [] => 0) else 1 + qE r
theorem qE_dbl {t : List Nat} (ht : ∀ c l, t = c :: l → c ≠ 39) : ∀ l : List Nat, qE (dbl 39 l ++ 39 :: t) = (dbl 39 l).length
  | [] => by
    show qE (39 :: t) = 0
    unfold qE
    rw [if_pos rfl]
    cases t with
    | nil => rfl
    | cons c l => exact if_neg (ht c l rfl)
  | c :: r => by
    have ih := qE_dbl ht r
    by_cases h : c = 39
    · subst h
      rw [show dbl 39 (39 :: r) = 39 :: 39 :: dbl 39 r from by simp [dbl]]
      show qE (39 :: 39 :: (dbl 39 r ++ 39 :: t)) = _
      rw [qE.eq_def]
      dsimp only
      rw [if_pos rfl, if_pos rfl, ih]
      simp; omega
    · rw [show dbl 39 (c :: r) = c :: dbl 39 r from by simp [dbl, h]]
      show qE (c :: (dbl 39 r ++ 39 :: t)) = _
      rw [qE.eq_def]
      dsimp only
      rw [if_neg h, ih]
      simp; omega
/-- how far a bare word goes -/
def bE : List Nat → Nat
  | [] => 0
  | c :: r => if c = 32 then 0 else 1 + bE r
theorem bE_free {t : List Nat} (ht : ∀ c l, t = c :: l → c = 32) : ∀ {l : List Nat}, 32 ∉ l → bE (l ++ t) = l.length
  | [], _ => by
    cases t with
    | nil => rfl
    | cons c l => exact if_pos (ht c l rfl)
  | c :: r, h => by
    have h1 : ¬ c = 32 := fun e => h (e ▸ List.mem_cons_self ..)
    have ih := bE_free ht (l := r) fun z => h (List.mem_cons_of_mem _ z)
    show (if c = 32 then 0 else 1 + bE (r ++ t)) = _
    rw [if_neg h1, ih]; simp; omega
theorem undbl : ∀ l : List Nat, StrLaws.replL [39, 39] [39] (dbl 39 l) = l
  | [] => StrLaws.replL_nil
  | c :: r => by
    have ih := undbl r
    by_cases h : c = 39
    · subst h
      rw [show dbl 39 (39 :: r) = 39 :: 39 :: dbl 39 r from by simp [dbl], StrLaws.replL_hit (by simp) (by simp)]
      show [39] ++ StrLaws.replL [39, 39] [39] (dbl 39 r) = _
      rw [ih]; rfl
    · rw [show dbl 39 (c :: r) = c :: dbl 39 r from by simp [dbl, h], StrLaws.replL_miss (by simp [h]), ih]
theorem undouble {x w : Str} (h : tl x = dbl 39 (tl w)) : Txt.replace x (Str.ofString "'" ++ Str.ofString "'") (Str.ofString "'") = w := by
  rw [str_eq]
  have e := StrLaws.replace_list (x := x) (y := Str.ofString "'" ++ Str.ofString "'") (z := Str.ofString "'") (by decide +kernel)
  have e2 : tl (Txt.replace x (Str.ofString "'" ++ Str.ofString "'") (Str.ofString "'")) = StrLaws.replL (tl (Str.ofString "'" ++ Str.ofString "'")) (tl (Str.ofString "'")) (tl x) := e
  rw [e2, h, sgQQ, sgQ]
  exact undbl (tl w)
theorem dbl_len (l : List Nat) : (dbl 39 l).length ≤ 2 * l.length := by
  induction l with
  | nil => simp [dbl]
  | cons c r ih =>
    unfold dbl
    split <;> simp only [List.length_cons] <;> omega
theorem wtL_len (l : List Nat) : (wtL l).length ≤ 2 * l.length + 2 := by
  have := dbl_len l
  unfold wtL
  split
  · omega
  · simp only [List.length_cons, List.length_append, List.length_nil]; omega
theorem ix_at {z : Str} {p : Nat} {c : Nat} {r : List Nat} {P : Nat → Prop} (h : (tl z).drop p = c :: r) (k : P c) : wSome (atI z.cps.toList (p : Int)) P := by
  have e : (tl z)[p]? = some c := by
    have := congrArg (fun l => l[0]?) h
    simpa using this
  rw [atI_nat' (by omega) (by rw [Int.toNat_natCast]; exact e)]
  exact k
theorem drop_lt {l : List Nat} {p c : Nat} {r : List Nat} (h : l.drop p = c :: r) : p < l.length := by
  by_cases e : p < l.length
  · exact e
  · rw [List.drop_eq_nil_of_le (by omega)] at h; cases h
theorem drop_ge {l : List Nat} {p : Nat} (h : l.drop p = []) : l.length ≤ p := by
  have := congrArg List.length h
  rw [List.length_drop] at this
  simp at this; omega
theorem drop_next {l : List Nat} {p c : Nat} {r : List Nat} (h : l.drop p = c :: r) : l.drop (p + 1) = r := by
  rw [← List.drop_drop, h]; rfl
theorem sg_q (c : Nat) : ((⟨#[c]⟩ : Str) = Str.ofString "'") ↔ c = 39 := by
  rw [sgQ, str_eq]; show ([c] = [39]) ↔ _; simp
theorem sg_b (c : Nat) : ((⟨#[c]⟩ : Str) = Str.ofString " ") ↔ c = 32 := by
  rw [sgB, str_eq]; show ([c] = [32]) ↔ _; simp
theorem bE_hit (r : List Nat) : bE (32 :: r) = 0 := if_pos rfl
theorem bE_go {c : Nat} (h : c ≠ 32) (r : List Nat) : bE (c :: r) = 1 + bE r := if_neg h
theorem qE_go {c : Nat} (h : c ≠ 39) (r : List Nat) : qE (c :: r) = 1 + qE r := by rw [qE.eq_def]; exact if_neg h
theorem qE_two (r : List Nat) : qE (39 :: 39 :: r) = 2 + qE r := by rw [qE.eq_def]; dsimp only; rw [if_pos rfl, if_pos rfl]
theorem qE_end {r : List Nat} (h : ∀ d l, r = d :: l → d ≠ 39) : qE (39 :: r) = 0 := by
  rw [qE.eq_def]
  dsimp only
  rw [if_pos rfl]
  cases r with
  | nil => rfl
  | cons d l => exact if_neg (h d l rfl)
theorem tl_mid (z : Str) (a b : Nat) : tl (cutS z (some (a : Int)) (some (b : Int))) = ((tl z).drop a).take (b - a) := by
  rw [tl_cut, HT.sIx_nat _ _ _, HT.sIx_nat _ _ _]
  by_cases h : a ≤ (tl z).length
  · rw [Nat.min_eq_left h]
    by_cases h2 : b ≤ (tl z).length
    · rw [Nat.min_eq_left h2]
    · rw [Nat.min_eq_right (Nat.le_of_lt (Nat.lt_of_not_le h2)), List.take_of_length_le (by rw [List.length_drop]; omega), List.take_of_length_le (by rw [List.length_drop]; omega)]
  · have h' := Nat.le_of_lt (Nat.lt_of_not_le h)
    rw [Nat.min_eq_right h', List.drop_eq_nil_of_le (Nat.le_refl _), List.drop_eq_nil_of_le h', List.take_nil, List.take_nil]
theorem next_at {l a : List Nat} {p : Nat} {R : List (List Nat)} (h : l.drop p = a ++ tailL R) : (R ≠ [] → l.drop (p + a.length + 1) = rowL R) ∧ (R = [] → l.length ≤ p + a.length + 1) := by
  refine ⟨fun hR => ?_, fun hR => ?_⟩
  · cases R with
    | nil => exact absurd rfl hR
    | cons v r =>
      rw [Nat.add_assoc, ← List.drop_drop, h, ← List.drop_drop, List.drop_left]
      rfl
  · subst hR
    have := congrArg List.length h
    rw [List.length_drop] at this
    simp [tailL] at this
    omega
theorem rowT_len {ws : List Str} {L : Nat} (h : ∀ w ∈ ws, w.length ≤ L) : (rowT ws).length ≤ ws.length * (2 * L + 3) := by
  have h1 := sum_le (L := 2 * L + 2) (ys := ws.map wt) fun y hy => by
    obtain ⟨w, hw, rfl⟩ := List.mem_map.mp hy
    have := h w hw
    have h2 := wtL_len (tl w)
    rw [← tl_wt, ← tl_len, ← tl_len] at h2
    omega
  have h2 := join_le (Str.ofString " ") (ws.map wt)
  rw [List.length_map, show (Str.ofString " ").length = 1 from by decide +kernel] at h2
  rw [List.length_map] at h1
  have : ws.length * (2 * L + 3) = ws.length * (2 * L + 2) + ws.length * 1 := by rw [← Nat.mul_add]
  unfold rowT
  omega
end Wb

set_option Elab.async false
set_option linter.all false
set_option maxRecDepth 100000
set_option maxHeartbeats 1000000
/-! defs that count tokens and may raise; try about their calls -/
namespace Wb
open PySem PySem.Spec PyProof.Rows L2
/-- as FnN, of a def that may raise -/
structure FnM (CX : CXT) (m : Nat) (P : Program) (w : World) (K : PySem.W.Frag) (mg : Str → Option Value) (base : Heap) (k : Nat) (f : Addr) (fd : FuncData) (ps : List Str) (sp : Sp) : Prop where
  len : ∀ vs H Q E, sp vs H Q E → vs.length = ps.length
  run : ∀ (A : Around) (outer : List Env) (s : Shared) (H : Hp) (args : Args) (us : List Value) (vs : List V) (Q : VK) (E : XK), m ≤ s.toks → Room k A → Env0 P w K mg base A outer s H → BindsTo s fd args (ps.zip us) → Vals vs us → sp vs H Q E →
    codeAny (model P w) A (.call (.ref f) args) (CR CX outer P w H s Q E) s
section
variable {P : Program} {w : World} {K : PySem.W.Frag} {mg : Str → Option Value} {base : Heap} {m : Nat} {CX : CXT}
theorem _root_.L2.Fun.okM {x qual : Str} {st : Stmt} {f : Addr} {fd : FuncData} {N ps : List Str} {k : Nat} {sp : Sp} (F : Fun K x qual st f fd) (S : FnScope N ps (defScope st)) (len : ∀ vs H Q E, sp vs H Q E → vs.length = ps.length)
    (hbody : ∀ (cdv : Value) (A : Around) (outer : List Env) (s : Shared) (H : Hp) (vs : List V) (Q : VK) (E : XK), m ≤ s.toks → Room k (A.deeper (envOfC qual (defScope st) s.heap.objs.size f cdv)) → sp vs H Q E →
      ∃ t, SsN (cxOf CX P w K mg base N qual (defScope st) f cdv A outer s H E) (defBody st) t ∧ t { nx := fun _ H' => Q .non H', rt := Q } (start N vs) H) : FnM CX m P w K mg base (k + 1) f fd ps sp := by
  obtain ⟨oc, od, kV, doc, pm, an, cdv, ct, osl, rfl, lk, hcd⟩ := F.ex
  refine ⟨len, fun A outer s H args us vs Q E hm hr e0 hb r hsp => ?_⟩
  have hl := len _ _ _ _ hsp
  have old : ∀ c o, base.get? c = some o → s.heap.get? c = some o := fun c o e => (e0.bs c o e).1
  have KX : K.In s.heap := e0.mod.kin.keeps old
  have kinds : ∀ y ∈ ps.zip us, (defScope st).names.lookup y.1 = some .local ∨ ((defScope st).names.lookup y.1 = some .cell ∧ ((cellsFrom (s.heap.objs.size + 1) (defScope st).names []).lookup y.1).isSome = true) := fun ⟨c, v⟩ hy =>
    (S.par c (List.of_mem_zip hy).1).imp (fun q => q) fun q => ⟨q, PySem.W.cellsFrom_some _ _ _ (.inl q)⟩
  refine codeAny_call_function hr.depth (KX _ _ lk) rfl S.co S.gen rfl (PySem.W.codeRec_of KX hcd) (hb _ _ _ _ ?_)
  refine wpAny_mono (Wb.wpAny_toks (Nat.le_refl s.toks) (wpAny_newFunctionEnv_cells (Q := fun env s1 => env = envOfC qual (defScope st) s.heap.objs.size f cdv ∧ InCallC s env.locals (bindL env.kindOf (ps.zip us) fun _ => none) env.cells (bindC env.kindOf (ps.zip us) fun _ => none) s1) S.kind kinds fun env he s1 x => ⟨he, x⟩)) (fun env s1 z => ?_) fun _ _ z => z
  obtain ⟨⟨he, x⟩, hk⟩ := z
  subst he
  refine ⟨(e0.mod.nolimit.keeps old).keeps x.toInCall.keep, codeAny_func ?_⟩
  obtain ⟨t, ht, hq⟩ := hbody cdv A outer s H vs Q E hm (hr.deeper _) hsp
  have I : Inv (cxOf CX P w K mg base N qual (defScope st) f cdv A outer s H E) [] (start N vs) H s1 := inv_start S hr.hd e0 hl r x
  have fin : ∀ {τ : L2.St} {G : Hp} {v : V} {u : Value} {z : Shared}, Inv (cxOf CX P w K mg base N qual (defScope st) f cdv A outer s H E) [] τ G z → RelV v u → Q v G → CE outer P w H s Q u z :=
    fun {τ G v u z} J rv q => ⟨v, G, J.os, J.bare, J.base, J.hok, rv, q⟩
  refine wpAny_mono (ht.run [] s1 (start N vs) H _ hk I hq) (fun fl z hz => ?_) fun e z hz => hz
  cases fl with
  | ret u =>
    obtain ⟨v, τ, G, J, rv, q⟩ := hz
    exact fin J rv q
  | next =>
    obtain ⟨τ, G, J, q⟩ := hz
    exact fin (v := V.non) (u := Value.none) J rfl q
  | brk => obtain ⟨_, _, _, q⟩ := hz; exact False.elim q
  | cont => obtain ⟨_, _, _, q⟩ := hz; exact False.elim q
end
section
variable {X : Cx} {CX : CXT} {k m : Nat} {f : Addr} {fd : FuncData} {ps : List Str} {sp : Sp} {x : Str} {p pos : Pos} {e : Expr} {es : List Expr} {t : TA} {E : L2.St → XK}
theorem en_callS (F : FnM CX m X.prog X.w X.K X.mg X.base k f fd ps sp) (hm : m ≤ X.s_0.toks) (hr : Room k X.A) (hg : Gl X x) (hx : X.mg x = some (.ref f)) (hk : PySem.W.keepIn X.K (.ref f) = true) (hb : Binds X.K fd ps [])
    (hp : ∀ σ, PassesAt CX X σ (E σ)) (ha : AN X (e :: es) t) (hdb : (x == ("__debug__" : Str)) = false := by decide) (he : starEach (e :: es) X.env = (false, eval e X.env) :: starEach es X.env := by rfl) (hpl : (backTo pos (starEach es X.env)).any (·.1) = false := by rfl) :
    EN X (.Call (.Name x p) (e :: es) [] pos) (tCallSD sp [] E t) := by
  refine ⟨fun pins s σ H Q n I h => wpAny_Call_Name_kw (ld_glob I hg hx ?_ hdb)⟩
  refine PySem.W.callWith_K (h₀ := X.base) I.ok.mod.kin hk (thnN n (ha.run pos pins s σ H _ n I h) fun us s1 n1 z => ?_) he hpl
  obtain ⟨vs, H1, I1, r, q⟩ := z
  refine ⟨I1.kIn, ?_⟩
  have q' : sp vs H1 Q (E σ) := by simpa using q
  have hl : us.length = ps.length := by rw [← r.length]; exact F.len _ _ _ _ q'
  have b := hb s1 us I1.kIn (by simpa using hl)
  rw [List.append_nil] at b
  refine wpAny_call (codeAny_mono (F.run X.A X.stack s1 H1 ⟨us, []⟩ us vs Q (E σ) (Nat.le_trans hm n1) hr I1.env0 b r q') fun res s' hq => ?_)
  cases res with
  | error e => exact hp σ pins H1 s1 e s' I1 hq
  | ok fl => cases fl with
    | ret u => exact I1.after hq
    | _ => exact False.elim hq
theorem en_tup {y} (h : AN X es t) : EN X (.Tuple es y pos) (tTup t) := by
  refine ⟨fun pins s σ H Q n I q => wpAny_Tuple_spliced (thn (h.run pos pins s σ H _ n I q) fun us s1 w => ?_)⟩
  obtain ⟨xs, H1, I1, r, z, q1⟩ := w
  exact ⟨by rw [← r.length]; exact z, .ref s1.heap.objs.size, upd H1 s1.heap.objs.size (.tup xs), I1.laid (t' := s1.toks) (fun c o e => Heap.get?_push_of_some _ e) (Nat.le_refl _) ⟨z, us, r, ⟨_, Heap.get?_push_size _ rfl, rfl, _, rfl⟩⟩, rfl, q1 _ (I1.hok.fresh (Nat.le_refl _))⟩
end
end Wb
namespace L2N
open PySem PySem.Spec PyProof.Rows L2
section
variable {X : Cx} {x n : Str} {c : Value} {i : Nat} {body suite : List Stmt} {b₀ : Stmt} {np pos pos' : Pos} {tb : WX → TS} {ts : Addr → Value → Option Addr → TS} {Wout : WX}
/-- what a body within try raises, its clause takes -/
theorem clause_takes (hs : X.stack = X.env :: X.outer) (hf : X.env.frame = some X.env.locals) (hN : X.N.Nodup) (hi : X.N[i]? = some n) (hln : X.env.kindOf n = some .local) (hc : Names X x c) (tk : Takes X Wout) (okX : X.Ok) {qs : List (Addr × Obj)} {D : Ends}
    (hsu : ∀ (a : Addr) (oe : Obj) (cls : Value) (d : Option Addr) (pn : List (Addr × Obj)), Zn cls d oe → (∃ vs, oe.data = .fields vs) → PSs (X.suite a ((a, oe) :: pn)) (b₀ :: suite) (ts a cls d)) {xe : Value → Shared → Prop} {u : Value} {zt : Shared}
    (xq : XE (X.tr (X.pn ++ qs) xe) (wAs X.K c i ts Wout D) u zt) : wpAny (model X.prog X.w) X.A (noteFrame u X.env) (fun _ z2 => wpAny (model X.prog X.w) X.A (setFlight u none)
      (fun _ z3 => wpAny (model X.prog X.w) X.A (handleBy u X.env [.ExceptHandler (some (.Name x np)) (some n) (b₀ :: suite) pos']) (SP X qs D) X.xe z3) X.xe z2) X.xe zt := by
  have ffr : X.A.frames = some (X.env :: X.outer) := by rw [okX.frames, hs]
  have lcn : Loc X.env.scope n := .inl hln
  obtain ⟨a, Bh, zI, qs1, τ, G, cl, d, rfl, Jt, nbl, upw, sk, nfa, oeq, gb, b, bb1, yes, nono⟩ := xq
  have Jo : Inv X qs τ G zI := Jt.ofTry okX
  have skz : Sky Bh (X.env :: X.outer) a (Zn cl d) X.env.locals zt.heap := by rw [← hs]; exact sk
  show wpAny (model X.prog X.w) X.A (noteFrame (.ref a) X.env) _ _ _
  refine Sky.land Zn.steady ffr hf skz fun y3 gl3 pu3 => ?_
  have I3 : Inv X qs τ G { zt with heap := y3 } := Jo.landed nbl gl3.1 (upw.trans pu3) oeq gb
  obtain ⟨ob3, us3, eh3, kz3, dh3⟩ := gl3.there
  have awayF : ∀ {h : Heap} {o : Obj} {vs : Array Value}, h.FunFrames Bh (X.env :: X.outer) → h.get? a = some o → o.data = .fields vs → a ∉ frs (X.env :: X.outer) := fun {h o vs} ff e dd hm => by
    obtain ⟨_, o', e', hnf⟩ := ff.mem hm
    rw [e] at e'; cases e'
    exact hnf _ dd
  have away := awayF gl3.2.2.1 eh3 dh3
  have aL : a ≠ X.env.locals := fun z => away (List.mem_filterMap.mpr ⟨X.env, List.mem_cons_self, by rw [hf, z]⟩)
  have aF : a ∉ X.fs := fun hm => by
    obtain ⟨e, he, q⟩ := List.mem_filterMap.mp hm
    exact away (List.mem_filterMap.mpr ⟨e, List.mem_cons_of_mem _ he, q⟩)
  have T3 := I3.suite eh3 dh3 nfa aL aF
  refine wpAny_handleBy_cons (codeAny_handlers_test ?_) (by intro q; cases q)
  have lT : PySem.W.Looks (model X.prog X.w) y3 (typeOf (.ref a)) cl := fun A Q E s k q => wpAny_typeOf_ref (k _ _ eh3) (by rw [kz3.1]; exact q)
  have lM := PySem.W.exm_one (M := model X.prog X.w) (I3.kIn) lT bb1
  have named : ∀ {Q : Value → Shared → Prop} {E : Value → Shared → Prop}, Q c { zt with heap := y3 } → wpAny (model X.prog X.w) (X.A.mark (some (.ref a))) (eval (.Name x np) X.env) Q E { zt with heap := y3 } := fun {Q E} q => by
    obtain ⟨hg, hdbg, hm | ⟨hm, hv, hnn⟩⟩ := hc
    · exact ld_glob (X := X.suite a ((a, ob3) :: (X.pn ++ qs))) T3 hg hm q hdbg
    · exact ld_blt (X := X.suite a ((a, ob3) :: (X.pn ++ qs))) T3 hg hm hv q hnn hdbg
  refine named (lM.here ?_)
  cases b with
  | true =>
    refine codeAny_handlers_suite_as ?_
    refine HandSPX.lands_againZ gl3 fun y4 gl4 pu4 => ?_
    have I4 : Inv X qs τ G { zt with heap := y4 } := Jo.landed nbl gl4.1 ((upw.trans pu3).trans pu4) oeq gb
    obtain ⟨ob4, us4, eh4, kz4, dh4⟩ := gl4.there
    have T4 := I4.suite eh4 dh4 nfa aL aF
    refine store_ok (X := X.suite a ((a, ob4) :: (X.pn ++ qs))) (v := .ref a) T4 hN hi lcn rfl (fun z5 T5 => ?_) (.inr hln)
    refine wpAny_mono ((hsu a ob4 cl d (X.pn ++ qs) kz4 ⟨_, dh4⟩).run [] z5 _ G _ T5 (yes rfl a nfa)) (fun f z6 wsp => ?_) (fun _ _ z => False.elim z)
    have fin6 : ∀ {τ6 : St} {G6 : Hp} {Q : Shared → Prop}, Inv (X.suite a ((a, ob4) :: (X.pn ++ qs))) [] τ6 G6 z6 → (∀ z7, Inv X qs (τ6.set i none) G6 z7 → Q z7) →
        wpAny (model X.prog X.w) X.A (do bindName X.env n .none; unbindBehindTheSuite X.env n pos') (fun _ z7 => Q z7) X.xe z6 := fun {τ6 G6 Q} T6 hq => gone_ok (T6.unsuite okX) hN hi hln hq
    cases f with
    | next =>
      obtain ⟨τ6, G6, T6, qq6⟩ := wsp
      exact fin6 T6 fun z7 I7 => ⟨_, _, I7, qq6⟩
    | brk =>
      obtain ⟨τ6, G6, T6, qq6⟩ := wsp
      exact fin6 T6 fun z7 I7 => ⟨_, _, I7, qq6⟩
    | cont =>
      obtain ⟨τ6, G6, T6, qq6⟩ := wsp
      exact fin6 T6 fun z7 I7 => ⟨_, _, I7, qq6⟩
    | ret u =>
      obtain ⟨x6, τ6, G6, T6, rr6, qq6⟩ := wsp
      exact fin6 T6 fun z7 I7 => ⟨_, _, _, I7, rr6, qq6⟩
  | false =>
    show wpAny _ X.A (handleBy (.ref a) X.env []) _ _ _
    refine wpAny_handleBy_nil ?_
    obtain ⟨k1, k2, k3, oe, vs, T, oT, ts', he, hz, hd, h1, hr⟩ := id gl3
    unfold PySem.passOn
    refine wpAny_bind (wpAny_field he hd h1 ?_)
    rw [if_neg (show ¬ ((Value.ref T == Value.none) = true) from by simp)]
    have fin : wpAny (model X.prog X.w) X.A (setFlight (.ref a) X.env.frame) (fun _ z4 => wpAny (model X.prog X.w) X.A (throw (.ref a) : Sem Flow) (SP X qs D) X.xe z4) X.xe { zt with heap := y3 } := by
      rw [hf]
      refine HandSPX.setFlight_upZ gl3 fun y4 hl4 pu4 => wpAny_throw (tk _ _ ?_)
      exact ⟨a, Bh, zI, qs, τ, G, cl, d, rfl, Jo, nbl, (upw.trans pu3).trans pu4, .inr (.inr (by rw [hs]; exact hl4)), nfa, oeq, gb, nono rfl⟩
    first
      | exact wpAny_bind (wpAny_pure (wpAny_bind fin))
      | exact wpAny_bind fin
theorem sn_try_as (hs : X.stack = X.env :: X.outer) (hf : X.env.frame = some X.env.locals) (hN : X.N.Nodup) (hi : X.N[i]? = some n) (hln : X.env.kindOf n = some .local) (hc : Names X x c) (tk : Takes X Wout)
    (hb : ∀ (W : WX) (pn : List (Addr × Obj)) (xe : Value → Shared → Prop), Takes (X.tr pn xe) W → PassesOwn (model X.prog X.w) X.A X.env xe → Wb.SsN (X.tr pn xe) body (tb W))
    (hsu : ∀ (a : Addr) (oe : Obj) (cls : Value) (d : Option Addr) (pn : List (Addr × Obj)), Zn cls d oe → (∃ vs, oe.data = .fields vs) → PSs (X.suite a ((a, oe) :: pn)) (b₀ :: suite) (ts a cls d)) :
    Wb.SN X (.Try body [.ExceptHandler (some (.Name x np)) (some n) (b₀ :: suite) pos'] [] [] pos) (fun D σ H => tb (wAs X.K c i ts Wout D) D σ H) := by
  refine ⟨fun pins s σ H D n0 I h => wpAny_Try_except ?_⟩
  have okX := I.ok
  refine wpAny_mono ((hb _ (X.pn ++ pins) _ (fun u zt xq => clause_takes hs hf hN hi hln hc tk okX hsu xq) PassesOwn.looking).run [] s σ H D n0 (I.toTry _) h) (fun fl z w => ?_) (fun e z he => he)
  cases fl with
  | next => exact let ⟨τ, G, J, q⟩ := w; wpAny_execs_nil ⟨τ, G, J.ofTry okX, q⟩
  | brk => exact let ⟨τ, G, J, q⟩ := w; ⟨τ, G, J.ofTry okX, q⟩
  | cont => exact let ⟨τ, G, J, q⟩ := w; ⟨τ, G, J.ofTry okX, q⟩
  | ret u => exact let ⟨v, τ, G, J, r, q⟩ := w; ⟨v, τ, G, J.ofTry okX, r, q⟩
end
end L2N

set_option Elab.async false
set_option linter.all false
set_option maxRecDepth 100000
set_option maxHeartbeats 1000000
/-! isinstance of the suite's exception, of several classes, as data; max(.., default=..) -/
namespace Wb
open PySem PySem.Spec PyProof.Rows L2
/-- isinstance of the exception, of the classes in a tuple -/
def rIsXS (K : PySem.W.Frag) (mg : Str → Option Value) (a : Addr) (cls : Value) (d : Option Addr) : List V → Hp → VK → Prop := fun xs H Q => ∃ (tp : Addr) (cs : List V) (us : List Value) (x : Str) (D : Addr) (b : Bool), xs = [.ref a, .ref tp] ∧ SqT K H tp cs ∧ Paired ClsV cs us ∧
  cls = .ref D ∧ ExK K mg x D ∧ PySem.W.kitAny K (.ref D) us = some b ∧ (d = none ∨ ∃ dd fs, d = some dd ∧ H dd = some (.xd fs)) ∧ Q (.bl b) H
theorem call_isXS {X : Cx} {K : PySem.W.Frag} {mg : Str → Option Value} (hK : X.K = K) (hm : X.mg = mg) {p : Addr × Obj} {cls : Value} {d : Option Addr} (hp : p ∈ X.pn) (hz : Zc cls d p.2) (hf : ∃ vs, p.2.data = .fields vs) : CallR X (.builtin "isinstance") (rIsXS K mg p.1 cls d) := by
  subst hK hm
  obtain ⟨a, oe⟩ := p
  intro pins s σ H xs us Q I r h
  obtain ⟨tp, cs, ws, x, D, b, rfl, hT, k, ec, E, e, hdd, q⟩ := h
  obtain ⟨u1, u2, rfl, r1, r2⟩ := vals2 r
  cases (show u2 = Value.ref tp from r2)
  cases (show u1 = Value.ref a from r1)
  obtain ⟨its, rv, ⟨⟨tc, td, dt, sl⟩, h1, h2, n, h3⟩, _⟩ := I.tuple hT
  have e3 := ClsV.all k rv
  simp only at h2 h3
  subst e3 h2 h3 ec
  obtain ⟨hget, _⟩ := I.pin (a, oe) (List.mem_append_left _ hp)
  obtain ⟨vs, hv⟩ := hf
  obtain ⟨oc, od, oda, osl⟩ := oe
  obtain ⟨z1, z2⟩ := hz
  dsimp only at z1 z2 hv
  subst z1 z2 hv
  have fin : ∀ tk, EP X pins σ Q (.bool b) { s with toks := tk } := fun tk => ⟨.bl b, H, I.kept (t' := tk) fun _ _ z => z, rfl, q⟩
  rcases hdd with rfl | ⟨dd, fs, rfl, ea⟩
  · exact PySem.W.kia_tup (PySem.W.kitx_exc (od := none) (hasDict_cls E.hd) E.ga E.gg E.T.exC E.ha E.hn E.ht E.hm) I.kIn ⟨hget, rfl, rfl, trivial⟩ h1 e (fun z => nomatch z) fin
  · obtain ⟨mA, hns, _⟩ := (show ObjOk X.prog X.w H s.heap dd (.xd fs) from I.hok dd _ ea)
    obtain ⟨od, ho, _⟩ := lookIn_ns hns
    exact PySem.W.kia_tup (PySem.W.kitx_exc (od := some od) (hasDict_cls E.hd) E.ga E.gg E.T.exC E.ha E.hn E.ht E.hm) I.kIn ⟨hget, rfl, rfl, ho⟩ h1 e (fun z => nomatch z) fin
/-- the classes that a tuple holds -/
def clsL : List D → Option (List Value)
  | [] => some []
  | y :: r => match clsD y, clsL r with
    | some c, some l => some (c :: l)
    | _, _ => none
def cIsXS (K : PySem.W.Frag) (mg : Str → Option Value) (a C : Addr) : C3 := fun ds μ Q => match ds with
  | [.v (.ref b), .tup ys] => b = a ∧ ∃ us r xn, clsL ys = some us ∧ PySem.W.kitAny K (.ref C) us = some r ∧ ExK K mg xn C ∧ Q (.v (.bl r)) μ
  | _ => False
section
variable {K : PySem.W.Frag} {I : Pre}
theorem clsL_at {w : Wo} : ∀ {ys : List D} {cs : List V} {us : List Value}, w.rl K cs ys → clsL ys = some us → Paired ClsV cs us
  | [], cs, us, r, e => by
    cases e
    rw [List.length_eq_zero_iff.mp r.len]
    exact .nil
  | y :: t, cs, us, r, e => by
    unfold clsL at e
    split at e
    · rename_i c l e1 e2
      cases e
      match cs, r with
      | [], r => exact absurd r.len (by simp)
      | v :: vs, r =>
        have rt : w.rl K vs t := ⟨by simpa using r.len, fun i v' d' a b => r.at_ (i + 1) v' d' (by simpa using a) (by simpa using b)⟩
        refine .cons ?_ (clsL_at rt e2)
        have r1 := r.at_ 0 v y rfl rfl
        unfold clsD at e1
        split at e1
        · cases e1; cases r1; exact .ty _
        · cases e1; cases r1; exact .own _
        · cases e1
    · cases e
theorem c_isxs {a : Addr} {cls : Value} {d : Option Addr} {C : Addr} {fs : List (Str × D)} {mg : Str → Option Value} : SC K (I.and K cls d C fs) (rIsXS K mg a cls d) (cIsXS K mg a C) := fun w vs ds Q Q3 R ok r h q => by
  obtain ⟨_, X⟩ := ok
  unfold cIsXS at h
  split at h
  · obtain ⟨rfl, us, b, xn, e1, e2, e3, h⟩ := h
    match vs, r with
    | [], r => exact absurd r.len (by simp)
    | [_], r => exact absurd r.len (by simp)
    | _ :: _ :: _ :: _, r => exact absurd r.len (by simp)
    | [v, u], r =>
      have r1 := r.at_ 0 _ _ rfl rfl
      have r2 := r.at_ 1 _ _ rfl rfl
      cases r1
      cases r2 with
      | tup hs hl hr =>
        exact ⟨_, _, us, xn, C, b, rfl, ex_t (vis_le w) hs, clsL_at (w := w) ⟨hl, hr⟩ e1, X.cls, e3, e2, X.dic.imp (fun z => z.1) (fun ⟨dd, fv, e4, e5, _⟩ => ⟨dd, fv, e4, vis_le w _ _ e5⟩), q w _ _ (.refl w) R (.v _) h⟩
  · exact h.elim
/-! max(xs, default=n) -/
def maxDf (ns : List Int) (m : Int) : Int := match ns with | [] => m | y :: r => r.foldl max y
def rMaxDf (K : PySem.W.Frag) : List V → List V → Hp → VK → Prop := fun xs zs H Q => ∃ (a : Addr) (ns : List Int) (m : Int), xs = [.ref a] ∧ zs = [.int m] ∧ SqL K H a (ns.map V.int) ∧ Q (.int (maxDf ns m)) H
theorem reads_ints {h : Heap} : ∀ {its : List Value} {ns : List Int}, Vals (ns.map V.int) its → ReadsAll h its (ns.map PyData.int) []
  | [], [], _ => .nil
  | [], _ :: _, r => by cases r
  | _ :: _, [], r => by cases r
  | u :: t, n :: ns, r => by
    cases r with
    | cons r1 r2 =>
      obtain ⟨k, rfl⟩ := r1
      exact ReadsAll.cons (as := []) (bs := []) (.int n k) (reads_ints r2)
theorem depth_ints : ∀ ns : List Int, PyData.depthAll (ns.map PyData.int) ≤ 1
  | [] => by decide
  | n :: r => by
    have := depth_ints r
    rw [List.map_cons, PyData.depthAll, PyData.depth]
    omega
theorem alike_ints (ns : List Int) : PySem.W.AlikeAll (ns.map PyData.int) := by
  refine ⟨fun x hx y hy => ?_, fun x hx => ?_⟩
  · obtain ⟨i, _, rfl⟩ := List.mem_map.mp hx
    obtain ⟨j, _, rfl⟩ := List.mem_map.mp hy
    rfl
  · obtain ⟨i, _, rfl⟩ := List.mem_map.mp hx
    exact fun z => nomatch z
theorem call_maxDf {X : Cx} (hK : X.K = K) (hc : X.calm = true) (hu : X.A.units + 66 < cLine) : CallRK X (.builtin "max") [Str.ofString "default"] (rMaxDf K) := by
  subst hK
  intro pins s σ H xs zs us ws Q I rx rz h
  obtain ⟨a, ns, m, rfl, rfl, hs, q⟩ := h
  obtain ⟨its, rv, hl, _⟩ := I.list hs
  rw [Vals.ref1 rx]
  match ws, rz with
  | [w], .cons r1 .nil =>
    obtain ⟨k, rfl⟩ := (show ∃ k, w = Value.int m k from r1)
    refine PySem.W.max_list_default (xs := ns.map PyData.int) (I.ok.hd hc) hl.isList (reads_ints rv) (alike_ints ns) ?_ ?_ ?_
    · have := depth_ints ns; omega
    · intro e h' tk hk
      have e : ns = [] := List.map_eq_nil_iff.mp e
      subst e
      exact ⟨.int _, H, I.kept hk, ⟨_, rfl⟩, q⟩
    · intro y ys i v h' tk bs e hi rd hk
      match ns, e with
      | n :: r, e =>
        obtain ⟨rfl, rfl⟩ := List.cons.inj e
        rw [PySem.W.maxD_ints] at rd
        cases rd
        exact ⟨.int _, H, I.kept hk, ⟨_, rfl⟩, q⟩
def eMaxD (a k : A3) : E3 := fun s μ Q => a s μ fun ds μ1 => k s μ1 fun es μ2 => match ds, es with
  | [d], [.v (.int m)] => wSeq (seqL μ2 d) fun xs => wSome (intsOf xs) fun ns => Q (.v (.int (maxDf ns m))) μ2
  | _, _ => False
theorem s_maxDf {t tk : TA} {a k : A3} (ht : SA K I t a) (hk : SA K I tk k) : SE K I (tCKw (rMaxDf K) t tk) (eMaxD a k) := fun w σ s Q Q3 S h q =>
  ht w σ s _ _ S h fun w1 vs ds L1 R1 V1 h1 => hk w1 σ s _ _ (S.to L1 R1) h1 fun w2 zs es L2 R2 V2 h2 => by
    have U1 := L2.rl V1
    clear V1
    split at h2
    · rename_i d m
      obtain ⟨xs, e, h2⟩ := wSeq_at h2
      obtain ⟨ns, e1, h2⟩ := wSome_at h2
      match vs, zs, U1, V2 with
      | [v], [z], V1, V2 =>
        have r2 := V2.at_ 0 _ _ rfl rfl
        cases r2
        obtain ⟨b, us, rfl, g1, g2⟩ := seqL_at R2 (V1.at_ 0 _ _ rfl rfl) e
        have e2 := rl_ints g2 e1
        subst e2
        exact ⟨b, ns, m, rfl, rfl, g1, q _ _ _ (L1.trans L2) R2 (.v _) h2⟩
      | [], _, V1, _ => exact absurd V1.len (by simp)
      | _ :: _ :: _, _, V1, _ => exact absurd V1.len (by simp)
      | [_], [], _, V2 => exact absurd V2.len (by simp)
      | [_], _ :: _ :: _, _, V2 => exact absurd V2.len (by simp)
    · exact h2.elim
/-- an own exception without fields, made with a text -/
def eMkOwn (C : Addr) : St3 → Mu → X3 → Prop := fun _ μ Q => Q C [] μ
theorem mk_own {C : Addr} : SMk K I (fun _ H Q => Q (.ref C) none H) (eMkOwn C) := fun w σ s Q Q3 S h q => q w (.ref C) none C [] (.refl w) S.rep ⟨rfl, .inl ⟨rfl, rfl⟩⟩ h
end
end Wb

set_option Elab.async false
set_option linter.all false
set_option maxRecDepth 100000
set_option maxHeartbeats 1000000
/-! a row's text read sign by sign -/
namespace Wb
open PySem PySem.Spec PyProof.Rows L2
open TL (tl)
open StrLaws (dbl)
/-- words, each with a blank behind -/
def openL (fs : List Str) : List Nat := fs.flatMap fun w => wtL (tl w) ++ [32]
theorem openL_snoc (fs : List Str) (w : Str) : openL (fs ++ [w]) = openL fs ++ (wtL (tl w) ++ [32]) := by simp [openL]
theorem tailL_more {R : List (List Nat)} (h : R ≠ []) : tailL R = 32 :: rowL R := by
  cases R with
  | nil => exact absurd rfl h
  | cons v r => rfl
theorem rowL_open : ∀ (fs : List Str) (w : Str), rowL ((fs ++ [w]).map tl) = openL fs ++ wtL (tl w)
  | [], w => rfl
  | f :: r, w => by
    have ih := rowL_open r w
    show rowL (tl f :: (r ++ [w]).map tl) = _
    rw [rowL_cons, tailL_more (by simp), ih]
    simp [openL]
/-- nothing, or no quote first -/
def N39 (r : List Nat) : Prop := ∀ c l, r = c :: l → c ≠ 39
/-- nothing, or a blank first -/
def H32 (r : List Nat) : Prop := ∀ c l, r = c :: l → c = 32
/-- neither blank nor quote -/
def Fr (l : List Nat) : Prop := 32 ∉ l ∧ 39 ∉ l
/-- nothing, or a blank or a quote first -/
def St (r : List Nat) : Prop := ∀ c l, r = c :: l → c = 32 ∨ c = 39
theorem dblC (c : Nat) (r : List Nat) : dbl 39 (c :: r) = if c = 39 then 39 :: 39 :: dbl 39 r else c :: dbl 39 r := by
  by_cases h : c = 39
  · subst h; simp [dbl]
  · simp [dbl, h]
theorem dbl_snoc (l : List Nat) (c : Nat) : dbl 39 (l ++ [c]) = dbl 39 l ++ (if c = 39 then [39, 39] else [c]) := by
  induction l with
  | nil => rw [List.nil_append, dblC]; split <;> simp [dbl]
  | cons d r ih =>
    rw [List.cons_append, dblC, dblC, ih]
    split <;> simp
theorem dbl_uniq : ∀ (a b : List Nat) {r s : List Nat}, dbl 39 a ++ 39 :: r = dbl 39 b ++ 39 :: s → N39 r → N39 s → a = b ∧ r = s
  | [], [], r, s, h, _, _ => ⟨rfl, by simpa [dbl] using h⟩
  | [], c :: b, r, s, h, hr, _ => by
    rw [dblC] at h
    by_cases e : c = 39
    · rw [if_pos e] at h
      have : r = 39 :: (dbl 39 b ++ 39 :: s) := by simpa [dbl] using h
      exact absurd rfl (hr _ _ this)
    · rw [if_neg e] at h
      have : 39 = c := by simpa [dbl] using (List.cons.inj h).1
      exact absurd this.symm e
  | c :: a, [], r, s, h, _, hs => by
    rw [dblC] at h
    by_cases e : c = 39
    · rw [if_pos e] at h
      have : 39 :: (dbl 39 a ++ 39 :: r) = s := by simpa [dbl] using h
      exact absurd rfl (hs _ _ this.symm)
    · rw [if_neg e] at h
      have : c = 39 := by simpa [dbl] using (List.cons.inj h).1
      exact absurd this e
  | c :: a, d :: b, r, s, h, hr, hs => by
    rw [dblC, dblC] at h
    by_cases e : c = 39
    · by_cases e2 : d = 39
      · rw [if_pos e, if_pos e2] at h
        have h2 : dbl 39 a ++ 39 :: r = dbl 39 b ++ 39 :: s := by simpa using h
        obtain ⟨e3, e4⟩ := dbl_uniq a b h2 hr hs
        exact ⟨by rw [e, e2, e3], e4⟩
      · rw [if_pos e, if_neg e2] at h
        exact absurd (List.cons.inj h).1.symm e2
    · by_cases e2 : d = 39
      · rw [if_neg e, if_pos e2] at h
        exact absurd (List.cons.inj h).1 e
      · rw [if_neg e, if_neg e2] at h
        obtain ⟨h1, h2⟩ := List.cons.inj h
        obtain ⟨e3, e4⟩ := dbl_uniq a b h2 hr hs
        exact ⟨by rw [h1, e3], e4⟩
theorem dbl_noend : ∀ (a b : List Nat) {r : List Nat}, dbl 39 a = dbl 39 b ++ 39 :: r → N39 r → False
  | [], b, r, h, _ => by
    have := congrArg List.length h
    simp [dbl] at this
  | c :: a, [], r, h, hr => by
    rw [dblC] at h
    by_cases e : c = 39
    · rw [if_pos e] at h
      have : 39 :: dbl 39 a = r := by simpa [dbl] using h
      exact absurd rfl (hr _ _ this.symm)
    · rw [if_neg e] at h
      exact absurd (List.cons.inj h).1 e
  | c :: a, d :: b, r, h, hr => by
    rw [dblC, dblC] at h
    by_cases e : c = 39
    · by_cases e2 : d = 39
      · rw [if_pos e, if_pos e2] at h
        exact dbl_noend a b (by simpa using h) hr
      · rw [if_pos e, if_neg e2] at h
        exact absurd (List.cons.inj h).1.symm e2
    · by_cases e2 : d = 39
      · rw [if_neg e, if_pos e2] at h
        exact absurd (List.cons.inj h).1 e
      · rw [if_neg e, if_neg e2] at h
        exact dbl_noend a b (List.cons.inj h).2 hr
theorem fr_uniq : ∀ (a b : List Nat) {r s : List Nat}, a ++ r = b ++ s → Fr a → Fr b → St r → St s → a = b ∧ r = s
  | [], [], r, s, h, _, _, _, _ => ⟨rfl, h⟩
  | [], c :: b, r, s, h, _, hb, hr, _ => by
    rcases hr _ _ h with e | e
    · exact absurd (e ▸ List.mem_cons_self ..) hb.1
    · exact absurd (e ▸ List.mem_cons_self ..) hb.2
  | c :: a, [], r, s, h, ha, _, _, hs => by
    rcases hs _ _ h.symm with e | e
    · exact absurd (e ▸ List.mem_cons_self ..) ha.1
    · exact absurd (e ▸ List.mem_cons_self ..) ha.2
  | c :: a, d :: b, r, s, h, ha, hb, hr, hs => by
    obtain ⟨h1, h2⟩ := List.cons.inj h
    obtain ⟨e3, e4⟩ := fr_uniq a b h2 ⟨fun z => ha.1 (List.mem_cons_of_mem _ z), fun z => ha.2 (List.mem_cons_of_mem _ z)⟩ ⟨fun z => hb.1 (List.mem_cons_of_mem _ z), fun z => hb.2 (List.mem_cons_of_mem _ z)⟩ hr hs
    exact ⟨by rw [h1, e3], e4⟩
theorem bareL_iff (l : List Nat) : bareL l = true ↔ l ≠ [] ∧ Fr l := by
  unfold bareL Fr
  simp [and_assoc]
theorem wtL_bare {l : List Nat} (h : bareL l = true) : wtL l = l := if_pos h
theorem wtL_quo {l : List Nat} (h : bareL l ≠ true) : wtL l = 39 :: (dbl 39 l ++ [39]) := if_neg h
theorem H32.st {r : List Nat} (h : H32 r) : St r := fun c l e => .inl (h c l e)
theorem H32.n39 {r : List Nat} (h : H32 r) : N39 r := fun c l e => by rw [h c l e]; decide
theorem tailL_h (R : List (List Nat)) : H32 (tailL R) := fun _ _ h => tailL_head h
/-- a quoted word is read in one way -/
theorem quo_uniq {w v r s : List Nat} (h : 39 :: (dbl 39 w ++ 39 :: r) = wtL v ++ s) (hr : N39 r) (hs : H32 s) : bareL v ≠ true ∧ v = w ∧ s = r := by
  by_cases hv : bareL v = true
  · rw [wtL_bare hv] at h
    obtain ⟨h1, h2⟩ := (bareL_iff v).mp hv
    cases v with
    | nil => exact absurd rfl h1
    | cons c l => exact absurd ((List.cons.inj h).1 ▸ List.mem_cons_self ..) h2.2
  · rw [wtL_quo hv] at h
    have h2 : dbl 39 w ++ 39 :: r = dbl 39 v ++ 39 :: s := by simpa using h
    obtain ⟨e1, e2⟩ := dbl_uniq w v h2 hr hs.n39
    exact ⟨hv, e1.symm, e2.symm⟩
/-- a bare word is read in one way -/
theorem bare_uniq {w v r s : List Nat} (h : w ++ r = wtL v ++ s) (h0 : ∀ l, w ++ r ≠ 39 :: l) (hw : Fr w) (hr : St r) (hs : H32 s) : bareL v = true ∧ v = w ∧ s = r := by
  by_cases hv : bareL v = true
  · rw [wtL_bare hv] at h
    obtain ⟨e1, e2⟩ := fr_uniq w v h hw ((bareL_iff v).mp hv).2 hr hs.st
    exact ⟨hv, e1.symm, e2.symm⟩
  · rw [wtL_quo hv] at h
    exact absurd h (h0 _)
theorem row_inj : ∀ {ws vs : List Str}, rowL (ws.map tl) = rowL (vs.map tl) → ws = vs
  | [], [], _ => rfl
  | [], v :: r, h => absurd h.symm rowL_ne
  | w :: r, [], h => absurd h rowL_ne
  | w :: r, v :: s, h => by
    rw [List.map_cons, List.map_cons, rowL_cons, rowL_cons] at h
    have k : tl v = tl w ∧ tailL (s.map tl) = tailL (r.map tl) := by
      by_cases hw : bareL (tl w) = true
      · rw [wtL_bare hw] at h
        obtain ⟨h1, h2⟩ := (bareL_iff _).mp hw
        exact (bare_uniq h (fun l e => by
          cases e2 : tl w with
          | nil => exact h1 e2
          | cons c l2 => rw [e2] at e; exact h2.2 (e2 ▸ (List.cons.inj e).1 ▸ List.mem_cons_self ..)) h2 (tailL_h _).st (tailL_h _)).2
      · rw [wtL_quo hw] at h
        exact (quo_uniq (r := tailL (r.map tl)) (by rw [← h]; simp) (tailL_h _).n39 (tailL_h _)).2
    have e1 : v = w := str_eq.mpr k.1
    subst e1
    have e2 : rowL (r.map tl) = rowL (s.map tl) := by
      cases r with
      | nil =>
        cases s with
        | nil => rfl
        | cons a b => cases k.2
      | cons a b =>
        cases s with
        | nil => cases k.2
        | cons c d => exact (List.cons.inj k.2).2.symm
    rw [row_inj e2]
theorem rowT_inj {ws vs : List Str} (h : rowT ws = rowT vs) : ws = vs := row_inj (by rw [← tl_rowT, ← tl_rowT, h])
theorem dbl_ge (l : List Nat) : l.length ≤ (dbl 39 l).length := by
  induction l with
  | nil => simp [dbl]
  | cons c r ih => rw [dblC]; split <;> simp only [List.length_cons] <;> omega
theorem mem_dbl {c : Nat} : ∀ {l : List Nat}, c ∈ l → c ∈ dbl 39 l
  | d :: r, h => by
    rw [dblC]
    rcases List.mem_cons.mp h with e | h
    · subst e; split
      · rename_i e; rw [e]; exact List.mem_cons_self ..
      · exact List.mem_cons_self ..
    · have := mem_dbl h
      split <;> simp [this]
theorem wtL_ge (l : List Nat) : l.length ≤ (wtL l).length := by
  have := dbl_ge l
  unfold wtL; split
  · omega
  · simp only [List.length_cons, List.length_append, List.length_nil]; omega
theorem mem_wtL {c : Nat} {l : List Nat} (h : c ∈ l) : c ∈ wtL l := by
  unfold wtL; split
  · exact h
  · simp [mem_dbl h]
theorem mem_rowL {c : Nat} {w : Str} : ∀ {ws : List Str}, w ∈ ws → c ∈ tl w → c ∈ rowL (ws.map tl)
  | v :: r, h, hc => by
    rw [List.map_cons, rowL_cons]
    rcases List.mem_cons.mp h with e | h
    · subst e; exact List.mem_append_left _ (mem_wtL hc)
    · have := mem_rowL h hc
      rw [tailL_more (by cases r with | nil => cases h | cons a b => simp)]
      simp [this]
theorem rowL_cnt : ∀ ws : List Str, ws.length ≤ (rowL (ws.map tl)).length
  | [] => Nat.zero_le _
  | w :: r => by
    rw [List.map_cons, rowL_cons, List.length_append]
    have h1 : 0 < (wtL (tl w)).length := List.length_pos_iff.mpr (wtL_ne _)
    by_cases e : r = []
    · subst e; simp only [List.length_cons, List.length_nil]; omega
    · have := rowL_cnt r
      rw [tailL_more (by simpa using e)]
      simp only [List.length_cons]; omega
theorem rowL_wlen {w : Str} : ∀ {ws : List Str}, w ∈ ws → w.length ≤ (rowL (ws.map tl)).length
  | v :: r, h => by
    rw [List.map_cons, rowL_cons, List.length_append]
    rcases List.mem_cons.mp h with e | h
    · subst e; have := wtL_ge (tl w); rw [← tl_len] at this; omega
    · have := rowL_wlen h
      rw [tailL_more (by cases r with | nil => cases h | cons a b => simp)]
      simp only [List.length_cons]; omega
theorem qE_len : ∀ (n : Nat) (l : List Nat), l.length ≤ n → qE l ≤ l.length
  | 0, l, h => by
    have : l = [] := List.length_eq_zero_iff.mp (by omega)
    subst this; exact Nat.zero_le _
  | n + 1, [], _ => Nat.zero_le _
  | n + 1, c :: r, h => by
    by_cases hc : c = 39
    · subst hc
      match r, h with
      | [], _ => rw [qE_end fun _ _ z => by cases z]; exact Nat.zero_le _
      | d :: r', h =>
        by_cases hd : d = 39
        · subst hd
          rw [qE_two]
          have := qE_len n r' (by simp only [List.length_cons] at h; omega)
          simp only [List.length_cons]; omega
        · rw [qE_end fun _ _ z => (List.cons.inj z).1 ▸ hd]; exact Nat.zero_le _
    · rw [qE_go hc]
      have := qE_len n r (by simp only [List.length_cons] at h; omega)
      simp only [List.length_cons]; omega
theorem bE_len : ∀ (l : List Nat), bE l ≤ l.length
  | [] => Nat.zero_le _
  | c :: r => by
    have := bE_len r
    show (if c = 32 then 0 else 1 + bE r) ≤ _
    split <;> simp only [List.length_cons] <;> omega
theorem replQ_len : ∀ (n : Nat) (l : List Nat), l.length ≤ n → (StrLaws.replL [39, 39] [39] l).length ≤ l.length
  | 0, l, h => by
    have : l = [] := List.length_eq_zero_iff.mp (by omega)
    subst this; rw [StrLaws.replL_nil]; exact Nat.le_refl _
  | n + 1, [], _ => by rw [StrLaws.replL_nil]; exact Nat.le_refl _
  | n + 1, c :: r, h => by
    by_cases e : (c :: r).take [39, 39].length = [39, 39]
    · rw [StrLaws.replL_hit (by simp) e]
      match r, e with
      | [], e => simp at e
      | d :: r', e =>
        have := replQ_len n r' (by simp only [List.length_cons] at h; omega)
        show ([39] ++ StrLaws.replL [39, 39] [39] r').length ≤ _
        simp only [List.length_append, List.length_cons, List.length_nil]; omega
    · rw [StrLaws.replL_miss e]
      have := replQ_len n r (by simp only [List.length_cons] at h; omega)
      simp only [List.length_cons]; omega
theorem replQ_le (x : Str) : (Txt.replace x (Str.ofString "'" ++ Str.ofString "'") (Str.ofString "'")).length ≤ x.length := by
  have e := StrLaws.replace_list (x := x) (y := Str.ofString "'" ++ Str.ofString "'") (z := Str.ofString "'") (by decide +kernel)
  have e2 : tl (Txt.replace x (Str.ofString "'" ++ Str.ofString "'") (Str.ofString "'")) = StrLaws.replL (tl (Str.ofString "'" ++ Str.ofString "'")) (tl (Str.ofString "'")) (tl x) := e
  rw [tl_len, e2, sgQQ, sgQ, tl_len]
  exact replQ_len _ _ (Nat.le_refl _)
end Wb

set_option Elab.async false
set_option linter.all false
set_option maxRecDepth 100000
set_option maxHeartbeats 4000000
namespace Wb
open PySem PySem.Spec PyProof.Rows L2
def topS (i : Nat) : Stmt := PySem.Challenge.pw_wordbench_k26_whole_texts_read_or_not.main.body.getD i (.Pass ⟨0, 0, 0, 0⟩)
abbrev s_word_text : Stmt := topS 15
abbrev s_row_text : Stmt := topS 16
abbrev s_bare_end : Stmt := topS 17
abbrev s_quoted_end : Stmt := topS 18
abbrev s_words_of : Stmt := topS 19
abbrev s_law_cell : Stmt := topS 21
abbrev s_law_pot : Stmt := topS 22
abbrev s_law_draw : Stmt := topS 23
abbrev s_law_signs : Stmt := topS 24
abbrev s_law_text : Stmt := topS 25
abbrev s_law_written : Stmt := topS 26
abbrev s_law_quoted : Stmt := topS 27
abbrev s_law_bare : Stmt := topS 28
abbrev s_law_read : Stmt := topS 29
abbrev s_law_is_other : Stmt := topS 30
abbrev s_law_told : Stmt := topS 31
abbrev s_law_right : Stmt := topS 32
abbrev s_law_row : Stmt := topS 33
abbrev s_law_spoilt : Stmt := topS 34
abbrev s_law : Stmt := topS 35
theorem sc_word_text : FnScope ["word"] ["word"] (defScope s_word_text) := ⟨rfl, rfl, rfl, by decide +kernel, rfl, by decide +kernel, by decide +kernel⟩
theorem sc_row_text : FnScope ["words", "word"] ["words"] (defScope s_row_text) := ⟨rfl, rfl, rfl, by decide +kernel, rfl, by decide +kernel, by decide +kernel⟩
theorem sc_bare_end : FnScope ["text", "at"] ["text", "at"] (defScope s_bare_end) := ⟨rfl, rfl, rfl, by decide +kernel, rfl, by decide +kernel, by decide +kernel⟩
theorem sc_quoted_end : FnScope ["text", "at"] ["text", "at"] (defScope s_quoted_end) := ⟨rfl, rfl, rfl, by decide +kernel, rfl, by decide +kernel, by decide +kernel⟩
theorem sc_words_of : FnScope ["text", "found", "at", "end"] ["text"] (defScope s_words_of) := ⟨rfl, rfl, rfl, by decide +kernel, rfl, by decide +kernel, by decide +kernel⟩
theorem sc_law_cell : FnScope ["_law_script", "_law_k"] ["_law_script", "_law_k"] (defScope s_law_cell) := ⟨rfl, rfl, rfl, by decide +kernel, rfl, by decide +kernel, by decide +kernel⟩
theorem sc_law_pot : FnScope ["_law_script", "_law_k", "_law_cell_here"] ["_law_script", "_law_k"] (defScope s_law_pot) := ⟨rfl, rfl, rfl, by decide +kernel, rfl, by decide +kernel, by decide +kernel⟩
theorem sc_law_draw : FnScope ["_law_pot_here", "_law_many", "_law_digit"] ["_law_pot_here", "_law_many"] (defScope s_law_draw) := ⟨rfl, rfl, rfl, by decide +kernel, rfl, by decide +kernel, by decide +kernel⟩
theorem sc_law_signs : FnScope ["_law_letters"] [] (defScope s_law_signs) := ⟨rfl, rfl, rfl, by decide +kernel, rfl, by decide +kernel, by decide +kernel⟩
theorem sc_law_text : FnScope ["_law_pot_here", "_law_most", "_law_signs_here", "_law_k"] ["_law_pot_here", "_law_most", "_law_signs_here"] (defScope s_law_text) := ⟨rfl, rfl, rfl, by decide +kernel, rfl, by decide +kernel, by decide +kernel⟩
theorem sc_law_written : FnScope ["_law_words", "_law_text_here", "_law_k", "_law_word", "_law_sign"] ["_law_words"] (defScope s_law_written) := ⟨rfl, rfl, rfl, by decide +kernel, rfl, by decide +kernel, by decide +kernel⟩
theorem sc_law_quoted : FnScope ["_law_text_here", "_law_at", "_law_word"] ["_law_text_here", "_law_at"] (defScope s_law_quoted) := ⟨rfl, rfl, rfl, by decide +kernel, rfl, by decide +kernel, by decide +kernel⟩
theorem sc_law_bare : FnScope ["_law_text_here", "_law_at", "_law_word"] ["_law_text_here", "_law_at"] (defScope s_law_bare) := ⟨rfl, rfl, rfl, by decide +kernel, rfl, by decide +kernel, by decide +kernel⟩
theorem sc_law_read : FnScope ["_law_text_here", "_law_words", "_law_at", "_law_is_open", "_law_word"] ["_law_text_here"] (defScope s_law_read) := ⟨rfl, rfl, rfl, by decide +kernel, rfl, by decide +kernel, by decide +kernel⟩
theorem sc_law_is_other : FnScope ["_law_e"] ["_law_e"] (defScope s_law_is_other) := ⟨rfl, rfl, rfl, by decide +kernel, rfl, by decide +kernel, by decide +kernel⟩
theorem sc_law_told : FnScope ["_law_text_here", "_law_told_here", "_law_e"] ["_law_text_here"] (defScope s_law_told) := ⟨rfl, rfl, rfl, by decide +kernel, rfl, by decide +kernel, by decide +kernel⟩
theorem sc_law_right : FnScope ["_law_text_here", "_law_due", "_law_told_here", "_law_word"] ["_law_text_here"] (defScope s_law_right) := ⟨rfl, rfl, rfl, by decide +kernel, rfl, by decide +kernel, by decide +kernel⟩
theorem sc_law_row : FnScope ["_law_pot_here", "_law_signs_here", "_law_k"] ["_law_pot_here"] (defScope s_law_row) := ⟨rfl, rfl, rfl, by decide +kernel, rfl, by decide +kernel, by decide +kernel⟩
theorem sc_law_spoilt : FnScope ["_law_pot_here", "_law_text_here", "_law_at", "_law_signs_here", "_law_sign", "_law_way"] ["_law_pot_here", "_law_text_here"] (defScope s_law_spoilt) := ⟨rfl, rfl, rfl, by decide +kernel, rfl, by decide +kernel, by decide +kernel⟩
theorem sc_law : FnScope ["_law_script", "_law_k", "_law_pot_here", "_law_way", "_law_text_here", "_law_turn", "_law_fixed", "_law_things", "_law_thing"] ["_law_script"] (defScope s_law) := ⟨rfl, rfl, rfl, by decide +kernel, rfl, by decide +kernel, by decide +kernel⟩
/-- what the top has left -/
structure Tx (K : PySem.W.Frag) (mg : Str → Option Value) where
  a_word_text : Addr
  fd_word_text : FuncData
  F_word_text : Fun K "word_text" "word_text" s_word_text a_word_text fd_word_text
  m_word_text : mg "word_text" = some (.ref a_word_text)
  a_row_text : Addr
  fd_row_text : FuncData
  F_row_text : Fun K "row_text" "row_text" s_row_text a_row_text fd_row_text
  m_row_text : mg "row_text" = some (.ref a_row_text)
  a_bare_end : Addr
  fd_bare_end : FuncData
  F_bare_end : Fun K "bare_end" "bare_end" s_bare_end a_bare_end fd_bare_end
  m_bare_end : mg "bare_end" = some (.ref a_bare_end)
  a_quoted_end : Addr
  fd_quoted_end : FuncData
  F_quoted_end : Fun K "quoted_end" "quoted_end" s_quoted_end a_quoted_end fd_quoted_end
  m_quoted_end : mg "quoted_end" = some (.ref a_quoted_end)
  a_words_of : Addr
  fd_words_of : FuncData
  F_words_of : Fun K "words_of" "words_of" s_words_of a_words_of fd_words_of
  m_words_of : mg "words_of" = some (.ref a_words_of)
  a_law_cell : Addr
  fd_law_cell : FuncData
  F_law_cell : Fun K "_law_cell" "_law_cell" s_law_cell a_law_cell fd_law_cell
  m_law_cell : mg "_law_cell" = some (.ref a_law_cell)
  a_law_pot : Addr
  fd_law_pot : FuncData
  F_law_pot : Fun K "_law_pot" "_law_pot" s_law_pot a_law_pot fd_law_pot
  m_law_pot : mg "_law_pot" = some (.ref a_law_pot)
  a_law_draw : Addr
  fd_law_draw : FuncData
  F_law_draw : Fun K "_law_draw" "_law_draw" s_law_draw a_law_draw fd_law_draw
  m_law_draw : mg "_law_draw" = some (.ref a_law_draw)
  a_law_signs : Addr
  fd_law_signs : FuncData
  F_law_signs : Fun K "_law_signs" "_law_signs" s_law_signs a_law_signs fd_law_signs
  m_law_signs : mg "_law_signs" = some (.ref a_law_signs)
  a_law_text : Addr
  fd_law_text : FuncData
  F_law_text : Fun K "_law_text" "_law_text" s_law_text a_law_text fd_law_text
  m_law_text : mg "_law_text" = some (.ref a_law_text)
  a_law_written : Addr
  fd_law_written : FuncData
  F_law_written : Fun K "_law_written" "_law_written" s_law_written a_law_written fd_law_written
  m_law_written : mg "_law_written" = some (.ref a_law_written)
  a_law_quoted : Addr
  fd_law_quoted : FuncData
  F_law_quoted : Fun K "_law_quoted" "_law_quoted" s_law_quoted a_law_quoted fd_law_quoted
  m_law_quoted : mg "_law_quoted" = some (.ref a_law_quoted)
  a_law_bare : Addr
  fd_law_bare : FuncData
  F_law_bare : Fun K "_law_bare" "_law_bare" s_law_bare a_law_bare fd_law_bare
  m_law_bare : mg "_law_bare" = some (.ref a_law_bare)
  a_law_read : Addr
  fd_law_read : FuncData
  F_law_read : Fun K "_law_read" "_law_read" s_law_read a_law_read fd_law_read
  m_law_read : mg "_law_read" = some (.ref a_law_read)
  a_law_is_other : Addr
  fd_law_is_other : FuncData
  F_law_is_other : Fun K "_law_is_other" "_law_is_other" s_law_is_other a_law_is_other fd_law_is_other
  m_law_is_other : mg "_law_is_other" = some (.ref a_law_is_other)
  a_law_told : Addr
  fd_law_told : FuncData
  F_law_told : Fun K "_law_told" "_law_told" s_law_told a_law_told fd_law_told
  m_law_told : mg "_law_told" = some (.ref a_law_told)
  a_law_right : Addr
  fd_law_right : FuncData
  F_law_right : Fun K "_law_right" "_law_right" s_law_right a_law_right fd_law_right
  m_law_right : mg "_law_right" = some (.ref a_law_right)
  a_law_row : Addr
  fd_law_row : FuncData
  F_law_row : Fun K "_law_row" "_law_row" s_law_row a_law_row fd_law_row
  m_law_row : mg "_law_row" = some (.ref a_law_row)
  a_law_spoilt : Addr
  fd_law_spoilt : FuncData
  F_law_spoilt : Fun K "_law_spoilt" "_law_spoilt" s_law_spoilt a_law_spoilt fd_law_spoilt
  m_law_spoilt : mg "_law_spoilt" = some (.ref a_law_spoilt)
  a_law : Addr
  fd_law : FuncData
  F_law : Fun K "law" "law" s_law a_law fd_law
  m_law : mg "law" = some (.ref a_law)
  C_BenchError : Addr
  x_BenchError : ExK K mg "BenchError" C_BenchError
  C_NoRow : Addr
  x_NoRow : ExK K mg "NoRow" C_NoRow
  C_BadDefault : Addr
  x_BadDefault : ExK K mg "BadDefault" C_BadDefault
  C_Clash : Addr
  x_Clash : ExK K mg "Clash" C_Clash
  C_Fault : Addr
  x_Fault : ExK K mg "Fault" C_Fault
  C_NoCommand : Addr
  x_NoCommand : ExK K mg "NoCommand" C_NoCommand
  C_NoMaker : Addr
  x_NoMaker : ExK K mg "NoMaker" C_NoMaker
  C_NoName : Addr
  x_NoName : ExK K mg "NoName" C_NoName
  C_NoOption : Addr
  x_NoOption : ExK K mg "NoOption" C_NoOption
  C_NoPlace : Addr
  x_NoPlace : ExK K mg "NoPlace" C_NoPlace
  C_Unmade : Addr
  x_Unmade : ExK K mg "Unmade" C_Unmade
  xi_NoRow : PySem.W.excIn K C_NoRow [.type "ValueError", .type "Exception", .type "BaseException", .type "object"] "ValueError.__new__" = true
  ex_NoRow_BenchError : PySem.W.exmOne K (.ref C_NoRow) (.ref C_BenchError) = some true
  ki_NoRow_NoRow : PySem.W.kitOne K (.ref C_NoRow) (.ref C_NoRow) = some true
  ki_NoRow_ValueError : PySem.W.kitOne K (.ref C_NoRow) (.type "ValueError") = some true
  n_ValueError : mg "ValueError" = none
  n_all : mg "all" = none
  n_divmod : mg "divmod" = none
  n_enumerate : mg "enumerate" = none
  n_int : mg "int" = none
  n_isinstance : mg "isinstance" = none
  n_len : mg "len" = none
  n_list : mg "list" = none
  n_max : mg "max" = none
  n_min : mg "min" = none
  n_range : mg "range" = none
  n_str : mg "str" = none
  c_BLANK : ∃ t, mg "BLANK" = some (.str (Str.ofString " ") t)
  c_QUOTE : ∃ t, mg "QUOTE" = some (.str (Str.ofString "'") t)
  tq_QUOTE : ∃ t, t ≠ 0 ∧ t < 464 ∧ mg "QUOTE" = some (.str (Str.ofString "'") t)
  ka_NoRow_BadDefault : PySem.W.kitAny K (.ref C_NoRow) [(.ref C_BadDefault), (.ref C_Clash), (.ref C_Fault), (.ref C_NoCommand), (.ref C_NoMaker), (.ref C_NoName), (.ref C_NoOption), (.ref C_NoPlace), (.ref C_Unmade)] = some false
section
variable {P : Program} {w : World} {K : PySem.W.Frag} {mg : Str → Option Value} {base : Heap}
theorem b_word_text (T : Tx K mg) : Binds K T.fd_word_text ["word"] [] := T.F_word_text.binds (ps := ["word"]) fun _ _ _ _ _ _ us hl => match us, hl with | [_], _ => rfl
theorem b_row_text (T : Tx K mg) : Binds K T.fd_row_text ["words"] [] := T.F_row_text.binds (ps := ["words"]) fun _ _ _ _ _ _ us hl => match us, hl with | [_], _ => rfl
theorem b_bare_end (T : Tx K mg) : Binds K T.fd_bare_end ["text", "at"] [] := T.F_bare_end.binds (ps := ["text", "at"]) fun _ _ _ _ _ _ us hl => match us, hl with | [_, _], _ => rfl
theorem b_quoted_end (T : Tx K mg) : Binds K T.fd_quoted_end ["text", "at"] [] := T.F_quoted_end.binds (ps := ["text", "at"]) fun _ _ _ _ _ _ us hl => match us, hl with | [_, _], _ => rfl
theorem b_words_of (T : Tx K mg) : Binds K T.fd_words_of ["text"] [] := T.F_words_of.binds (ps := ["text"]) fun _ _ _ _ _ _ us hl => match us, hl with | [_], _ => rfl
theorem b_law_cell (T : Tx K mg) : Binds K T.fd_law_cell ["_law_script", "_law_k"] [] := T.F_law_cell.binds (ps := ["_law_script", "_law_k"]) fun _ _ _ _ _ _ us hl => match us, hl with | [_, _], _ => rfl
theorem b_law_pot (T : Tx K mg) : Binds K T.fd_law_pot ["_law_script", "_law_k"] [] := T.F_law_pot.binds (ps := ["_law_script", "_law_k"]) fun _ _ _ _ _ _ us hl => match us, hl with | [_, _], _ => rfl
theorem b_law_draw (T : Tx K mg) : Binds K T.fd_law_draw ["_law_pot_here", "_law_many"] [] := T.F_law_draw.binds (ps := ["_law_pot_here", "_law_many"]) fun _ _ _ _ _ _ us hl => match us, hl with | [_, _], _ => rfl
theorem b_law_signs (T : Tx K mg) : Binds K T.fd_law_signs [] [] := T.F_law_signs.binds (ps := []) fun _ _ _ _ _ _ us hl => match us, hl with | [], _ => rfl
theorem b_law_text (T : Tx K mg) : Binds K T.fd_law_text ["_law_pot_here", "_law_most", "_law_signs_here"] [] := T.F_law_text.binds (ps := ["_law_pot_here", "_law_most", "_law_signs_here"]) fun _ _ _ _ _ _ us hl => match us, hl with | [_, _, _], _ => rfl
theorem b_law_written (T : Tx K mg) : Binds K T.fd_law_written ["_law_words"] [] := T.F_law_written.binds (ps := ["_law_words"]) fun _ _ _ _ _ _ us hl => match us, hl with | [_], _ => rfl
theorem b_law_quoted (T : Tx K mg) : Binds K T.fd_law_quoted ["_law_text_here", "_law_at"] [] := T.F_law_quoted.binds (ps := ["_law_text_here", "_law_at"]) fun _ _ _ _ _ _ us hl => match us, hl with | [_, _], _ => rfl
theorem b_law_bare (T : Tx K mg) : Binds K T.fd_law_bare ["_law_text_here", "_law_at"] [] := T.F_law_bare.binds (ps := ["_law_text_here", "_law_at"]) fun _ _ _ _ _ _ us hl => match us, hl with | [_, _], _ => rfl
theorem b_law_read (T : Tx K mg) : Binds K T.fd_law_read ["_law_text_here"] [] := T.F_law_read.binds (ps := ["_law_text_here"]) fun _ _ _ _ _ _ us hl => match us, hl with | [_], _ => rfl
theorem b_law_is_other (T : Tx K mg) : Binds K T.fd_law_is_other ["_law_e"] [] := T.F_law_is_other.binds (ps := ["_law_e"]) fun _ _ _ _ _ _ us hl => match us, hl with | [_], _ => rfl
theorem b_law_told (T : Tx K mg) : Binds K T.fd_law_told ["_law_text_here"] [] := T.F_law_told.binds (ps := ["_law_text_here"]) fun _ _ _ _ _ _ us hl => match us, hl with | [_], _ => rfl
theorem b_law_right (T : Tx K mg) : Binds K T.fd_law_right ["_law_text_here"] [] := T.F_law_right.binds (ps := ["_law_text_here"]) fun _ _ _ _ _ _ us hl => match us, hl with | [_], _ => rfl
theorem b_law_row (T : Tx K mg) : Binds K T.fd_law_row ["_law_pot_here"] [] := T.F_law_row.binds (ps := ["_law_pot_here"]) fun _ _ _ _ _ _ us hl => match us, hl with | [_], _ => rfl
theorem b_law_spoilt (T : Tx K mg) : Binds K T.fd_law_spoilt ["_law_pot_here", "_law_text_here"] [] := T.F_law_spoilt.binds (ps := ["_law_pot_here", "_law_text_here"]) fun _ _ _ _ _ _ us hl => match us, hl with | [_, _], _ => rfl
theorem b_law (T : Tx K mg) : Binds K T.fd_law ["_law_script"] [] := T.F_law.binds (ps := ["_law_script"]) fun _ _ _ _ _ _ us hl => match us, hl with | [_], _ => rfl

local macro_rules | `(tactic| walk_at "side") => `(tactic| first
  | omega
  | exact ⟨by omega, by omega⟩
  | exact .inr ⟨by omega, by omega⟩
  | exact .inl ⟨by omega, by omega⟩
  | exact ⟨by omega, by omega, by omega⟩
  | (show (0 : Int) < _; omega)
  | (refine szl ?_; omega)
  | (refine szl ?_; simp only [len_app, len_nil]; omega)
  | (refine szl ?_; decide +kernel)
  | (refine szl (Nat.le_trans (Nat.add_le_add_left (show _ ≤ 1000 by decide +kernel) _) ?_); omega)
  | (refine szl (Nat.le_trans (Nat.add_le_add_right (show _ ≤ 1000 by decide +kernel) _) ?_); omega))
local macro_rules | `(tactic| walk_at "go1") => `(tactic| first
  | (with_reducible refine w_seq ?_)
  | (with_reducible refine w_asg ?_)
  | ((with_reducible refine' w_var ?h1 ?_); (case h1 => exact rfl))
  | (with_reducible refine w_c ?_)
  | (with_reducible refine w_name ?_)
  | (with_reducible refine w_ret ?_)
  | (with_reducible refine w_cons ?_)
  | (with_reducible refine w_nil ?_)
  | (with_reducible refine w_call0 ?_)
  | (with_reducible refine w_call ?_)
  | (with_reducible refine w_op ?_)
  | (with_reducible refine w_test ?_)
  | (with_reducible refine w_tB ?_)
  | (with_reducible refine w_bl ?_)
  | (with_reducible refine w_cb ?_)
  | (with_reducible refine w_and ?_)
  | (with_reducible refine w_or ?_)
  | (with_reducible refine w_not ?_)
  | (with_reducible refine iteT ?_)
  | (with_reducible refine iteF ?_)
  | (with_reducible refine iteNT ?_)
  | (with_reducible refine iteNF ?_)
  | (with_reducible refine w_drop ?_)
  | (with_reducible refine w_m1 ?_)
  | (with_reducible refine w_m0 ?_)
  | (with_reducible refine w_tyS ?_)
  | (with_reducible refine w_s1 ?_)
  | (with_reducible refine w_addI ?_)
  | (with_reducible refine w_i2 ?_)
  | (with_reducible refine w_eqS ?_)
  | (with_reducible refine w_neS ?_)
  | (with_reducible refine w_eqI ?_)
  | (with_reducible refine w_neI ?_)
  | (with_reducible refine w_eqB ?_)
  | (with_reducible refine w_neB ?_)
  | (with_reducible refine w_next ?_)
  | (with_reducible refine w_brk ?_)
  | (with_reducible refine w_cont ?_)
  | (with_reducible refine w_retN ?_)
  | (with_reducible refine w_if ?_)
  | (with_reducible refine w_chain ?_)
  | (with_reducible refine w_andV ?_)
  | (with_reducible refine w_orV ?_)
  | (with_reducible refine w_notV ?_)
  | (with_reducible refine w_un ?_)
  | (with_reducible refine w_neg ?_)
  | (with_reducible refine w_tup ?_)
  | (with_reducible refine w_lst ?_)
  | (with_reducible refine w_sl ?_)
  | (with_reducible refine w_nopart ?_)
  | (with_reducible refine w_part ?_)
  | (with_reducible refine w_partI ?_)
  | ((with_reducible refine' w_aug ?h1 ?_); (case h1 => exact rfl))
  | (with_reducible refine w_sub ?_)
  | (with_reducible refine w_iaddI ?_)
  | (with_reducible refine w_max2 ?_)
  | (with_reducible refine w_min2 ?_)
  | (with_reducible refine w_intI ?_)
  | (with_reducible refine w_intB ?_)
  | (with_reducible refine w_inS ?_)
  | (with_reducible refine w_ninS ?_)
  | (with_reducible refine w_eqNN ?_)
  | (with_reducible refine w_eqNS ?_)
  | (with_reducible refine w_eqSN ?_)
  | (with_reducible refine w_lc ?_)
  | (with_reducible refine w_for ?_)
  | (with_reducible refine w_r1 ?_)
  | (with_reducible refine w_r2 ?_)
  | (with_reducible refine w_ilist ?_)
  | (with_reducible refine w_yes ?_)
  | ((with_reducible refine' w_r1I ?h1 ?_); (case h1 => exact ⟨by omega, by omega⟩))
  | ((with_reducible refine' w_r2I ?h1 ?_); (case h1 => exact ⟨by omega, by omega, by omega, by omega⟩))
  | (with_reducible refine w_rev ?_)
  | (with_reducible refine w_bm ?_)
  | (with_reducible refine w_bm0 ?_)
  | ((with_reducible refine' w_ic ?h1 ?_); (case h1 => walk_at "side"))
  | ((with_reducible refine' w_mulI ?h1 ?_); (case h1 => walk_at "side"))
  | ((with_reducible refine' w_addS ?h1 ?_); (case h1 => walk_at "side"))
  | ((with_reducible refine' w_iaddS ?h1 ?_); (case h1 => walk_at "side"))
  | ((with_reducible refine' w_lenS ?h1 ?_); (case h1 => walk_at "side"))
  | ((with_reducible refine' w_slS ?h1 ?_); (case h1 => walk_at "side"))
  | ((with_reducible refine' w_s0 ?h1 ?_); (case h1 => walk_at "side"))
  | (with_reducible refine w_ve ?_)
  | (with_reducible refine w_ost ?_)
  | (with_reducible refine w_rs ?_)
  | (with_reducible refine w_mkO ?_)
  | (with_reducible refine w_callSD ?_)
  | (with_reducible refine w_callS ?_)
  | (with_reducible refine w_istr ?_)
  | (with_reducible refine w_istrS ?_)
  | (with_reducible refine w_int3I ?_)
  | (with_reducible refine w_int3B ?_)
  | (with_reducible refine w_str1S ?_)
  | (with_reducible refine w_isXS ?_)
  | (with_reducible refine w_isXI ?_)
  | (with_reducible refine w_xf ?_)
  | (with_reducible refine w_dget ?_)
  | (with_reducible refine w_pp ?_)
  | (with_reducible refine w_callP ?_)
  | (with_reducible refine w_rep ?_)
  | (with_reducible refine w_callN ?_)
  | (with_reducible refine w_enum ?_)
  | (with_reducible refine w_pn ?_)
  | ((with_reducible refine' w_mulS ?h1 ?_); (case h1 => exact ⟨by decide +kernel, by omega, by omega⟩))
  | (with_reducible refine w_isiS_str ?_)
  | (with_reducible refine w_isiS_int ?_)
  | (with_reducible refine w_isiS_bool ?_)
  | (with_reducible refine w_isiS_list ?_)
  | (with_reducible refine w_isiS_tuple ?_)
  | (with_reducible refine w_isiS_dict ?_)
  | (with_reducible refine w_isiI_str ?_)
  | (with_reducible refine w_isiI_int ?_)
  | (with_reducible refine w_isiI_bool ?_)
  | (with_reducible refine w_isiI_list ?_)
  | (with_reducible refine w_isiI_tuple ?_)
  | (with_reducible refine w_isiI_dict ?_)
  | (with_reducible refine w_isiB_str ?_)
  | (with_reducible refine w_isiB_int ?_)
  | (with_reducible refine w_isiB_bool ?_)
  | (with_reducible refine w_isiB_list ?_)
  | (with_reducible refine w_isiB_tuple ?_)
  | (with_reducible refine w_isiB_dict ?_)
  | (with_reducible refine w_isiN_str ?_)
  | (with_reducible refine w_isiN_int ?_)
  | (with_reducible refine w_isiN_bool ?_)
  | (with_reducible refine w_isiN_list ?_)
  | (with_reducible refine w_isiN_tuple ?_)
  | (with_reducible refine w_isiN_dict ?_))
local macro_rules | `(tactic| walk_at "go") => `(tactic| repeat (first | walk_at "go1" | (with_reducible refine w_ifS ?_)))
local macro_rules | `(tactic| walk_at "gos") => `(tactic| repeat (walk_at "go1"))

local macro_rules | `(tactic| walk_at "side") => `(tactic| first
  | omega
  | exact ⟨by omega, by omega⟩
  | exact .inr ⟨by omega, by omega⟩
  | exact .inl ⟨by omega, by omega⟩
  | exact ⟨by omega, by omega, by omega⟩
  | (show (0 : Int) < _; omega)
  | (refine szl ?_; omega)
  | (refine szl ?_; simp only [len_app, len_nil]; omega)
  | (refine szl ?_; decide +kernel)
  | (refine szl (Nat.le_trans (Nat.add_le_add_left (show _ ≤ 1000 by decide +kernel) _) ?_); omega)
  | (refine szl (Nat.le_trans (Nat.add_le_add_right (show _ ≤ 1000 by decide +kernel) _) ?_); omega))
local macro_rules | `(tactic| walk_at "go1") => `(tactic| first
  | (with_reducible refine w_seq ?_)
  | (with_reducible refine w_asg ?_)
  | ((with_reducible refine' w_var ?h1 ?_); (case h1 => exact rfl))
  | (with_reducible refine w_c ?_)
  | (with_reducible refine w_name ?_)
  | (with_reducible refine w_ret ?_)
  | (with_reducible refine w_cons ?_)
  | (with_reducible refine w_nil ?_)
  | (with_reducible refine w_call0 ?_)
  | (with_reducible refine w_call ?_)
  | (with_reducible refine w_op ?_)
  | (with_reducible refine w_test ?_)
  | (with_reducible refine w_tB ?_)
  | (with_reducible refine w_bl ?_)
  | (with_reducible refine w_cb ?_)
  | (with_reducible refine w_and ?_)
  | (with_reducible refine w_or ?_)
  | (with_reducible refine w_not ?_)
  | (with_reducible refine iteT ?_)
  | (with_reducible refine iteF ?_)
  | (with_reducible refine iteNT ?_)
  | (with_reducible refine iteNF ?_)
  | (with_reducible refine w_drop ?_)
  | (with_reducible refine w_m1 ?_)
  | (with_reducible refine w_m0 ?_)
  | (with_reducible refine w_tyS ?_)
  | (with_reducible refine w_s1 ?_)
  | (with_reducible refine w_addI ?_)
  | (with_reducible refine w_i2 ?_)
  | (with_reducible refine w_eqS ?_)
  | (with_reducible refine w_neS ?_)
  | (with_reducible refine w_eqI ?_)
  | (with_reducible refine w_neI ?_)
  | (with_reducible refine w_eqB ?_)
  | (with_reducible refine w_neB ?_)
  | (with_reducible refine w_next ?_)
  | (with_reducible refine w_brk ?_)
  | (with_reducible refine w_cont ?_)
  | (with_reducible refine w_retN ?_)
  | (with_reducible refine w_if ?_)
  | (with_reducible refine w_chain ?_)
  | (with_reducible refine w_andV ?_)
  | (with_reducible refine w_orV ?_)
  | (with_reducible refine w_notV ?_)
  | (with_reducible refine w_un ?_)
  | (with_reducible refine w_neg ?_)
  | (with_reducible refine w_tup ?_)
  | (with_reducible refine w_lst ?_)
  | (with_reducible refine w_sl ?_)
  | (with_reducible refine w_nopart ?_)
  | (with_reducible refine w_part ?_)
  | (with_reducible refine w_partI ?_)
  | ((with_reducible refine' w_aug ?h1 ?_); (case h1 => exact rfl))
  | (with_reducible refine w_sub ?_)
  | (with_reducible refine w_iaddI ?_)
  | (with_reducible refine w_max2 ?_)
  | (with_reducible refine w_min2 ?_)
  | (with_reducible refine w_intI ?_)
  | (with_reducible refine w_intB ?_)
  | (with_reducible refine w_inS ?_)
  | (with_reducible refine w_ninS ?_)
  | (with_reducible refine w_eqNN ?_)
  | (with_reducible refine w_eqNS ?_)
  | (with_reducible refine w_eqSN ?_)
  | (with_reducible refine w_lc ?_)
  | (with_reducible refine w_for ?_)
  | (with_reducible refine w_r1 ?_)
  | (with_reducible refine w_r2 ?_)
  | (with_reducible refine w_ilist ?_)
  | (with_reducible refine w_yes ?_)
  | ((with_reducible refine' w_r1I ?h1 ?_); (case h1 => exact ⟨by omega, by omega⟩))
  | ((with_reducible refine' w_r2I ?h1 ?_); (case h1 => exact ⟨by omega, by omega, by omega, by omega⟩))
  | (with_reducible refine w_rev ?_)
  | (with_reducible refine w_bm ?_)
  | (with_reducible refine w_bm0 ?_)
  | ((with_reducible refine' w_ic ?h1 ?_); (case h1 => walk_at "side"))
  | ((with_reducible refine' w_mulI ?h1 ?_); (case h1 => walk_at "side"))
  | ((with_reducible refine' w_addS ?h1 ?_); (case h1 => walk_at "side"))
  | ((with_reducible refine' w_iaddS ?h1 ?_); (case h1 => walk_at "side"))
  | ((with_reducible refine' w_lenS ?h1 ?_); (case h1 => walk_at "side"))
  | ((with_reducible refine' w_slS ?h1 ?_); (case h1 => walk_at "side"))
  | ((with_reducible refine' w_s0 ?h1 ?_); (case h1 => walk_at "side"))
  | (with_reducible refine w_ve ?_)
  | (with_reducible refine w_ost ?_)
  | (with_reducible refine w_rs ?_)
  | (with_reducible refine w_mkO ?_)
  | (with_reducible refine w_callSD ?_)
  | (with_reducible refine w_callS ?_)
  | (with_reducible refine w_istr ?_)
  | (with_reducible refine w_istrS ?_)
  | (with_reducible refine w_int3I ?_)
  | (with_reducible refine w_int3B ?_)
  | (with_reducible refine w_str1S ?_)
  | (with_reducible refine w_isXS ?_)
  | (with_reducible refine w_isXI ?_)
  | (with_reducible refine w_xf ?_)
  | (with_reducible refine w_dget ?_)
  | (with_reducible refine w_pp ?_)
  | (with_reducible refine w_callP ?_)
  | (with_reducible refine w_rep ?_)
  | (with_reducible refine w_callN ?_)
  | (with_reducible refine w_enum ?_)
  | (with_reducible refine w_pn ?_)
  | ((with_reducible refine' w_mulS ?h1 ?_); (case h1 => exact ⟨by decide +kernel, by omega, by omega⟩))
  | (with_reducible refine w_isiS_str ?_)
  | (with_reducible refine w_isiS_int ?_)
  | (with_reducible refine w_isiS_bool ?_)
  | (with_reducible refine w_isiS_list ?_)
  | (with_reducible refine w_isiS_tuple ?_)
  | (with_reducible refine w_isiS_dict ?_)
  | (with_reducible refine w_isiI_str ?_)
  | (with_reducible refine w_isiI_int ?_)
  | (with_reducible refine w_isiI_bool ?_)
  | (with_reducible refine w_isiI_list ?_)
  | (with_reducible refine w_isiI_tuple ?_)
  | (with_reducible refine w_isiI_dict ?_)
  | (with_reducible refine w_isiB_str ?_)
  | (with_reducible refine w_isiB_int ?_)
  | (with_reducible refine w_isiB_bool ?_)
  | (with_reducible refine w_isiB_list ?_)
  | (with_reducible refine w_isiB_tuple ?_)
  | (with_reducible refine w_isiB_dict ?_)
  | (with_reducible refine w_isiN_str ?_)
  | (with_reducible refine w_isiN_int ?_)
  | (with_reducible refine w_isiN_bool ?_)
  | (with_reducible refine w_isiN_list ?_)
  | (with_reducible refine w_isiN_tuple ?_)
  | (with_reducible refine w_isiN_dict ?_))
local macro_rules | `(tactic| walk_at "go") => `(tactic| repeat (first | walk_at "go1" | (with_reducible refine w_ifS ?_)))
local macro_rules | `(tactic| walk_at "gos") => `(tactic| repeat (walk_at "go1"))

def mKind (w : Str) : Str := if w = Str.ofString "--" then Str.ofString "divider" else if Txt.startswith w (Str.ofString "--") = true then Str.ofString "long" else if Txt.startswith w (Str.ofString "-") = true ∧ w ≠ Str.ofString "-" then Str.ofString "shorts" else Str.ofString "plain"

def LstOf (μ : Mu) (x : D) (ws : List Str) : Prop := x = .lst (dStrs ws) ∨ ∃ k, x = .o k ∧ μ[k]? = some (.lst (dStrs ws))
theorem rowL_snoc : ∀ {ws : List (List Nat)} (w : List Nat), ws ≠ [] → rowL (ws ++ [w]) = rowL ws ++ 32 :: wtL w
  | [], _, h => absurd rfl h
  | [v], w, _ => rfl
  | v :: u :: r, w, _ => by
    have ih := rowL_snoc (ws := u :: r) w (by simp)
    show wtL v ++ (32 :: rowL ((u :: r) ++ [w])) = (wtL v ++ (32 :: rowL (u :: r))) ++ 32 :: wtL w
    rw [ih]; simp
theorem fixOk : ∀ x ∈ [[], [Str.ofString ""], [Str.ofString "", Str.ofString ""], [Str.ofString "'"], [Str.ofString "''"], [Str.ofString " "], [Str.ofString "a", Str.ofString "", Str.ofString "b"], [Str.ofString "a'", Str.ofString "'a"]], x.length ≤ 40 ∧ ∀ w ∈ x, w.length ≤ 60 ∧ Gd w := by
  have k : ∀ w ∈ [Str.ofString "", Str.ofString "'", Str.ofString "''", Str.ofString " ", Str.ofString "a", Str.ofString "b", Str.ofString "a'", Str.ofString "'a"], w.length ≤ 60 ∧ Gd w := fun w hw => by
    simp only [List.mem_cons, List.not_mem_nil, or_false] at hw
    rcases hw with rfl | rfl | rfl | rfl | rfl | rfl | rfl | rfl <;> exact ⟨by decide +kernel, gd_of_ok (by decide +kernel)⟩
  intro x hx
  simp only [List.mem_cons, List.not_mem_nil, or_false] at hx
  rcases hx with rfl | rfl | rfl | rfl | rfl | rfl | rfl | rfl <;> exact ⟨by decide, fun w hw => k w (by
    simp only [List.mem_cons, List.not_mem_nil, or_false, or_self] at hw ⊢ <;>
    first
    | exact hw.elim
    | (subst hw; simp only [true_or, or_true])
    | (rcases hw with rfl | rfl <;> simp only [true_or, or_true])
    | (rcases hw with rfl | rfl | rfl <;> simp only [true_or, or_true]))⟩
theorem joinL_nil_cons (a : List Nat) (r : List (List Nat)) : TL.joinL [] (a :: r) = a ++ TL.joinL [] r := by
  cases r with
  | nil => show a = a ++ []; rw [List.append_nil]
  | cons b r => rfl
theorem tl_dblJ (w : Str) : TL.tl (Txt.join (Str.ofString "") ((TL.tl w).map fun c => Txt.mul (Str.ofString "'") (if c = 39 then 1 else 0) ++ ⟨#[c]⟩)) = StrLaws.dbl 39 (TL.tl w) := by
  rw [TL.join_eq, TL.tl_join, show TL.tl (Str.ofString "") = [] from by decide +kernel]
  have k : ∀ l : List Nat, TL.joinL [] ((l.map fun c => Txt.mul (Str.ofString "'") (if c = 39 then 1 else 0) ++ (⟨#[c]⟩ : Str)).map TL.tl) = StrLaws.dbl 39 l := fun l => by
    induction l with
    | nil => rfl
    | cons c r ih =>
      have e : TL.tl (Txt.mul (Str.ofString "'") (if c = 39 then 1 else 0) ++ (⟨#[c]⟩ : Str)) = if c = 39 then [39, 39] else [c] := by
        rw [TL.tl_append]
        by_cases h : c = 39
        · rw [if_pos h, if_pos h, h, show TL.tl (Txt.mul (Str.ofString "'") 1) = [39] from by decide +kernel]; rfl
        · rw [if_neg h, if_neg h, show TL.tl (Txt.mul (Str.ofString "'") 0) = [] from by decide +kernel]; rfl
      rw [List.map_cons, List.map_cons, joinL_nil_cons, ih, e]
      by_cases h : c = 39
      · subst h; simp [StrLaws.dbl]
      · simp [StrLaws.dbl, h]
  exact k _
theorem joinJ_len (w : Str) : (((TL.tl w).map fun c => Txt.mul (Str.ofString "'") (if c = 39 then 1 else 0) ++ (⟨#[c]⟩ : Str)).map (·.length)).sum ≤ w.length * 2 := by
  have h1 := sum_le (L := 2) (ys := (TL.tl w).map fun c => Txt.mul (Str.ofString "'") (if c = 39 then 1 else 0) ++ (⟨#[c]⟩ : Str)) fun y hy => by
    obtain ⟨c, hc, rfl⟩ := List.mem_map.mp hy
    rw [len_app]
    by_cases h : c = 39
    · rw [if_pos h, show (Txt.mul (Str.ofString "'") 1).length = 1 from by decide +kernel]; exact Nat.le_refl 2
    · rw [if_neg h, show (Txt.mul (Str.ofString "'") 0).length = 0 from by decide +kernel]; exact Nat.le_succ 1
  rw [List.length_map, ← tl_len] at h1
  exact h1
theorem eq_at {ss ts : List Str} {A B : Prop} (e : ss = ts) (h : ∀ x ∈ ss, Vd x) (q : A) : SeqAt.shaped (.list (ss.map PyData.str)) = true ∧ SeqAt.shaped (.list (ts.map PyData.str)) = true ∧ if PyData.eqv (.list (ss.map PyData.str)) (.list (ts.map PyData.str)) = true then A else B := by
  subst e
  have := eq_same (A := False) (B := True) (rfl : ss = ss) h trivial
  obtain ⟨h1, h2, h3⟩ := this
  refine ⟨h1, h2, ?_⟩
  split at h3
  · exact h3.elim
  · rename_i z
    rw [if_pos (by simpa using z)]
    exact q
theorem dtk (ws : List Str) (j : Nat) (h : j ≤ 1000) : (dStrs (ws.take j)).length < 16777216 := by
  show ((ws.take j).map _).length < _
  rw [List.length_map, List.length_take]; omega
theorem one_len (c : Nat) : (Str.mk #[c]).length = 1 := rfl
theorem lq : (Str.ofString "'").length = 1 := by decide +kernel
theorem lb : (Str.ofString " ").length = 1 := by decide +kernel
theorem wt_len (w : Str) : (wt w).length ≤ 2 * w.length + 2 := by
  rw [tl_len, tl_wt, tl_len]; exact wtL_len _
def LT : List D := [D.v V.non, D.v (V.int 7), D.v (V.int 0), D.v (V.bl true), D.v (V.bl false), D.lst [], D.lst [D.v (V.str (Str.ofString ""))], D.lst [D.v (V.str (Str.ofString "a"))], D.lst [D.v (V.str (Str.ofString "a")), D.v (V.str (Str.ofString "b c"))], D.lst [D.v (V.int 7)], D.tup [], D.tup [D.v (V.str (Str.ofString "a"))], D.dic [], D.dic [(Sum.inr (Str.ofString "a"), D.v (V.int 1))]]
theorem LT_e : (eLst (eCons (eC V.non) (eCons (eC (V.int 7)) (eCons (eC (V.int 0)) (eCons (eC (V.bl true)) (eCons (eC (V.bl false)) (eCons (eLst eNil) (eCons (eLst (eCons (eC (V.str (Str.ofString ""))) eNil)) (eCons (eLst (eCons (eC (V.str (Str.ofString "a"))) eNil)) (eCons (eLst (eCons (eC (V.str (Str.ofString "a"))) (eCons (eC (V.str (Str.ofString "b c"))) eNil))) (eCons (eLst (eCons (eC (V.int 7)) eNil)) (eCons (eTup eNil) (eCons (eTup (eCons (eC (V.str (Str.ofString "a"))) eNil)) (eCons (fun _ μ Q => Q (D.dic []) μ) (eCons (eDisp [((eC (V.str (Str.ofString "a"))), (eC (V.int 1)))]) eNil))))))))))))))) = fun _ μ Q => Q (.lst LT) μ := by
  funext s μ Q
  have hy : (Str.ofString "y").length = 1 := by decide +kernel
  have hb : (Str.ofString "b").length = 1 := by decide +kernel
  have hp : CPow 10 64 := by unfold CPow; decide
  unfold LT
  simp only [eLst, eTup, eCons, eNil, eC, eOp, oMul, oIC, eDisp, ePairs, keysOf, wSome_some, Option.map_some, hy, hb, hp, List.length_cons, List.length_nil, List.map_cons, List.map_nil, Nat.reduceAdd, Nat.zero_add, sizeLine_eq, Nat.reduceLeDiff, Int.reduceLE, Int.reduceNeg, true_and, and_true, and_self, decide_eq_true_eq, List.nodup_cons, List.not_mem_nil, not_false_eq_true, List.nodup_nil, Nat.reducePow, Int.reducePow]

theorem oq_len {t : Str} {p : Nat} : p + qE ((TL.tl t).drop p) ≤ max p t.length := by
  have := qE_len _ ((TL.tl t).drop p) (Nat.le_refl _)
  rw [List.length_drop, ← tl_len] at this
  omega
theorem ob_len {t : Str} {p : Nat} : p + bE ((TL.tl t).drop p) ≤ max p t.length := by
  have := bE_len ((TL.tl t).drop p)
  rw [List.length_drop, ← tl_len] at this
  omega
theorem cut_len (t : Str) (a b : Nat) : (cutS t (some (a : Int)) (some (b : Int))).length ≤ t.length := by
  rw [tl_len, tl_mid, tl_len, List.length_take, List.length_drop]; omega
theorem eq_row {ws : List Str} {A B : Prop} (h : ∀ x ∈ ws, Vd x) (q : A) : SeqAt.shaped (.tuple [PyData.str (Str.ofString "row"), .list (ws.map PyData.str)]) = true ∧ SeqAt.shaped (.tuple [PyData.str (Str.ofString "row"), .list (ws.map PyData.str)]) = true ∧ if PyData.eqv (.tuple [PyData.str (Str.ofString "row"), .list (ws.map PyData.str)]) (.tuple [PyData.str (Str.ofString "row"), .list (ws.map PyData.str)]) = true then A else B := by
  have e1 : ws.map PyData.str = (ws.map V.str).map pvV := by rw [List.map_map]; rfl
  have hsh : SeqAt.shaped (.tuple [PyData.str (Str.ofString "row"), .list (ws.map PyData.str)]) = true := by
    have h1 := shaped_vd h
    unfold SeqAt.shaped at h1 ⊢
    have h2 : PyData.strOk (Str.ofString "row") = true := (vd_lit _).ok
    have h3 : PyData.depthAll (ws.map PyData.str) = 0 := by rw [e1]; exact depth_flat _
    have h4 : PyData.canLayAll0 (ws.map PyData.str) = true := by
      rw [Bool.and_eq_true] at h1
      exact h1.1
    simp [PyData.canLay0, PyData.canLayAll0, PyData.depth, PyData.depthAll, h2, h3, h4]
  have h5 : PyData.eqvAll (ws.map PyData.str) (ws.map PyData.str) = true := by rw [eqv_strs, decide_eq_true rfl]
  refine ⟨hsh, hsh, ?_⟩
  rw [if_pos (by simp [PyData.eqv, PyData.eqvAll, h5])]
  exact q
def RD : PyData := .tuple [PyData.str (Str.ofString "refused"), PyData.bool true, PyData.bool true, PyData.bool false]
theorem rd_sh : SeqAt.shaped RD = true := by decide +kernel
theorem rd_eq : RD.eqv RD = true := by decide +kernel
theorem dS_len (ws : List Str) : (dStrs ws).length = ws.length := List.length_map ..
theorem dS_snoc (fs : List Str) (w : Str) : dStrs (fs ++ [w]) = dStrs fs ++ [D.v (V.str w)] := List.map_append

def FIX : List Str := [Str.ofString "", Str.ofString " ", Str.ofString "'", Str.ofString "''", Str.ofString "'''", Str.ofString "''''", Str.ofString "a ", Str.ofString " a", Str.ofString "a  b", Str.ofString "'a'", Str.ofString "a'b", Str.ofString "'a b'c", Str.ofString "'' ''", Str.ofString "'a''b' c"]
theorem fix_ok : ∀ x ∈ FIX, x.length ≤ 900 ∧ Gd x := by
  intro x hx
  simp only [FIX, List.mem_cons, List.not_mem_nil, or_false] at hx
  rcases hx with rfl | rfl | rfl | rfl | rfl | rfl | rfl | rfl | rfl | rfl | rfl | rfl | rfl | rfl <;> exact ⟨by decide +kernel, gd_of_ok (by decide +kernel)⟩
theorem dbl_mem {c : Nat} : ∀ {l : List Nat}, c ∈ StrLaws.dbl 39 l → c ∈ l
  | d :: r, h => by
    rw [dblC] at h
    split at h
    · rename_i e
      rcases List.mem_cons.mp h with z | z
      · rw [z, e]; exact List.mem_cons_self ..
      · rcases List.mem_cons.mp z with z | z
        · rw [z, e]; exact List.mem_cons_self ..
        · exact List.mem_cons_of_mem _ (dbl_mem z)
    · rcases List.mem_cons.mp h with z | z
      · rw [z]; exact List.mem_cons_self ..
      · exact List.mem_cons_of_mem _ (dbl_mem z)
theorem row_gd {c : Nat} : ∀ {ws : List Str}, (∀ w ∈ ws, Gd w) → c ∈ rowL (ws.map TL.tl) → 32 ≤ c ∧ c < 127
  | w :: r, h, hc => by
    rw [List.map_cons, rowL_cons] at hc
    rcases List.mem_append.mp hc with z | z
    · unfold wtL at z
      split at z
      · exact h w (List.mem_cons_self ..) c z
      · rcases List.mem_cons.mp z with z | z
        · omega
        · rcases List.mem_append.mp z with z | z
          · exact h w (List.mem_cons_self ..) c (dbl_mem z)
          · have := List.mem_singleton.mp z; omega
    · by_cases e : r = []
      · subst e; cases z
      · rw [tailL_more (by simpa using e)] at z
        rcases List.mem_cons.mp z with z | z
        · omega
        · exact row_gd (fun w hw => h w (List.mem_cons_of_mem _ hw)) z

def q_word_text : Sp3 := fun ds μ Q E => match ds with
  | [.v (.str w)] => w.length ≤ 2000 ∧ Q (.v (.str (wt w))) μ
  | _ => False
def q_row_text : Sp3 := fun ds μ Q E => match ds with
  | [x] => ∃ ws, LstOf μ x ws ∧ ws.length ≤ 1000 ∧ (∀ w ∈ ws, w.length ≤ 2000) ∧ Q (.v (.str (rowT ws))) μ
  | _ => False
def q_bare_end : Sp3 := fun ds μ Q E => match ds with
  | [.v (.str t), .v (.int a)] => ∃ i : Nat, a = (i : Int) ∧ i ≤ t.length ∧ t.length ≤ 1000000 ∧ Q (.v (.int ((i + bE ((TL.tl t).drop i) : Nat) : Int))) μ
  | _ => False
def q_quoted_end : Sp3 := fun ds μ Q E => match ds with
  | [.v (.str t), .v (.int a)] => ∃ i : Nat, a = (i : Int) ∧ i ≤ t.length ∧ t.length ≤ 1000000 ∧ Q (.v (.int ((i + qE ((TL.tl t).drop i) : Nat) : Int))) μ
  | _ => False
def q_words_of (NR : Addr) : Sp3 := fun ds μ Q E => match ds with
  | [x] => (∃ t, x = .v (.str t) ∧ t.length ≤ 900 ∧ (∀ ws, t = rowT ws → Q (.lst (dStrs ws)) μ) ∧ ((∀ ws, t ≠ rowT ws) → E NR [] μ)) ∨ (x ∈ LT ∧ E NR [] μ)
  | _ => False
def q_law_signs : Sp3 := fun ds μ Q E => match ds with
  | [] => ∀ s : Str, s.length = 94 → Gd s → Q (.v (.str s)) μ
  | _ => False
def q_law_text : Sp3 := fun ds μ Q E => match ds with
  | [.o k, .v (.int m), .v (.str s)] => μ[k]? = some (.inv PotV) ∧ 0 ≤ m ∧ m ≤ 100 ∧ 0 < s.length ∧ s.length ≤ 200 ∧ ∀ t : Str, t.length ≤ m → (∀ c ∈ TL.tl t, c ∈ TL.tl s) → Q (.v (.str t)) μ
  | _ => False
def q_law_written : Sp3 := fun ds μ Q E => match ds with
  | [.lst xs] => ∃ ws, xs = dStrs ws ∧ ws.length ≤ 100 ∧ (∀ w ∈ ws, w.length ≤ 200) ∧ Q (.v (.str (rowT ws))) μ
  | _ => False
def q_law_quoted : Sp3 := fun ds μ Q E => match ds with
  | [.v (.str t), .v (.int a)] => ∃ i : Nat, a = (i : Int) ∧ i ≤ t.length ∧ t.length ≤ 1000 ∧ (∀ (w : Str) (r : List Nat), (TL.tl t).drop i = StrLaws.dbl 39 (TL.tl w) ++ 39 :: r → N39 r → Q (.tup [.v (.str w), .v (.int ((i + (StrLaws.dbl 39 (TL.tl w)).length + 1 : Nat) : Int))]) μ) ∧ ((∀ (w : Str) (r : List Nat), (TL.tl t).drop i = StrLaws.dbl 39 (TL.tl w) ++ 39 :: r → N39 r → False) → Q (.tup [.v .non, .v (.int (t.length : Nat))]) μ)
  | _ => False
def q_law_bare : Sp3 := fun ds μ Q E => match ds with
  | [.v (.str t), .v (.int a)] => ∃ i : Nat, a = (i : Int) ∧ i ≤ t.length ∧ t.length ≤ 1000 ∧ ∀ (w : Str) (r : List Nat), (TL.tl t).drop i = TL.tl w ++ r → Fr (TL.tl w) → Wb.St r → Q (.tup [.v (.str w), .v (.int ((i + w.length : Nat) : Int))]) μ
  | _ => False
def q_law_read : Sp3 := fun ds μ Q E => match ds with
  | [.v (.str t)] => t.length ≤ 900 ∧ (∀ ws, t = rowT ws → Q (.lst (dStrs ws)) μ) ∧ ((∀ ws, t ≠ rowT ws) → Q (.v .non) μ)
  | _ => False
def q_law_is_other (NR : Addr) : SpP3 := fun a C fs ds μ Q E => match ds with
  | [.v (.ref b)] => b = a ∧ C = NR ∧ Q (.v (.bl false)) μ
  | _ => False
def q_law_told : Sp3 := fun ds μ Q E => match ds with
  | [x] => (∃ t, x = .v (.str t) ∧ t.length ≤ 900 ∧ (∀ ws, t = rowT ws → Q (.tup [.v (.str (Str.ofString "row")), .lst (dStrs ws)]) μ) ∧ ((∀ ws, t ≠ rowT ws) → Q (.tup [.v (.str (Str.ofString "refused")), .v (.bl true), .v (.bl true), .v (.bl false)]) μ)) ∨ (x ∈ LT ∧ Q (.tup [.v (.str (Str.ofString "refused")), .v (.bl true), .v (.bl true), .v (.bl false)]) μ)
  | _ => False
def q_law_right : Sp3 := fun ds μ Q E => match ds with
  | [.v (.str t)] => t.length ≤ 900 ∧ Gd t ∧ Q (.v (.bl true)) μ
  | _ => False
def q_law_row : Sp3 := fun ds μ Q E => match ds with
  | [.o k] => μ[k]? = some (.inv PotV) ∧ ∀ ws : List Str, ws.length ≤ 12 → (∀ w ∈ ws, w.length ≤ 12 ∧ Gd w) → Q (.lst (dStrs ws)) μ
  | _ => False
def q_law_spoilt : Sp3 := fun ds μ Q E => match ds with
  | [.o k, .v (.str t)] => μ[k]? = some (.inv PotV) ∧ Gd t ∧ t.length ≤ 800 ∧ ∀ z : Str, Gd z → z.length ≤ t.length + 2 → Q (.v (.str z)) μ
  | _ => False
local macro_rules | `(tactic| walk_at "ev") => `(tactic| (try simp only [↓eVar, ↓eC, ↓eOp, ↓eUn, ↓eTest, ↓eAnd, ↓eOr, ↓eNot, ↓eAndV, ↓eOrV, ↓eNotV, ↓eIf, ↓eChain, ↓eNil, ↓eCons, ↓eTup, ↓eLst, ↓eLstO, ↓eCB, ↓eNoPart, ↓ePart, ↓eSl, ↓eM0, ↓eM1, ↓eBM, ↓eBM0, ↓xSeq, ↓xNext, ↓xBrk, ↓xCont, ↓xDrop, ↓xRet, ↓xRetN, ↓xIf, ↓xAsg, ↓kName, ↓kNil, ↓kCons, ↓kTup, ↓kLst, ↓seqL, ↓kSub, ↓xAug, ↓eFrz, ↓wB_v, wB_v, ↓wI_v, wI_v, ↓wSeq_some, wSeq_some, ↓wSeq_none, wSeq_none, ↓wSome_some, wSome_some, ↓wSome_none, wSome_none, ↓wIns_some, wIns_some, ↓w1, ↓w2, ↓seqL, ↓seqT, ↓seqA, ↓lsx, ↓oAdd, ↓oI2, ↓oIC, ↓oMul, ↓oNeg, ↓oEq, ↓scK, ↓oIn, ↓oIs, ↓oIsB, ↓isNonD, ↓oIx, ↓oSl, ↓cLen, ↓cI2, ↓cDivmod, ↓cAbs, ↓cAny, ↓cAll, ↓cSum, ↓cSorted, ↓cInt, ↓cStr, ↓cList, ↓cListO, ↓cTuple, ↓cIsi, ↓tyD, ↓mAppend, ↓mExtend, ↓mPopAt, ↓mClear, ↓m3S1, ↓m3S0, ↓m3Join, ↓m3Part, ↓m3Rpart, ↓m3Split, ↓m3Index, ↓kSetL, ↓oIAdd, ↓tyL, ↓eCall, ↓eCallX, ↓xRaise, ↓eMk1, ↓xTryAs, ↓xTryOnly, ↓wAs3, ↓wOnly3, ↓eXf, ↓cIsX, ↓clsD, ↓lcB, ↓eLc, ↓eLcO, ↓eYes, ↓iL3, ↓iT3, ↓iS3, ↓iR3, ↓iR23, ↓iE3, ↓iZ3, ↓xFor, ↓start3, ↓wipe3, ↓W03, ↓E03, ↓pdM, ↓pd, ↓pdL, List.map_cons, List.map_nil, List.length_cons, List.length_nil, List.replicate_succ, List.replicate_zero, List.cons_append, List.nil_append, List.append_nil, List.getElem?_cons_zero, List.getElem?_cons_succ, List.set_cons_zero, List.set_cons_succ, Nat.reduceAdd, Nat.reduceSub, Nat.reduceLeDiff, Int.reduceLT, Int.reduceLE, Nat.reduceEqDiff, Int.reduceNeg, Int.reduceAdd, Int.reduceSub, Int.reduceMul, Nat.zero_add, Nat.sub_zero, List.getElem?_nil, Option.isSome_some, Option.isSome_none, reduceCtorEq, if_true, if_false, ite_true, ite_false, true_and, and_true, false_and, and_false, Bool.false_eq_true, Bool.true_eq_false, Bool.not_true, Bool.not_false, Bool.false_xor, Bool.true_xor, exists_eq_left, exists_eq_left', exists_false, Option.some.injEq, List.lookup_cons, beq_self_eq_true, decide_true, decide_false, V.int.injEq, V.str.injEq, V.bl.injEq, decide_eq_true_eq, Bool.not_eq_true', decide_eq_false_iff_not, ↓vsOf, ↓strsOf, ↓intsOf, ↓blsOf, Option.map_some, Option.map_none, exists_const, implies_true, forall_const, ↓eFld, ↓xFld, ↓eMeth, ↓eMake, ↓eMakeN, ↓insF, ↓eDisp, ↓ePairs, ↓keysOf, ↓eD, ↓cRepr, List.lookup_nil, ↓putD, D.v.injEq, exists_eq', sizeLine_eq, ↓eRev, kb_ss, kb_si, kb_sb, kb_sl, kb_st, kb_is, kb_ii, kb_ib, kb_bs, kb_bi, kb_bb, kb_ns, kb_ni, kb_nb, kb_ls, kb_li, kb_lb, kb_ll, kb_lt, kb_ts, kb_ti, kb_tl, at0, at1, at2, at3, at4, at5, at6, at7, vsOf_strs, blsOf_map, strsOf_map, intsOf_map, kb_tt, kb_ds, kb_di, kb_db, kb_dl, kb_dt, ↓szPost, mu_new, mu_set, ↓q_word_text, ↓q_row_text, ↓q_bare_end, ↓q_quoted_end, ↓q_words_of, ↓q_law_signs, ↓q_law_text, ↓q_law_written, ↓q_law_quoted, ↓q_law_bare, ↓q_law_read, ↓q_law_is_other, ↓q_law_told, ↓q_law_right, ↓q_law_row, ↓q_law_spoilt, ↓eMkD, ↓eCallP, ↓xTryMany, ↓wManyAs3, ↓oEqX, ↓eCallV, ↓eDGet, ↓dicF, ↓keyV, ↓cSortedD, ↓keysS, ↓mDClear, ↓tyD', ↓oKdIn, ↓oKdIx, ↓eDispO, ↓cIntB, ↓eKGet2, ↓mLIndex, ↓xClo, ↓capsOf, ↓eCallF, ↓mReverse, ↓eCallN3, ↓xPar, ↓eRepl, ↓xNever, ↓eMkOwn, ↓eMaxD, ↓cIsXS, ↓clsL, ↓sp3_draw, ↓sp3_pot, ↓sp3_cell]))

/-! ### word_text -/
set_option maxHeartbeats 4000000 in
theorem okN_word_text (T : Tx K mg) : FnN 464 P w K mg base 1 T.a_word_text T.fd_word_text ["word"] (lift K (q_word_text)) := by
  refine T.F_word_text.okN sc_word_text (lift_len fun ds μ Q E h => ?_) (fun cdv A outer s H vs Q E hm hr h => ⟨_, (ssn_cons (sn_of (ps_if (PW.pt (pw_and (pt_cmpR (op_neP (K := K) rfl hr.units) (pv 0) pe_str (nomark _)) (pw_and (pt_cmpR (op_notinP (K := K) rfl) (pe_globS (by rfl) T.c_BLANK) (pv 0) (by rfl)) (pw_and1 (pt_cmpR (op_notinP (K := K) rfl) (pe_globS (by rfl) T.c_QUOTE) (pv 0) (by rfl)))))) (pss_one (ps_ret (pv 0))) pss_nil))
      (ssn_one (sn_ret (en_op op_addP (en_op op_addP (en_of (pe_globS (by rfl) T.c_QUOTE)) (en_replG (en_of (pv 0)) (by rfl) T.tq_QUOTE.choose_spec.2.2 T.tq_QUOTE.choose_spec.1 (Nat.lt_of_lt_of_le T.tq_QUOTE.choose_spec.2.1 hm) (by decide +kernel) (by decide +kernel))) (en_of (pe_globS (by rfl) T.c_QUOTE)))))), run_body h (fun I E3 hW => (x_seq (x_if (s_and (s_test (s_op r_ne (s_var 0) (s_c _))) (s_and (s_test (s_op (r_in true) (s_c _) (s_var 0))) (s_test (s_op (r_in true) (s_c _) (s_var 0))))) (x_ret (s_var 0)) x_next)
      (x_ret (s_op r_add (s_op r_add (s_c _) (s_repl (s_var 0))) (s_c _))))) ?_⟩)
  · unfold q_word_text at h; split at h
    · rfl
    · exact h.elim
  · clear h
    intro ds μ Q E h
    unfold q_word_text at h
    split at h
    rotate_left
    · exact h.elim
    rename_i w
    obtain ⟨hw, h⟩ := h
    have hq : ∀ x, wt w = x → RtC μ Q (.v (.str x)) μ := fun x e => rt_id (by rw [← e]; exact h)
    have hd : (Txt.replace w (Str.ofString "'") (Str.ofString "'" ++ Str.ofString "'")).length ≤ 4000 := by
      rw [tl_len, tl_dbl]
      have := dbl_len (TL.tl w)
      rw [tl_len] at hw
      omega
    have l2 : (Str.ofString "'" ++ Str.ofString "'").length = 2 := by decide +kernel
    have qd : ¬ (w ≠ Str.ofString "" ∧ subS (Str.ofString " ") w = false ∧ subS (Str.ofString "'") w = false) → w.length + (w.length + 1) * (Str.ofString "'" ++ Str.ofString "'").length ≤ 16777216 ∧
        (Str.ofString "'").length + (Txt.replace w (Str.ofString "'") (Str.ofString "'" ++ Str.ofString "'")).length ≤ 16777216 ∧
          (Str.ofString "'" ++ Txt.replace w (Str.ofString "'") (Str.ofString "'" ++ Str.ofString "'")).length + (Str.ofString "'").length ≤ 16777216 ∧
            RtC μ Q (.v (.str (Str.ofString "'" ++ Txt.replace w (Str.ofString "'") (Str.ofString "'" ++ Str.ofString "'") ++ Str.ofString "'"))) μ :=
      fun z => ⟨by rw [l2]; omega, by rw [lq]; omega, by rw [len_app, lq]; omega, hq _ (if_neg z)⟩
    walk_at "ev"
    exact iteI (fun h1 => iteI (fun h2 => iteI (fun h3 => hq _ (if_pos ⟨h1, h2, h3⟩)) fun h3 => qd fun z => h3 z.2.2) fun h2 => qd fun z => h2 z.2.1) fun h1 => qd fun z => h1 z.1
/-! ### row_text -/
set_option maxHeartbeats 4000000 in
theorem okN_row_text (T : Tx K mg) : FnN 464 P w K mg base 2 T.a_row_text T.fd_row_text ["words"] (lift K (q_row_text)) := by
  refine T.F_row_text.okN sc_row_text (lift_len fun ds μ Q E h => ?_) (fun cdv A outer s H vs Q E hm hr h => ⟨_, (ssn_one (sn_ret (en_m1 PySem.F.slot_str_join PySem.F.type_str_join (mt_joinP (K := K) rfl) (en_of (pe_globS (by rfl) T.c_BLANK)) (en_lc (own := [("word", 1)]) (g := gName 1) (by rfl) sc_row_text.nd (pi_listK (K := K) rfl (pv 0)) (blkOk_by (own := [("word", 1)]) (N := ["words", "word"]) (sc := defScope s_row_text) (by decide +kernel)) (fun _ _ _ _ _ => pg_name (i := 1) sc_row_text.nd rfl (Or.inl rfl)) (fun _ _ _ _ _ => pts_nil) (fun _ _ _ _ _ hb => (en_call (okN_word_text T) (Nat.le_trans hm hb) (hr.mono (by decide)) (by rfl) T.m_word_text T.F_word_text.kp (b_word_text T) (an_cons (en_of (pv 1)) an_nil))))))), run_body h (fun I E3 hW => (x_ret (s_m1 m_join (s_c _) (s_lc (i_list (s_var 0)) (gw_name (i := 1) (by decide)) s_yes (s_call (s_cons (s_var 1) s_nil)))))) ?_⟩)
  · unfold q_row_text at h; split at h
    · rfl
    · exact h.elim
  · clear h
    intro ds μ Q E h
    unfold q_row_text at h
    split at h
    rotate_left
    · exact h.elim
    rename_i x
    obtain ⟨ws, hx, hl, hb, h⟩ := h
    rcases hx with rfl | ⟨k, rfl, hk⟩
    · walk_at "ev"
      refine lc_mapT (xs := ws) (t := fun s => .v (.str s)) (fun s => .v (.str (wt s))) rfl (by omega) (fun w hw k hk => ?_) ?_
      · walk_at "ev"
        exact ⟨hb w hw, hk⟩
      · rw [strsOf_map wt]
        walk_at "ev"
        have h1 := sum_le (L := 4002) (ys := ws.map wt) fun y hy => by
          obtain ⟨w, hw, rfl⟩ := List.mem_map.mp hy
          have := wt_len w
          have := hb w hw
          omega
        rw [List.length_map] at h1
        exact ⟨by rw [lb, List.length_map]; omega, rt_keep h⟩
    · walk_at "ev"
      simp only [hk]
      walk_at "ev"
      refine lc_mapT (xs := ws) (t := fun s => .v (.str s)) (fun s => .v (.str (wt s))) (by simp only [hk]; rfl) (by omega) (fun w hw k hk => ?_) ?_
      · walk_at "ev"
        exact ⟨hb w hw, hk⟩
      · rw [strsOf_map wt]
        walk_at "ev"
        have h1 := sum_le (L := 4002) (ys := ws.map wt) fun y hy => by
          obtain ⟨w, hw, rfl⟩ := List.mem_map.mp hy
          have := wt_len w
          have := hb w hw
          omega
        rw [List.length_map] at h1
        exact ⟨by rw [lb, List.length_map]; omega, rt_keep h⟩
/-! ### bare_end -/
set_option maxHeartbeats 4000000 in
theorem ok_bare_end (T : Tx K mg) : FnOk P w K mg base CX0 1 T.a_bare_end T.fd_bare_end ["text", "at"] (lift K (q_bare_end)) := by
  refine T.F_bare_end.ok sc_bare_end (lift_len fun ds μ Q E h => ?_) (fun cdv A outer s H vs Q E hr h => ⟨_, (pss_cons (ps_while PassesOwn.never (PW.pt (pw_and (pt_cmpR (cp_i2 op_lt) (pv 1) (pe_callB (call_lenP (K := K) rfl) (by rfl) T.n_len (by decide +kernel) (pa_cons (pv 0) pa_nil)) (nomark _)) (pw_and1 (pt_cmpR (op_neP (K := K) rfl hr.units) (pe_ix (ix_P (K := K) rfl) (pv 0) (pv 1) (fun _ _ => rfl)) (pe_globS (by rfl) T.c_BLANK) (nomark _)))))
      (pss_one (ps_aug (i := 1) sc_bare_end.nd rfl (.inl rfl) pe_int ip_addP)))
      (pss_one (ps_ret (pv 1)))), run_body h (fun I E3 hW => (x_seq (x_while (s_and (s_test (s_op r_i2 (s_var 1) (s_cb c_len (s_cons (s_var 0) s_nil)))) (s_test (s_op r_ne (s_op r_ix (s_var 0) (s_var 1)) (s_c _))))
      (x_aug (s_c _) p_add))
      (x_ret (s_var 1)))) ?_⟩)
  · unfold q_bare_end at h; split at h
    · rfl
    · exact h.elim
  · clear h
    intro ds μ Q E h
    unfold q_bare_end at h
    split at h
    rotate_left
    · exact h.elim
    rename_i t a
    obtain ⟨i, rfl, hi, hl, h⟩ := h
    walk_at "ev"
    refine while_by3 (fun s' μ' => μ' = μ ∧ ∃ p : Nat, p ≤ t.length ∧ p + bE ((TL.tl t).drop p) = i + bE ((TL.tl t).drop i) ∧ s' = [some (.v (.str t)), some (.v (.int p))]) (fun s' _ => match s' with | [_, some (.v (.int p))] => t.length - p.toNat | _ => 0) ⟨rfl, i, hi, rfl, rfl⟩ (fun s' μ' hP N hN B bT bF => ?_)
    obtain ⟨rfl, p, hp, he, rfl⟩ := hP
    have hnx : p = i + bE ((TL.tl t).drop i) → B false μ' := fun z => by
      apply bF
      walk_at "ev"
      rw [z]
      exact rt_id h
    walk_at "ev"
    refine ⟨by omega, iteI (fun h1 => ⟨by omega, ?_⟩) fun h1 => ?_⟩
    · match e : (TL.tl t).drop p with
      | [] => have := drop_ge e; rw [← tl_len] at this; omega
      | c :: r =>
        refine ix_at e ?_
        rw [e] at he
        by_cases hc : c = 32
        · subst hc
          rw [bE_hit] at he
          rw [decide_eq_true ((sg_b 32).mpr rfl)]
          exact hnx he
        · rw [bE_go hc] at he
          rw [decide_eq_false fun z => hc ((sg_b c).mp z)]
          refine bT _ ?_
          walk_at "ev"
          have hp1 : p < t.length := by have := drop_lt e; rwa [← tl_len] at this
          refine hN _ _ ⟨rfl, p + 1, by omega, ?_, ?_⟩ ?_
          · rw [drop_next e]; omega
          · rw [Int.natCast_add]; rfl
          · show t.length - ((p : Int) + 1).toNat < t.length - (p : Int).toNat
            omega
    · have : (TL.tl t).drop p = [] := List.drop_eq_nil_of_le (by rw [← tl_len]; omega)
      rw [this] at he
      exact hnx he
/-! ### quoted_end -/
set_option maxHeartbeats 4000000 in
theorem ok_quoted_end (T : Tx K mg) : FnOk P w K mg base CX0 1 T.a_quoted_end T.fd_quoted_end ["text", "at"] (lift K (q_quoted_end)) := by
  refine T.F_quoted_end.ok sc_quoted_end (lift_len fun ds μ Q E h => ?_) (fun cdv A outer s H vs Q E hr h => ⟨_, (pss_cons (ps_while PassesOwn.never (PW.pt (pw_and (pt_cmpR (cp_i2 op_lt) (pv 1) (pe_callB (call_lenP (K := K) rfl) (by rfl) T.n_len (by decide +kernel) (pa_cons (pv 0) pa_nil)) (nomark _)) (pw_and1 (PW.pt (pw_or (pt_cmpR (op_neP (K := K) rfl hr.units) (pe_ix (ix_P (K := K) rfl) (pv 0) (pv 1) (fun _ _ => rfl)) (pe_globS (by rfl) T.c_QUOTE) (nomark _)) (pw_or1 (pt_cmpR (op_eqP (K := K) rfl hr.units) (pe_slice (sl_P (K := K) rfl) (pv 0) (po_some (pv 1)) (po_some (pe_op op_addP (pv 1) pe_int))) (pe_op op_addP (pe_globS (by rfl) T.c_QUOTE) (pe_globS (by rfl) T.c_QUOTE)) (nomark _))))))))
      (pss_one (ps_aug (i := 1) sc_quoted_end.nd rfl (.inl rfl) (pe_op op_addP pe_int (pe_callTy call_int3 (by rfl) T.n_int (by decide +kernel) (pa_cons (pe_cmpR (op_eqP (K := K) rfl hr.units) (pe_ix (ix_P (K := K) rfl) (pv 0) (pv 1) (fun _ _ => rfl)) (pe_globS (by rfl) T.c_QUOTE) (nomark _)) pa_nil))) ip_addP)))
      (pss_one (ps_ret (pv 1)))), run_body h (fun I E3 hW => (x_seq (x_while (s_and (s_test (s_op r_i2 (s_var 1) (s_cb c_len (s_cons (s_var 0) s_nil)))) (s_or (s_test (s_op r_ne (s_op r_ix (s_var 0) (s_var 1)) (s_c _))) (s_test (s_op r_eq (s_sl r_sl (s_var 0) (s_part (s_var 1)) (s_part (s_op r_add (s_var 1) (s_c _)))) (s_op r_add (s_c _) (s_c _))))))
      (x_aug (s_op r_add (s_c _) (s_cb c_int (s_cons (s_op r_eq (s_op r_ix (s_var 0) (s_var 1)) (s_c _)) s_nil))) p_add))
      (x_ret (s_var 1)))) ?_⟩)
  · unfold q_quoted_end at h; split at h
    · rfl
    · exact h.elim
  · clear h
    intro ds μ Q E h
    unfold q_quoted_end at h
    split at h
    rotate_left
    · exact h.elim
    rename_i t a
    obtain ⟨i, rfl, hi, hl, h⟩ := h
    walk_at "ev"
    refine while_by3 (fun s' μ' => μ' = μ ∧ ∃ p : Nat, p ≤ t.length ∧ p + qE ((TL.tl t).drop p) = i + qE ((TL.tl t).drop i) ∧ s' = [some (.v (.str t)), some (.v (.int p))]) (fun s' _ => match s' with | [_, some (.v (.int p))] => t.length - p.toNat | _ => 0) ⟨rfl, i, hi, rfl, rfl⟩ (fun s' μ' hP N hN B bT bF => ?_)
    obtain ⟨rfl, p, hp, he, rfl⟩ := hP
    have hnx : p = i + qE ((TL.tl t).drop i) → B false μ' := fun z => by
      apply bF
      walk_at "ev"
      rw [z]
      exact rt_id h
    have hgo : ∀ n : Nat, n = 1 ∨ n = 2 → p + n ≤ t.length → p + n + qE ((TL.tl t).drop (p + n)) = i + qE ((TL.tl t).drop i) → N [some (.v (.str t)), some (.v (.int ((p : Int) + n)))] μ' := fun n hn hp2 z => by
      refine hN _ _ ⟨rfl, p + n, hp2, z, ?_⟩ ?_
      · rw [Int.natCast_add]
      · show t.length - ((p : Int) + n).toNat < t.length - (p : Int).toNat
        omega
    walk_at "ev"
    refine ⟨by omega, iteI (fun h1 => ⟨by omega, ?_⟩) fun h1 => ?_⟩
    · match e : (TL.tl t).drop p with
      | [] => have := drop_ge e; rw [← tl_len] at this; omega
      | c :: r =>
        refine ix_at e ?_
        have hp1 : p < t.length := by have := drop_lt e; rwa [← tl_len] at this
        rw [e] at he
        by_cases hc : c = 39
        · subst hc
          rw [if_neg fun z => z ((sg_q 39).mpr rfl)]
          refine ⟨by omega, by rw [lq]; omega, ?_⟩
          have hcut : (cutS t (some (p : Int)) (some ((p : Int) + 2)) = Str.ofString "'" ++ Str.ofString "'") ↔ r.take 1 = [39] := by
            rw [str_eq, show ((p : Int) + 2) = ((p + 2 : Nat) : Int) from by omega, tl_mid, e, sgQQ, show p + 2 - p = 2 from by omega]
            show ((39 :: r).take 2 = [39, 39]) ↔ _
            cases r with
            | nil => simp
            | cons d l => simp
          by_cases h2 : r.take 1 = [39]
          · rw [decide_eq_true (hcut.mpr h2)]
            match r, h2 with
            | d :: l, h2 =>
              have hd : d = 39 := by simpa using h2
              subst hd
              rw [qE_two] at he
              have e3 := drop_next (p := p + 1) (drop_next e)
              refine bT _ ?_
              walk_at "ev"
              exact ⟨by omega, ix_at e (by rw [if_pos ((sg_q 39).mpr rfl)]; exact hgo 2 (.inr rfl) (by have := drop_lt (drop_next e); rw [← tl_len] at this; omega) (by rw [show p + 2 = p + 1 + 1 from rfl, e3]; omega))⟩
          · rw [decide_eq_false fun z => h2 (hcut.mp z)]
            rw [qE_end fun d l z hd => h2 (by rw [z, hd]; rfl)] at he
            exact hnx he
        · rw [qE_go hc] at he
          rw [if_pos fun z => hc ((sg_q c).mp z)]
          refine bT _ ?_
          walk_at "ev"
          exact ⟨by omega, ix_at e (by rw [if_neg fun z => hc ((sg_q c).mp z)]; exact hgo 1 (.inl rfl) (by omega) (by rw [drop_next e]; omega))⟩
    · have : (TL.tl t).drop p = [] := List.drop_eq_nil_of_le (by rw [← tl_len]; omega)
      rw [this] at he
      exact hnx he
/-! ### words_of -/
set_option maxHeartbeats 4000000 in
theorem okM_words_of (T : Tx K mg) : FnM (L2N.CX P w) 464 P w K mg base 3 T.a_words_of T.fd_words_of ["text"] (lift K (q_words_of T.C_NoRow)) := by
  refine T.F_words_of.okM sc_words_of (lift_len fun ds μ Q E h => ?_) (fun cdv A outer s H vs Q E hm hr h => ⟨_, (ssn_cons (sn_of (ps_if (pt_not (pt_val (pe_callB (call_isiP (K := K) rfl) (by rfl) T.n_isinstance (by decide +kernel) (pa_cons (pv 0) (pa_cons (pe_bltn (v := .ty "str") (by rfl) T.n_str (by decide +kernel) rfl) pa_nil))))) (pss_one (ps_rsN rfl (L2N.takes_of rfl rfl rfl rfl) (L2N.pmk_own PySem.F.excBase_ValueError T.xi_NoRow T.x_NoRow.gC T.x_NoRow.T.kC (raises_own T.x_NoRow.T.exC T.x_NoRow.T.tyC) (by rfl)))) pss_nil))
      (ssn_cons (sn_of (ps_set (i := 1) sc_words_of.nd rfl (.inl rfl) (pe_lst pa_nil)))
      (ssn_cons (sn_of (ps_set (i := 2) sc_words_of.nd rfl (.inl rfl) pe_int))
      (ssn_cons (sn_while (passes_of rfl) (tn_of (pt_cmpR (cp_i2 op_lt) (pv 2) (pe_callB (call_lenP (K := K) rfl) (by rfl) T.n_len (by decide +kernel) (pa_cons (pv 0) pa_nil)) (nomark _)))
      (ssn_one (sn_if (tn_of (pt_cmpR (op_eqP (K := K) rfl hr.units) (pe_ix (ix_P (K := K) rfl) (pv 0) (pv 2) (fun _ _ => rfl)) (pe_globS (by rfl) T.c_QUOTE) (nomark _))) (ssn_cons (sn_of (ps_set (i := 3) sc_words_of.nd rfl (.inl rfl) (pe_call (ok_quoted_end T) (hr.mono (by decide)) (by rfl) T.m_quoted_end T.F_quoted_end.kp (b_quoted_end T) .nil pass0 (pa_cons (pv 0) (pa_cons (pe_op op_addP (pv 2) pe_int) pa_nil)))))
      (ssn_cons (sn_expr (en_bmK (K := K) rfl PySem.F.plainAttrs_list PySem.F.slot_list_append PySem.F.type_list_append mt_append (en_of (pv 1)) (an_cons (en_replH (en_of (pe_slice (sl_P (K := K) rfl) (pv 0) (po_some (pe_op op_addP (pv 2) pe_int)) (po_some (pv 3)))) (by rfl) T.tq_QUOTE.choose_spec.2.2 T.tq_QUOTE.choose_spec.1 (Nat.lt_of_lt_of_le T.tq_QUOTE.choose_spec.2.1 hm) (by decide +kernel) (by decide +kernel)) an_nil)))
      (ssn_of (pss_one (ps_set (i := 2) sc_words_of.nd rfl (.inl rfl) (pe_op op_addP (pv 3) pe_int)))))) (ssn_of (pss_cons (ps_set (i := 3) sc_words_of.nd rfl (.inl rfl) (pe_call (ok_bare_end T) (hr.mono (by decide)) (by rfl) T.m_bare_end T.F_bare_end.kp (b_bare_end T) .nil pass0 (pa_cons (pv 0) (pa_cons (pv 2) pa_nil))))
      (pss_cons (ps_expr (pe_bmK (K := K) rfl PySem.F.plainAttrs_list PySem.F.slot_list_append PySem.F.type_list_append mt_append (pv 1) (pa_cons (pe_slice (sl_P (K := K) rfl) (pv 0) (po_some (pv 2)) (po_some (pv 3))) pa_nil)))
      (pss_one (ps_set (i := 2) sc_words_of.nd rfl (.inl rfl) (pe_op op_addP (pv 3) pe_int)))))))))
      (ssn_cons (sn_if (tn_cmpR (op_neP (K := K) rfl hr.units) (en_call (okN_row_text T) hm (hr.mono (by decide)) (by rfl) T.m_row_text T.F_row_text.kp (b_row_text T) (an_cons (en_of (pv 1)) an_nil)) (en_of (pv 0)) (nomark _)) (ssn_of (pss_one (ps_rsN rfl (L2N.takes_of rfl rfl rfl rfl) (L2N.pmk_own PySem.F.excBase_ValueError T.xi_NoRow T.x_NoRow.gC T.x_NoRow.T.kC (raises_own T.x_NoRow.T.exC T.x_NoRow.T.tyC) (by rfl))))) (ssn_of pss_nil))
      (ssn_of (pss_one (ps_ret (pv 1))))))))), run_body h (fun I E3 hW => (x_seq (x_if (s_not (s_tb (s_cb c_isi (s_cons (s_var 0) (s_cons (s_c _) s_nil))))) (x_raise hW (mk_own (C := T.C_NoRow))) x_next)
      (x_seq (x_asg (s_lstO s_nil) (g_name 1))
      (x_seq (x_asg (s_c _) (g_name 2))
      (x_seq (x_while (s_test (s_op r_i2 (s_var 2) (s_cb c_len (s_cons (s_var 0) s_nil))))
      (x_if (s_test (s_op r_eq (s_op r_ix (s_var 0) (s_var 2)) (s_c _))) (x_seq (x_asg (s_call (s_cons (s_var 0) (s_cons (s_op r_add (s_var 2) (s_c _)) s_nil))) (g_name 3))
      (x_seq (x_drop (s_bm ty_l m_append (s_var 1) (s_cons (s_repl (s_sl r_sl (s_var 0) (s_part (s_op r_add (s_var 2) (s_c _))) (s_part (s_var 3)))) s_nil)))
      (x_asg (s_op r_add (s_var 3) (s_c _)) (g_name 2)))) (x_seq (x_asg (s_call (s_cons (s_var 0) (s_cons (s_var 2) s_nil))) (g_name 3))
      (x_seq (x_drop (s_bm ty_l m_append (s_var 1) (s_cons (s_sl r_sl (s_var 0) (s_part (s_var 2)) (s_part (s_var 3))) s_nil)))
      (x_asg (s_op r_add (s_var 3) (s_c _)) (g_name 2))))))
      (x_seq (x_if (s_test (s_op r_ne (s_call (s_cons (s_var 1) s_nil)) (s_var 0))) (x_raise hW (mk_own (C := T.C_NoRow))) x_next)
      (x_ret (s_frz (s_var 1))))))))) ?_⟩)
  · unfold q_words_of at h; split at h
    · rfl
    · exact h.elim
  · clear h
    intro ds μ Q E h
    unfold q_words_of at h
    split at h
    rotate_left
    · exact h.elim
    rename_i x
    rcases h with ⟨t, rfl, hl, hA, hB⟩ | ⟨hx, h⟩
    · walk_at "ev"
      refine while_by3 (fun s' μ' => ∃ (fs : List Str) (p : Nat) (z : Option D), fs.length ≤ p ∧ p ≤ t.length + 2 ∧ (∀ w ∈ fs, w.length ≤ t.length) ∧ (∀ ws, t = rowT ws → ∃ j, j ≤ ws.length ∧ fs = ws.take j ∧ (j < ws.length → (TL.tl t).drop p = rowL ((ws.drop j).map TL.tl)) ∧ (j = ws.length → t.length ≤ p)) ∧ μ' = μ ++ [.lst (dStrs fs)] ∧ s' = [some (.v (.str t)), some (.o μ.length), some (.v (.int p)), z])
        (fun s' _ => match s' with | [_, _, some (.v (.int p)), _] => t.length - p.toNat | _ => 0) ⟨[], 0, none, Nat.le_refl _, Nat.zero_le _, (fun _ h => nomatch h), fun ws e => ⟨0, Nat.zero_le _, rfl, fun _ => by rw [e]; exact tl_rowT ws, fun z => by rw [e, List.length_eq_zero_iff.mp z.symm]; decide +kernel⟩, rfl, rfl⟩ (fun s' μ' hP N hN B bT bF => ?_)
      obtain ⟨fs, p, z, hfp, hpl, hfw, hI, rfl, rfl⟩ := hP
      walk_at "ev"
      refine ⟨by omega, ?_⟩
      have hlt : (dStrs fs).length < 16777216 := by rw [dS_len]; omega
      by_cases hp : p < t.length
      · rw [decide_eq_true (by omega : (p : Int) < t.length)]
        refine bT _ ?_
        have hgo : ∀ (w : Str) (n : Nat) (q : Int) (x : D), q = ((p + n : Nat) : Int) → w.length ≤ t.length → 1 ≤ n → p + n ≤ t.length + 2 → (∀ (v : Str) (R : List (List Nat)), (TL.tl t).drop p = wtL (TL.tl v) ++ tailL R → w = v ∧ n = (wtL (TL.tl v)).length + 1) →
            N [some (.v (.str t)), some (.o μ.length), some (.v (.int q)), some x] (μ ++ [.lst (dStrs fs ++ [.v (.str w)])]) := fun w n q x hq hw hn hpn hu => by
          subst hq
          refine hN _ _ ⟨fs ++ [w], p + n, some x, by rw [List.length_append]; simp only [List.length_cons, List.length_nil]; omega, hpn, fun y hy => (List.mem_append.mp hy).elim (hfw y) fun hy => by rw [List.mem_singleton.mp hy]; exact hw, fun ws e => ?_, by rw [dS_snoc], rfl⟩ ?_
          · obtain ⟨j, hj, hfs, h1, h2⟩ := hI ws e
            have hjl : j < ws.length := by
              by_cases z : j < ws.length
              · exact z
              · have := h2 (by omega); omega
            have h1 := h1 hjl
            have hd : ws.drop j = ws[j] :: ws.drop (j + 1) := List.drop_eq_getElem_cons hjl
            rw [hd, List.map_cons, rowL_cons] at h1
            obtain ⟨e1, e2⟩ := hu _ _ h1
            have hnx := next_at h1
            refine ⟨j + 1, hjl, by rw [hfs, e1, List.take_succ_eq_append_getElem hjl], fun z => ?_, fun z => ?_⟩
            · rw [e2, ← Nat.add_assoc]
              exact hnx.1 fun e => by
                have := congrArg List.length e
                rw [List.length_map, List.length_drop] at this
                simp at this; omega
            · rw [e2, ← Nat.add_assoc, tl_len]
              exact hnx.2 (by rw [List.drop_eq_nil_of_le (by omega)]; rfl)
          · show t.length - ((p + n : Nat) : Int).toNat < t.length - (p : Int).toNat
            omega
        match e : (TL.tl t).drop p with
        | [] => have := drop_ge e; rw [← tl_len] at this; omega
        | c :: r =>
          by_cases hc : c = 39
          · subst hc
            have e1 := drop_next e
            have hE := @oq_len t (p + 1)
            walk_at "ev"
            refine ⟨by omega, ix_at e ?_⟩
            rw [if_pos ((sg_q 39).mpr rfl)]
            refine ⟨p + 1, by omega, by omega, by omega, by omega, ?_, ?_, ?_⟩
            · have := cut_len t (p + 1) (p + 1 + qE ((TL.tl t).drop (p + 1)))
              rw [show ((p : Int) + 1) = ((p + 1 : Nat) : Int) from rfl, lq]; omega
            · exact hlt
            · rw [show ((p : Int) + 1) = ((p + 1 : Nat) : Int) from rfl]
              refine hgo _ (1 + qE ((TL.tl t).drop (p + 1)) + 2) _ _ (by omega) ?_ (by omega) (by omega) fun v R hv => ?_
              · exact Nat.le_trans (replQ_le _) (cut_len ..)
              · have hb : bareL (TL.tl v) ≠ true := fun hb => by
                  obtain ⟨h1, h2⟩ := (bareL_iff _).mp hb
                  rw [wtL_bare hb] at hv
                  cases hv2 : TL.tl v with
                  | nil => exact h1 hv2
                  | cons d l =>
                    rw [hv2, e] at hv
                    exact h2.2 (by rw [hv2, ← (List.cons.inj hv).1]; exact List.mem_cons_self ..)
                rw [wtL_quo hb] at hv ⊢
                have e2 : (TL.tl t).drop (p + 1) = StrLaws.dbl 39 (TL.tl v) ++ 39 :: tailL R := by
                  rw [e] at hv
                  rw [e1, (List.cons.inj hv).2]; simp
                rw [e2, qE_dbl (fun c l z => by rw [tailL_head z]; decide)]
                refine ⟨undouble ?_, ?_⟩
                · rw [tl_mid, e2, Nat.add_sub_cancel_left]; exact List.take_left
                · simp only [List.length_cons, List.length_append, List.length_nil]; omega
          · have hE := @ob_len t p
            walk_at "ev"
            refine ⟨by omega, ix_at e ?_⟩
            rw [if_neg fun z => hc ((sg_q c).mp z)]
            refine ⟨p, rfl, by omega, by omega, by omega, hlt, ?_⟩
            refine hgo _ (bE ((TL.tl t).drop p) + 1) _ _ (by omega) (cut_len ..) (by omega) (by omega) fun v R hv => ?_
            have hb : bareL (TL.tl v) = true := by
              by_cases hb : bareL (TL.tl v) = true
              · exact hb
              · rw [wtL_quo hb, e] at hv
                exact absurd (List.cons.inj hv).1 hc
            rw [wtL_bare hb] at hv ⊢
            rw [hv, bE_free (fun c l z => tailL_head z) ((bareL_iff _).mp hb).2.1]
            refine ⟨?_, rfl⟩
            rw [str_eq, tl_mid, hv, Nat.add_sub_cancel_left]; exact List.take_left
      · rw [decide_eq_false (by omega : ¬ (p : Int) < t.length)]
        refine bF _ ?_
        walk_at "ev"
        refine ⟨fs, .inr ⟨_, rfl, mu_new⟩, by omega, fun w hw => by have := hfw w hw; omega, ?_⟩
        by_cases hr : t = rowT fs
        · rw [if_neg fun z => z hr.symm]
          exact rt_drop (bl_strs fs) (hA fs hr)
        · rw [if_pos fun z => hr z.symm]
          refine xt_drop (fun x hx => nomatch hx) (hB fun ws e => ?_)
          obtain ⟨j, hj, hfs, h1, h2⟩ := hI ws e
          by_cases hjl : j < ws.length
          · have h1 := h1 hjl
            rw [List.drop_eq_nil_of_le (by rw [← tl_len]; omega), List.drop_eq_getElem_cons hjl, List.map_cons] at h1
            exact rowL_ne h1.symm
          · rw [List.take_of_length_le (by omega)] at hfs
            exact hr (by rw [hfs]; exact e)
    · simp only [LT, List.mem_cons, List.not_mem_nil, or_false] at hx
      rcases hx with rfl | rfl | rfl | rfl | rfl | rfl | rfl | rfl | rfl | rfl | rfl | rfl | rfl | rfl <;> (walk_at "ev"; exact xt_id h)
/-! ### _law_cell -/
set_option maxHeartbeats 4000000 in
theorem okH_law_cell (T : Tx K mg) : FnOk P w K mg base CX0 1 T.a_law_cell T.fd_law_cell ["_law_script", "_law_k"] (sp_law_cell K) := by
  refine T.F_law_cell.ok sc_law_cell (fun vs H Q E h => ?_) (fun cdv A outer s H vs Q E hr h => ?_)
  · obtain ⟨B, a, ns, k, rfl, hS, hk, q⟩ := h; rfl
  · obtain ⟨B, a, ns, k, rfl, hS, hk, q⟩ := h
    refine ⟨_, (pss_one (ps_ret (pe_ifExp (pt_cmpR (cp_i2 op_lt) (pv 1) (pe_callB (call_lenP (K := K) rfl) (by rfl) T.n_len (by decide +kernel) (pa_cons (pv 0) pa_nil)) (nomark _)) (pe_ix (ix_P (K := K) rfl) (pv 0) (pv 1) (fun _ _ => rfl)) pe_int))), ?_⟩
    walk_at "go"
    refine dp_lenL hS ?_
    walk_at "go"
    refine iteD (fun h1 => ?_) fun h1 => ?_
    · walk_at "go"
      rw [List.length_map] at h1
      refine w_ixD hS (atI_nat' hk (by rw [List.getElem?_map, List.getElem?_eq_getElem (show k.toNat < ns.length by omega)]; rfl)) fun v hv => ?_
      cases hv
      exact q _
    · walk_at "go"
      exact q _
theorem ok_law_cell (T : Tx K mg) : FnOk P w K mg base CX0 1 T.a_law_cell T.fd_law_cell ["_law_script", "_law_k"] (lift K sp3_cell) := (okH_law_cell T).imp br_cell
/-! ### _law_pot -/
set_option maxHeartbeats 4000000 in
theorem okH_law_pot (T : Tx K mg) : FnOk P w K mg base CX0 2 T.a_law_pot T.fd_law_pot ["_law_script", "_law_k"] (sp_law_pot K) := by
  refine T.F_law_pot.ok sc_law_pot (fun vs H Q E h => ?_) (fun cdv A outer s H vs Q E hr h => ?_)
  · obtain ⟨B, a, ns, k, rfl, hS, hk, hk2, q⟩ := h; rfl
  · obtain ⟨B, a, ns, k, rfl, hS, hk, hk2, q⟩ := h
    refine ⟨_, (pss_cons (ps_set (i := 2) sc_law_pot.nd rfl (.inl rfl) (pe_call (okH_law_cell T) (hr.mono (by decide)) (by rfl) T.m_law_cell T.F_law_cell.kp (b_law_cell T) .nil pass0 (pa_cons (pv 0) (pa_cons (pv 1) pa_nil))))
      (pss_one (ps_ret (pe_lst (pa_cons (pe_callB (call_max2P rfl) (by rfl) T.n_max (by decide +kernel) (pa_cons pe_int (pa_cons (pe_op (op_i2 op_sub) (pv 2) (pe_op (op_ic op_pow) pe_int pe_int)) pa_nil))) (pa_cons (pe_op (op_ic op_mod) (pe_op op_addP (pe_op op_addP (pe_op op_mulP (pe_op (op_ic op_mod) (pv 2) pe_int) pe_int) (pe_op op_mulP pe_int (pv 1))) pe_int) pe_int) pa_nil)))))), ?_⟩
    walk_at "go"
    refine ⟨B, a, ns, k, rfl, hS, hk, fun z => ?_⟩
    walk_at "go"
    refine ⟨ll rfl, fun p hp => ?_⟩
    exact q p _ hp (Ex.new hp) ⟨_, _, upd_same, by omega, Int.emod_nonneg _ (by decide), Int.emod_lt_of_pos _ (by decide)⟩
theorem ok_law_pot (T : Tx K mg) : FnOk P w K mg base CX0 2 T.a_law_pot T.fd_law_pot ["_law_script", "_law_k"] (lift K sp3_pot) := (okH_law_pot T).imp br_pot
/-! ### _law_draw -/
set_option maxHeartbeats 4000000 in
theorem okH_law_draw (T : Tx K mg) : FnOk P w K mg base CX0 1 T.a_law_draw T.fd_law_draw ["_law_pot_here", "_law_many"] (sp_law_draw K) := by
  refine T.F_law_draw.ok sc_law_draw (fun vs H Q E h => ?_) (fun cdv A outer s H vs Q E hr h => ?_)
  · obtain ⟨p, n, rfl, hP, hn, hn2, q⟩ := h; rfl
  · obtain ⟨p, n, rfl, hP, hn, hn2, q⟩ := h
    refine ⟨_, (pss_cons (ps_if (pt_cmpR (cp_i2 op_gt) (pe_ix (ix_P (K := K) rfl) (pv 0) pe_int (fun _ _ => rfl)) pe_int (nomark _)) (pss_cons (ps_asg (pe_callB call_divmodP (by rfl) T.n_divmod (by decide +kernel) (pa_cons (pe_ix (ix_P (K := K) rfl) (pv 0) pe_int (fun _ _ => rfl)) (pa_cons (pv 1) pa_nil))) (pg_tupK (K := K) (n := 2) rfl rfl (pgs_cons (pg_sub (pv 0) pe_int set_list) (pgs_cons (pg_name (i := 2) sc_law_draw.nd rfl (.inl rfl)) pgs_nil))))
      (pss_one (ps_ret (pv 2)))) pss_nil)
      (pss_cons (ps_asg (pe_op (op_ic op_mod) (pe_op op_addP (pe_op op_mulP (pe_ix (ix_P (K := K) rfl) (pv 0) pe_int (fun _ _ => rfl)) pe_int) pe_int) pe_int) (pg_sub (pv 0) pe_int set_list))
      (pss_one (ps_ret (pe_op (op_ic op_mod) (pe_op (op_ic op_fdiv) (pe_op (op_ic op_mod) (pe_op (op_ic op_pow) (pe_ix (ix_P (K := K) rfl) (pv 0) pe_int (fun _ _ => rfl)) pe_int) pe_int) pe_int) (pv 1)))))), ?_⟩
    obtain ⟨u, w, hH, hu, hw, hw2⟩ := hP
    have S : Stp p H H := .refl ⟨u, w, hH, hu, hw, hw2⟩
    walk_at "go"
    refine w_ixH hH rfl ?_
    walk_at "go"
    refine iteD (fun h1 => ?_) fun h1 => ?_
    · walk_at "go"
      refine w_ixH hH rfl ?_
      walk_at "go"
      refine ⟨⟨hn, hn2⟩, fun t ht => ?_⟩
      refine w_gtup (.of upd_same) rfl ?_
      have nt : p ≠ t := fun e => by rw [← e, hH] at ht; cases ht
      refine ⟨_, [.int (u % n)], rfl, ?_⟩
      walk_at "go"
      refine ⟨p, _, 0, 0, rfl, rfl, by rw [upd_ne nt]; exact hH, rfl, ?_⟩
      refine ⟨_, [], rfl, ?_⟩
      walk_at "go"
      refine ⟨rfl, ?_⟩
      walk_at "go"
      have S2 := (S.new (o := .tup [.int (u / n), .int (u % n)]) ht).set (u := u / n) (w := w) (Int.ediv_nonneg hu (by omega)) hw hw2
      exact q _ _ S2.ex S2.pot (Int.emod_nonneg _ (by omega)) (Int.emod_lt_of_pos _ hn)
    · walk_at "go"
      refine w_ixH hH rfl ?_
      walk_at "go"
      refine ⟨p, _, 1, 1, rfl, rfl, hH, rfl, ?_⟩
      walk_at "go"
      have hb : (0:Int) ≤ (w * 39373 + 8191) % 2147483587 := Int.emod_nonneg _ (by decide)
      have hc : (w * 39373 + 8191) % 2147483587 < 2147483587 := Int.emod_lt_of_pos _ (by decide)
      have S2 := S.set hu hb (show _ < (2147483629 : Int) by omega)
      refine w_ixH (xs := [.int u, .int ((w * 39373 + 8191) % 2147483587)]) upd_same rfl ?_
      generalize (w * 39373 + 8191) % 2147483587 = z at *
      walk_at "go"
      exact q _ _ S2.ex S2.pot (Int.emod_nonneg _ (by omega)) (Int.emod_lt_of_pos _ hn)
theorem ok_law_draw (T : Tx K mg) : FnOk P w K mg base CX0 1 T.a_law_draw T.fd_law_draw ["_law_pot_here", "_law_many"] (lift K sp3_draw) := (okH_law_draw T).imp br_draw
/-! ### _law_signs -/
set_option maxHeartbeats 4000000 in
theorem ok_law_signs (T : Tx K mg) : FnOk P w K mg base CX0 1 T.a_law_signs T.fd_law_signs [] (lift K (q_law_signs)) := by
  refine T.F_law_signs.ok sc_law_signs (lift_len fun ds μ Q E h => ?_) (fun cdv A outer s H vs Q E hr h => ⟨_, (pss_cons (ps_set (i := 0) sc_law_signs.nd rfl (.inl rfl) pe_str)
      (pss_one (ps_ret (pe_op op_addP (pe_op op_addP pe_str (pv 0)) (pe_m0 PySem.F.slot_str_upper PySem.F.type_str_upper mt_upperP (pv 0)))))), run_body h (fun I E3 hW => (x_seq (x_asg (s_c _) (g_name 0))
      (x_ret (s_op r_add (s_op r_add (s_c _) (s_var 0)) (s_m0 m_s0 (s_var 0)))))) ?_⟩)
  · unfold q_law_signs at h; split at h
    · rfl
    · exact h.elim
  · clear h
    intro ds μ Q E h
    unfold q_law_signs at h
    split at h
    rotate_left
    · exact h.elim
    walk_at "ev"
    refine ⟨by decide +kernel, by decide +kernel, by decide +kernel, rt_id ?_⟩
    exact h _ lawSigns_ok.1 lawSigns_ok.2
/-! ### _law_text -/
set_option maxHeartbeats 4000000 in
theorem ok_law_text (T : Tx K mg) : FnOk P w K mg base CX0 2 T.a_law_text T.fd_law_text ["_law_pot_here", "_law_most", "_law_signs_here"] (lift K (q_law_text)) := by
  refine T.F_law_text.ok sc_law_text (lift_len fun ds μ Q E h => ?_) (fun cdv A outer s H vs Q E hr h => ⟨_, (pss_one (ps_ret (pe_m1 PySem.F.slot_str_join PySem.F.type_str_join (mt_joinP (K := K) rfl) pe_str (pe_lc (own := [("_law_k", 3)]) (g := gName 3) (by rfl) sc_law_text.nd (pi_range1P (by rfl) T.n_range (pa_cons (pe_call (ok_law_draw T) (hr.mono (by decide)) (by rfl) T.m_law_draw T.F_law_draw.kp (b_law_draw T) .nil pass0 (pa_cons (pv 0) (pa_cons (pe_op op_addP (pv 1) pe_int) pa_nil))) pa_nil)) (blkOk_by (own := [("_law_k", 3)]) (N := ["_law_pot_here", "_law_most", "_law_signs_here", "_law_k"]) (sc := defScope s_law_text) (by decide +kernel)) (fun _ _ _ _ _ => pg_name (i := 3) sc_law_text.nd rfl (Or.inl rfl)) (fun _ _ _ _ _ => pts_nil) (fun _ _ _ _ _ => (pe_ix (ix_P (K := K) rfl) (pv 2) (pe_call (ok_law_draw T) (hr.mono (by decide)) (by rfl) T.m_law_draw T.F_law_draw.kp (b_law_draw T) .nil pass0 (pa_cons (pv 0) (pa_cons (pe_callB (call_lenP (K := K) rfl) (by rfl) T.n_len (by decide +kernel) (pa_cons (pv 2) pa_nil)) pa_nil))) (fun _ _ => rfl))))))), run_body h (fun I E3 hW => (x_ret (s_m1 m_join (s_c _) (s_lc (i_r1 (s_cons (s_call (s_cons (s_var 0) (s_cons (s_op r_add (s_var 1) (s_c _)) s_nil))) s_nil)) (gw_name (i := 3) (by decide)) s_yes (s_op r_ix (s_var 2) (s_call (s_cons (s_var 0) (s_cons (s_cb c_len (s_cons (s_var 2) s_nil)) s_nil)))))))) ?_⟩)
  · unfold q_law_text at h; split at h
    · rfl
    · exact h.elim
  · clear h
    intro ds μ Q E h
    unfold q_law_text at h
    split at h
    rotate_left
    · exact h.elim
    rename_i k m s
    obtain ⟨hk, h1, h2, h3, h4, h⟩ := h
    walk_at "ev"
    refine ⟨hk, by omega, by omega, fun d d0 d1 => ⟨by omega, ?_⟩⟩
    refine lc_kind (fun c => .v (.str ⟨#[c]⟩)) (· ∈ TL.tl s) rfl (by rw [ints3_len]; omega) (fun x hx N hN => ?_) fun as hl ha => ?_
    · walk_at "ev"
      refine ⟨by omega, hk, by omega, by omega, fun e e0 e1 => ⟨by omega, ?_⟩⟩
      exact ix_sign e0 e1 hN
    · rw [ints3_len] at hl
      rw [strsOf_map]
      have hy : ∀ y ∈ as.map (fun c => (⟨#[c]⟩ : Str)), ∃ c ∈ TL.tl s, y = ⟨#[c]⟩ := fun y hy => by
        obtain ⟨c, hc, rfl⟩ := List.mem_map.mp hy
        exact ⟨c, ha c hc, rfl⟩
      obtain ⟨j1, j2, j3⟩ := join_signs3 hy
      walk_at "ev"
      refine ⟨?_, rt_id (h _ ?_ j3)⟩
      · rw [j1, len_nil, List.length_map]; omega
      · rw [j2, List.length_map]; omega
/-! ### _law_written -/
set_option maxHeartbeats 4000000 in
theorem ok_law_written (T : Tx K mg) : FnOk P w K mg base CX0 1 T.a_law_written T.fd_law_written ["_law_words"] (lift K (q_law_written)) := by
  refine T.F_law_written.ok sc_law_written (lift_len fun ds μ Q E h => ?_) (fun cdv A outer s H vs Q E hr h => ⟨_, (pss_cons (ps_set (i := 1) sc_law_written.nd rfl (.inl rfl) pe_str)
      (pss_cons (ps_for PassesOwn.never rfl (pi_enumK (K := K) rfl (by rfl) T.n_enumerate (pa_cons (pv 0) pa_nil)) (pg_tupK (K := K) (n := 2) rfl rfl (pgs_cons (pg_name (i := 2) sc_law_written.nd rfl (.inl rfl)) (pgs_cons (pg_name (i := 3) sc_law_written.nd rfl (.inl rfl)) pgs_nil)))
      (pss_cons (ps_set (i := 1) sc_law_written.nd rfl (.inl rfl) (pe_op op_addP (pv 1) (pe_op op_mulP pe_str (pe_callTy call_int3 (by rfl) T.n_int (by decide +kernel) (pa_cons (pe_cmpR (cp_i2 op_gt) (pv 2) pe_int (nomark _)) pa_nil)))))
      (pss_one (ps_if (PW.pt (pw_or (pt_cmpR (op_eqP (K := K) rfl hr.units) (pv 3) pe_str (nomark _)) (pw_or (pt_cmpR (op_inP (K := K) rfl) pe_str (pv 3) (by rfl)) (pw_or1 (pt_cmpR (op_inP (K := K) rfl) pe_str (pv 3) (by rfl)))))) (pss_one (ps_set (i := 1) sc_law_written.nd rfl (.inl rfl) (pe_op op_addP (pe_op op_addP (pe_op op_addP (pv 1) pe_str) (pe_m1 PySem.F.slot_str_join PySem.F.type_str_join (mt_joinP (K := K) rfl) pe_str (pe_lc (own := [("_law_sign", 4)]) (g := gName 4) (by rfl) sc_law_written.nd (pi_strK (K := K) rfl (pv 3)) (blkOk_by (own := [("_law_sign", 4)]) (N := ["_law_words", "_law_text_here", "_law_k", "_law_word", "_law_sign"]) (sc := defScope s_law_written) (by decide +kernel)) (fun _ _ _ _ _ => pg_name (i := 4) sc_law_written.nd rfl (Or.inl rfl)) (fun _ _ _ _ _ => pts_nil) (fun _ _ _ _ _ => (pe_op op_addP (pe_op op_mulP pe_str (pe_callTy call_int3 (by rfl) T.n_int (by decide +kernel) (pa_cons (pe_cmpR (op_eqP (K := K) rfl hr.units) (pv 4) pe_str (nomark _)) pa_nil))) (pv 4)))))) pe_str))) (pss_one (ps_set (i := 1) sc_law_written.nd rfl (.inl rfl) (pe_op op_addP (pv 1) (pv 3))))))))
      (pss_one (ps_ret (pv 1))))), run_body h (fun I E3 hW => (x_seq (x_asg (s_c _) (g_name 1))
      (x_seq (x_for (i_enum (s_cons (s_var 0) s_nil)) (g_tup (gs_cons (g_name 2) (gs_cons (g_name 3) gs_nil)))
      (x_seq (x_asg (s_op r_add (s_var 1) (s_op r_mul (s_c _) (s_cb c_int (s_cons (s_op r_i2 (s_var 2) (s_c _)) s_nil)))) (g_name 1))
      (x_if (s_or (s_test (s_op r_eq (s_var 3) (s_c _))) (s_or (s_test (s_op (r_in false) (s_c _) (s_var 3))) (s_test (s_op (r_in false) (s_c _) (s_var 3))))) (x_asg (s_op r_add (s_op r_add (s_op r_add (s_var 1) (s_c _)) (s_m1 m_join (s_c _) (s_lc (i_str (s_var 3)) (gw_name (i := 4) (by decide)) s_yes (s_op r_add (s_op r_mul (s_c _) (s_cb c_int (s_cons (s_op r_eq (s_var 4) (s_c _)) s_nil))) (s_var 4))))) (s_c _)) (g_name 1)) (x_asg (s_op r_add (s_var 1) (s_var 3)) (g_name 1)))))
      (x_ret (s_var 1))))) ?_⟩)
  · unfold q_law_written at h; split at h
    · rfl
    · exact h.elim
  · clear h
    intro ds μ Q E h
    unfold q_law_written at h
    split at h
    rotate_left
    · exact h.elim
    rename_i xs
    obtain ⟨ws, rfl, hn, hb, h⟩ := h
    walk_at "ev"
    refine for_by (fun i s' μ' => μ' = μ ∧ ∃ (t : Str) (x y z : Option D), t.length ≤ i * 403 ∧ TL.tl t = rowL ((ws.take i).map TL.tl) ∧ s' = [some (.lst (dStrs ws)), some (.v (.str t)), x, y, z])
      ⟨rfl, Str.ofString "", none, none, none, by decide +kernel, rfl, rfl⟩ (fun i s' μ' hP => by obtain ⟨rfl, _⟩ := hP; rfl) (fun i x s' μ' hi hx hP N hN => ?_) (fun s' μ' hP => ?_)
    · obtain ⟨rfl, t, y1, y2, y3, ht, he, rfl⟩ := hP
      rw [show (enum3 (dStrs ws)).length = ws.length from by unfold enum3 dStrs; simp] at hi
      have hx2 : x = .tup [.v (.int (i : Nat)), .v (.str ws[i])] := by
        unfold enum3 at hx
        rw [List.getElem?_map, List.getElem?_zipIdx, dStrs_get, List.getElem?_eq_getElem hi] at hx
        simpa using hx.symm
      subst hx2
      have hwl := hb ws[i] (List.getElem_mem hi)
      have hi2 : i < 100 := by omega
      have e1 : ws.take (i + 1) = ws.take i ++ [ws[i]] := by rw [List.take_succ_eq_append_getElem hi]
      generalize hw : ws[i] = w at *
      have hT : (t ++ Txt.mul (Str.ofString " ") (if 0 < (i : Int) then 1 else 0)).length ≤ i * 403 + 1 ∧ TL.tl ((t ++ Txt.mul (Str.ofString " ") (if 0 < (i : Int) then 1 else 0)) ++ wt w) = rowL ((ws.take (i + 1)).map TL.tl) := by
        rw [e1, List.map_append, List.map_cons, List.map_nil, TL.tl_append, TL.tl_append, he, tl_wt]
        cases i with
        | zero =>
          rw [if_neg (by decide), List.take_zero]
          refine ⟨?_, ?_⟩
          · rw [len_app, show (Txt.mul (Str.ofString " ") 0).length = 0 from by decide +kernel]; omega
          · rw [show TL.tl (Txt.mul (Str.ofString " ") 0) = [] from by decide +kernel]; rfl
        | succ n =>
          rw [if_pos (by omega)]
          refine ⟨?_, ?_⟩
          · rw [len_app, show (Txt.mul (Str.ofString " ") 1).length = 1 from by decide +kernel]; omega
          · rw [show TL.tl (Txt.mul (Str.ofString " ") 1) = [32] from by decide +kernel, rowL_snoc]
            · rw [List.append_assoc]; rfl
            · rw [Ne, List.map_eq_nil_iff, List.take_eq_nil_iff]
              intro z
              rcases z with z | z
              · omega
              · rw [z] at hi; exact absurd hi (by simp)
      generalize hA : (t ++ Txt.mul (Str.ofString " ") (if 0 < (i : Int) then 1 else 0)) = A0 at hT
      have hA1 : t.length ≤ A0.length := by rw [← hA, len_app]; omega
      obtain ⟨hT1, hT2⟩ := hT
      have hwt := wt_len w
      have hfin : N [some (.lst (dStrs ws)), some (.v (.str (A0 ++ wt w))), some (.v (.int (i : Nat))), some (.v (.str w)), y3] μ' :=
        hN _ _ ⟨rfl, _, _, _, _, by rw [len_app]; omega, hT2, rfl⟩
      have hj2 : (Txt.mul (Str.ofString " ") (if 0 < (i : Int) then 1 else 0)).length ≤ 1 := by
        by_cases h0 : 0 < (i : Int)
        · rw [if_pos h0]; decide +kernel
        · rw [if_neg h0]; decide +kernel
      have hq : ¬ (w ≠ Str.ofString "" ∧ subS (Str.ofString " ") w = false ∧ subS (Str.ofString "'") w = false) → A0.length + (Str.ofString "'").length ≤ 16777216 ∧
          lcE (fun μ => some (chars w)) (chars w)
            (lcB (kName 4) eYes
              (eOp oAdd
                (eOp oMul (eC (V.str (Str.ofString "'")))
                  (eCB cInt (eCons (eOp (oEq false) (eVar 4) (eC (V.str (Str.ofString "'")))) eNil)))
                (eVar 4))
              [some (D.lst (dStrs ws)), some (D.v (V.str A0)), some (D.v (V.int (i : Nat))), some (D.v (V.str w)), none])
            (fun xs μ2 =>
              wSome (strsOf xs) fun zs =>
                (List.map (fun x => x.length) zs).sum + zs.length * (Str.ofString "").length ≤ 16777216 ∧
                  (A0 ++ Str.ofString "'").length + (Txt.join (Str.ofString "") zs).length ≤ 16777216 ∧
                    (A0 ++ Str.ofString "'" ++ Txt.join (Str.ofString "") zs).length + (Str.ofString "'").length ≤ 16777216 ∧
                      N [some (D.lst (dStrs ws)), some (D.v (V.str (A0 ++ Str.ofString "'" ++ Txt.join (Str.ofString "") zs ++ Str.ofString "'"))), some (D.v (V.int (i : Nat))), some (D.v (V.str w)), y3] μ2) μ' := fun hz => by
        refine ⟨by rw [lq]; omega, ?_⟩
        refine lc_mapT (xs := TL.tl w) (t := fun c => .v (.str ⟨#[c]⟩)) (fun c => .v (.str (Txt.mul (Str.ofString "'") (if c = 39 then 1 else 0) ++ ⟨#[c]⟩))) rfl (by rw [← tl_len]; omega) (fun c hc k hk => ?_) ?_
        · walk_at "ev"
          simp only [sg_q]
          refine ⟨⟨by rw [lq]; decide, ?_, ?_⟩, ?_, hk⟩
          · split <;> decide
          · split <;> decide
          · have : (Txt.mul (Str.ofString "'") (if c = 39 then 1 else 0)).length ≤ 1 := by
              split
              · decide +kernel
              · decide +kernel
            have : (Str.mk #[c]).length = 1 := rfl
            omega
        · rw [strsOf_map (fun c => Txt.mul (Str.ofString "'") (if c = 39 then 1 else 0) ++ (⟨#[c]⟩ : Str))]
          have hJ := joinJ_len w
          have hD := tl_dblJ w
          walk_at "ev"
          generalize hz : (TL.tl w).map (fun c => Txt.mul (Str.ofString "'") (if c = 39 then 1 else 0) ++ (⟨#[c]⟩ : Str)) = zs at *
          have hjl : (Txt.join (Str.ofString "") zs).length ≤ 400 := by
            have := dbl_len (TL.tl w)
            rw [tl_len, hD]
            rw [tl_len] at hwl
            omega
          refine ⟨by rw [show (Str.ofString "").length = 0 from by decide +kernel]; omega, by rw [len_app, lq]; omega, by rw [len_app, len_app, lq]; omega, ?_⟩
          have hwt2 : wt w = Str.ofString "'" ++ Txt.join (Str.ofString "") zs ++ Str.ofString "'" := by
            unfold wt
            rw [if_neg ‹_›, str_eq]
            simp only [TL.tl_append, hD, tl_dbl]
          rw [hwt2] at hfin
          rw [show A0 ++ Str.ofString "'" ++ Txt.join (Str.ofString "") zs ++ Str.ofString "'" = A0 ++ (Str.ofString "'" ++ Txt.join (Str.ofString "") zs ++ Str.ofString "'") from by rw [str_eq]; simp only [TL.tl_append, List.append_assoc]]
          exact hfin
      walk_at "ev"
      rw [hA]
      refine ⟨⟨by rw [lb]; decide, ?_, ?_⟩, by omega, iteI (fun h1 => hq fun z => z.1 h1) fun h1 => iteI (fun h2 => hq fun z => by rw [h2] at z; exact nomatch z.2.1) fun h2 => iteI (fun h3 => hq fun z => by rw [h3] at z; exact nomatch z.2.2) fun h3 => ?_⟩
      · split <;> decide
      · split <;> decide
      · have hw2 : wt w = w := if_pos ⟨h1, by simpa using h2, by simpa using h3⟩
        rw [hw2] at hfin
        exact ⟨by omega, hfin⟩
    · obtain ⟨rfl, t, y1, y2, y3, ht, he, rfl⟩ := hP
      have e1 : t = rowT ws := by
        rw [str_eq, he, tl_rowT, List.take_of_length_le]
        unfold enum3 dStrs; simp
      subst e1
      walk_at "ev"
      exact rt_id h
/-! ### _law_quoted -/
set_option maxHeartbeats 4000000 in
theorem ok_law_quoted (T : Tx K mg) : FnOk P w K mg base CX0 1 T.a_law_quoted T.fd_law_quoted ["_law_text_here", "_law_at"] (lift K (q_law_quoted)) := by
  refine T.F_law_quoted.ok sc_law_quoted (lift_len fun ds μ Q E h => ?_) (fun cdv A outer s H vs Q E hr h => ⟨_, (pss_cons (ps_set (i := 2) sc_law_quoted.nd rfl (.inl rfl) pe_str)
      (pss_cons (ps_while PassesOwn.never (pt_cmpR (cp_i2 op_lt) (pv 1) (pe_callB (call_lenP (K := K) rfl) (by rfl) T.n_len (by decide +kernel) (pa_cons (pv 0) pa_nil)) (nomark _))
      (pss_one (ps_if (pt_cmpR (op_neP (K := K) rfl hr.units) (pe_ix (ix_P (K := K) rfl) (pv 0) (pv 1) (fun _ _ => rfl)) pe_str (nomark _)) (pss_cons (ps_set (i := 2) sc_law_quoted.nd rfl (.inl rfl) (pe_op op_addP (pv 2) (pe_ix (ix_P (K := K) rfl) (pv 0) (pv 1) (fun _ _ => rfl))))
      (pss_one (ps_aug (i := 1) sc_law_quoted.nd rfl (.inl rfl) pe_int ip_addP))) (pss_one (ps_if (pt_cmpR (op_eqP (K := K) rfl hr.units) (pe_slice (sl_P (K := K) rfl) (pv 0) (po_some (pe_op op_addP (pv 1) pe_int)) (po_some (pe_op op_addP (pv 1) pe_int))) pe_str (nomark _)) (pss_cons (ps_set (i := 2) sc_law_quoted.nd rfl (.inl rfl) (pe_op op_addP (pv 2) pe_str))
      (pss_one (ps_aug (i := 1) sc_law_quoted.nd rfl (.inl rfl) pe_int ip_addP))) (pss_one (ps_ret (pe_tup (pa_cons (pv 2) (pa_cons (pe_op op_addP (pv 1) pe_int) pa_nil))))))))))
      (pss_one (ps_ret (pe_tup (pa_cons pe_non (pa_cons (pv 1) pa_nil))))))), run_body h (fun I E3 hW => (x_seq (x_asg (s_c _) (g_name 2))
      (x_seq (x_while (s_test (s_op r_i2 (s_var 1) (s_cb c_len (s_cons (s_var 0) s_nil))))
      (x_if (s_test (s_op r_ne (s_op r_ix (s_var 0) (s_var 1)) (s_c _))) (x_seq (x_asg (s_op r_add (s_var 2) (s_op r_ix (s_var 0) (s_var 1))) (g_name 2))
      (x_aug (s_c _) p_add)) (x_if (s_test (s_op r_eq (s_sl r_sl (s_var 0) (s_part (s_op r_add (s_var 1) (s_c _))) (s_part (s_op r_add (s_var 1) (s_c _)))) (s_c _))) (x_seq (x_asg (s_op r_add (s_var 2) (s_c _)) (g_name 2))
      (x_aug (s_c _) p_add)) (x_ret (s_tup (s_cons (s_var 2) (s_cons (s_op r_add (s_var 1) (s_c _)) s_nil)))))))
      (x_ret (s_tup (s_cons (s_c _) (s_cons (s_var 1) s_nil))))))) ?_⟩)
  · unfold q_law_quoted at h; split at h
    · rfl
    · exact h.elim
  · clear h
    intro ds μ Q E h
    unfold q_law_quoted at h
    split at h
    rotate_left
    · exact h.elim
    rename_i t a
    obtain ⟨i, rfl, hi, hl, hA, hB⟩ := h
    walk_at "ev"
    refine while_by3 (fun s' μ' => μ' = μ ∧ ∃ (w : Str) (p : Nat), p ≤ t.length ∧ (TL.tl t).drop i = StrLaws.dbl 39 (TL.tl w) ++ (TL.tl t).drop p ∧ p = i + (StrLaws.dbl 39 (TL.tl w)).length ∧ s' = [some (.v (.str t)), some (.v (.int p)), some (.v (.str w))]) (fun s' _ => match s' with | [_, some (.v (.int p)), _] => t.length - p.toNat | _ => 0) ⟨rfl, Str.ofString "", i, hi, rfl, rfl, rfl⟩ (fun s' μ' hP N hN B bT bF => ?_)
    obtain ⟨rfl, w, p, hp, he, hpe, rfl⟩ := hP
    have hwl : w.length ≤ 1000 := by
      have := congrArg List.length he
      rw [List.length_drop, List.length_append, ← tl_len] at this
      have := dbl_ge (TL.tl w)
      rw [← tl_len] at this
      omega
    have hgo : ∀ (x : Str) (n : Nat) (q : Int), q = ((p + n : Nat) : Int) → 1 ≤ n → p + n ≤ t.length → (TL.tl t).drop p = (if TL.tl x = [39] then [39, 39] else TL.tl x) ++ (TL.tl t).drop (p + n) → (∃ c, TL.tl x = [c] ∧ n = if c = 39 then 2 else 1) →
        N [some (.v (.str t)), some (.v (.int q)), some (.v (.str (w ++ x)))] μ' := fun x n q hq hn hpn hx hc => by
      subst hq
      obtain ⟨c, hc, hn2⟩ := hc
      rw [hc] at hx
      have hd : StrLaws.dbl 39 (TL.tl (w ++ x)) = StrLaws.dbl 39 (TL.tl w) ++ (if [c] = [39] then [39, 39] else [c]) := by
        rw [TL.tl_append, hc, dbl_snoc]; simp
      refine hN _ _ ⟨rfl, w ++ x, p + n, hpn, by rw [he, hx, hd, List.append_assoc], ?_, rfl⟩ ?_
      · rw [hd, List.length_append, hn2, hpe]
        by_cases z : c = 39
        · subst z; simp; omega
        · simp [z]; omega
      · show t.length - ((p + n : Nat) : Int).toNat < t.length - (p : Int).toNat
        omega
    walk_at "ev"
    refine ⟨by omega, ?_⟩
    by_cases hp2 : p < t.length
    · rw [decide_eq_true (by omega : (p : Int) < t.length)]
      refine bT _ ?_
      match e : (TL.tl t).drop p with
      | [] => have := drop_ge e; rw [← tl_len] at this; omega
      | c :: r =>
        have e1 := drop_next e
        walk_at "ev"
        refine ⟨by omega, ix_at e ?_⟩
        by_cases hc : c = 39
        · subst hc
          rw [if_neg fun z => z ((sg_q 39).mpr rfl)]
          refine ⟨by omega, ?_⟩
          have hcut : (cutS t (some ((p : Int) + 1)) (some ((p : Int) + 2)) = Str.ofString "'") ↔ r.take 1 = [39] := by
            rw [str_eq, show ((p : Int) + 1) = ((p + 1 : Nat) : Int) from by omega, show ((p : Int) + 2) = ((p + 2 : Nat) : Int) from by omega, tl_mid, e1, sgQ, show p + 2 - (p + 1) = 1 from by omega]
          by_cases h2 : r.take 1 = [39]
          · rw [if_pos (hcut.mpr h2)]
            match r, h2 with
            | d :: l, h2 =>
              have hd : d = 39 := by simpa using h2
              subst hd
              have e3 := drop_next e1
              refine ⟨by rw [lq]; omega, hgo _ 2 _ (by omega) (by omega) (by have := drop_lt e1; rw [← tl_len] at this; omega) ?_ ⟨39, by rw [sgQ], rfl⟩⟩
              rw [e, e3, sgQ]; rfl
          · rw [if_neg fun z => h2 (hcut.mp z)]
            refine rt_id ?_
            have := hA w r (by rw [he, e]) fun d l z hd => h2 (by rw [z, hd]; rfl)
            rw [← hpe] at this
            exact this
        · rw [if_pos fun z => hc ((sg_q c).mp z)]
          refine ⟨by omega, ix_at e ⟨by rw [one_len]; omega, hgo _ 1 _ (by omega) (by omega) (by omega) ?_ ⟨c, rfl, by rw [if_neg hc]⟩⟩⟩
          rw [e, e1, if_neg (fun z => hc (List.cons.inj (show [c] = [39] from z)).1)]; rfl
    · rw [decide_eq_false (by omega : ¬ (p : Int) < t.length)]
      refine bF _ ?_
      have hpt : p = t.length := by omega
      have e0 : (TL.tl t).drop p = [] := List.drop_eq_nil_of_le (by rw [← tl_len]; omega)
      rw [e0, List.append_nil] at he
      walk_at "ev"
      rw [hpt]
      exact rt_id (hB fun v r e hr => dbl_noend _ _ (he.symm.trans e) hr)
/-! ### _law_bare -/
set_option maxHeartbeats 4000000 in
theorem ok_law_bare (T : Tx K mg) : FnOk P w K mg base CX0 1 T.a_law_bare T.fd_law_bare ["_law_text_here", "_law_at"] (lift K (q_law_bare)) := by
  refine T.F_law_bare.ok sc_law_bare (lift_len fun ds μ Q E h => ?_) (fun cdv A outer s H vs Q E hr h => ⟨_, (pss_cons (ps_set (i := 2) sc_law_bare.nd rfl (.inl rfl) pe_str)
      (pss_cons (ps_while PassesOwn.never (PW.pt (pw_and (pt_cmpR (cp_i2 op_lt) (pv 1) (pe_callB (call_lenP (K := K) rfl) (by rfl) T.n_len (by decide +kernel) (pa_cons (pv 0) pa_nil)) (nomark _)) (pw_and (pt_cmpR (op_neP (K := K) rfl hr.units) (pe_ix (ix_P (K := K) rfl) (pv 0) (pv 1) (fun _ _ => rfl)) pe_str (nomark _)) (pw_and1 (pt_cmpR (op_neP (K := K) rfl hr.units) (pe_ix (ix_P (K := K) rfl) (pv 0) (pv 1) (fun _ _ => rfl)) pe_str (nomark _))))))
      (pss_cons (ps_set (i := 2) sc_law_bare.nd rfl (.inl rfl) (pe_op op_addP (pv 2) (pe_ix (ix_P (K := K) rfl) (pv 0) (pv 1) (fun _ _ => rfl))))
      (pss_one (ps_aug (i := 1) sc_law_bare.nd rfl (.inl rfl) pe_int ip_addP))))
      (pss_one (ps_ret (pe_tup (pa_cons (pv 2) (pa_cons (pv 1) pa_nil))))))), run_body h (fun I E3 hW => (x_seq (x_asg (s_c _) (g_name 2))
      (x_seq (x_while (s_and (s_test (s_op r_i2 (s_var 1) (s_cb c_len (s_cons (s_var 0) s_nil)))) (s_and (s_test (s_op r_ne (s_op r_ix (s_var 0) (s_var 1)) (s_c _))) (s_test (s_op r_ne (s_op r_ix (s_var 0) (s_var 1)) (s_c _)))))
      (x_seq (x_asg (s_op r_add (s_var 2) (s_op r_ix (s_var 0) (s_var 1))) (g_name 2))
      (x_aug (s_c _) p_add)))
      (x_ret (s_tup (s_cons (s_var 2) (s_cons (s_var 1) s_nil))))))) ?_⟩)
  · unfold q_law_bare at h; split at h
    · rfl
    · exact h.elim
  · clear h
    intro ds μ Q E h
    unfold q_law_bare at h
    split at h
    rotate_left
    · exact h.elim
    rename_i t a
    obtain ⟨i, rfl, hi, hl, hA⟩ := h
    walk_at "ev"
    refine while_by3 (fun s' μ' => μ' = μ ∧ ∃ (w : Str) (p : Nat), p ≤ t.length ∧ (TL.tl t).drop i = TL.tl w ++ (TL.tl t).drop p ∧ p = i + w.length ∧ Fr (TL.tl w) ∧ s' = [some (.v (.str t)), some (.v (.int p)), some (.v (.str w))]) (fun s' _ => match s' with | [_, some (.v (.int p)), _] => t.length - p.toNat | _ => 0) ⟨rfl, Str.ofString "", i, hi, rfl, rfl, ⟨(fun z => nomatch z), (fun z => nomatch z)⟩, rfl⟩ (fun s' μ' hP N hN B bT bF => ?_)
    obtain ⟨rfl, w, p, hp, he, hpe, hf, rfl⟩ := hP
    have hend : Wb.St ((TL.tl t).drop p) → RtC μ' Q (.tup [.v (.str w), .v (.int p)]) μ' := fun z => by
      have := hA w _ he hf z
      rw [← hpe] at this
      exact rt_id this
    walk_at "ev"
    refine ⟨by omega, ?_⟩
    match e : (TL.tl t).drop p with
    | [] =>
      have hp2 := drop_ge e
      rw [← tl_len] at hp2
      rw [if_neg (by omega)]
      refine bF _ ?_
      walk_at "ev"
      exact hend (by rw [e]; exact fun c l z => nomatch z)
    | c :: r =>
      have hp2 := drop_lt e
      rw [← tl_len] at hp2
      rw [if_pos (by omega)]
      walk_at "ev"
      have hwl : w.length ≤ 1000 := by omega
      refine ⟨by omega, ix_at e ?_⟩
      by_cases h32 : c = 32
      · rw [if_neg fun z => z ((sg_b c).mpr h32)]
        refine bF _ ?_
        walk_at "ev"
        exact hend (by rw [e]; exact fun d l z => .inl ((List.cons.inj z).1 ▸ h32))
      · rw [if_pos fun z => h32 ((sg_b c).mp z)]
        refine ⟨by omega, ix_at e ?_⟩
        by_cases h39 : c = 39
        · rw [decide_eq_true ((sg_q c).mpr h39)]
          refine bF _ ?_
          walk_at "ev"
          exact hend (by rw [e]; exact fun d l z => .inr ((List.cons.inj z).1 ▸ h39))
        · rw [decide_eq_false fun z => h39 ((sg_q c).mp z)]
          refine bT _ ?_
          walk_at "ev"
          refine ⟨by omega, ix_at e ⟨by rw [one_len]; omega, hN _ _ ⟨rfl, w ++ ⟨#[c]⟩, p + 1, by omega, ?_, ?_, ?_, by rw [Int.natCast_add]; rfl⟩ ?_⟩⟩
          · rw [he, e, drop_next e, TL.tl_append, List.append_assoc]; rfl
          · rw [len_app, one_len]; omega
          · rw [TL.tl_append]
            exact ⟨fun z => (List.mem_append.mp z).elim hf.1 fun z => h32 (List.mem_singleton.mp z).symm, fun z => (List.mem_append.mp z).elim hf.2 fun z => h39 (List.mem_singleton.mp z).symm⟩
          · show t.length - ((p : Int) + 1).toNat < t.length - (p : Int).toNat
            omega
/-! ### _law_read -/
set_option maxHeartbeats 4000000 in
theorem ok_law_read (T : Tx K mg) : FnOk P w K mg base CX0 2 T.a_law_read T.fd_law_read ["_law_text_here"] (lift K (q_law_read)) := by
  refine T.F_law_read.ok sc_law_read (lift_len fun ds μ Q E h => ?_) (fun cdv A outer s H vs Q E hr h => ⟨_, (pss_cons (ps_set (i := 1) sc_law_read.nd rfl (.inl rfl) (pe_lst pa_nil))
      (pss_cons (ps_set (i := 2) sc_law_read.nd rfl (.inl rfl) pe_int)
      (pss_cons (ps_set (i := 3) sc_law_read.nd rfl (.inl rfl) (pe_cmpR (op_neP (K := K) rfl hr.units) (pv 0) pe_str (nomark _)))
      (pss_cons (ps_while PassesOwn.never (pt_val (pv 3))
      (pss_cons (ps_if (pt_cmpR (op_eqP (K := K) rfl hr.units) (pe_slice (sl_P (K := K) rfl) (pv 0) (po_some (pv 2)) (po_some (pe_op op_addP (pv 2) pe_int))) pe_str (nomark _)) (pss_cons (ps_asg (pe_call (ok_law_quoted T) (hr.mono (by decide)) (by rfl) T.m_law_quoted T.F_law_quoted.kp (b_law_quoted T) .nil pass0 (pa_cons (pv 0) (pa_cons (pe_op op_addP (pv 2) pe_int) pa_nil))) (pg_tupK (K := K) (n := 2) rfl rfl (pgs_cons (pg_name (i := 4) sc_law_read.nd rfl (.inl rfl)) (pgs_cons (pg_name (i := 2) sc_law_read.nd rfl (.inl rfl)) pgs_nil))))
      (pss_one (ps_if (PW.pt (pw_or (pt_cmpR op_isN (pv 4) pe_non (nomark _)) (pw_or1 (PW.pt (pw_and (pt_cmpR (op_neP (K := K) rfl hr.units) (pv 4) pe_str (nomark _)) (pw_and (pt_cmpR (op_notinP (K := K) rfl) pe_str (pv 4) (by rfl)) (pw_and1 (pt_cmpR (op_notinP (K := K) rfl) pe_str (pv 4) (by rfl))))))))) (pss_one (ps_ret pe_non)) pss_nil))) (pss_cons (ps_asg (pe_call (ok_law_bare T) (hr.mono (by decide)) (by rfl) T.m_law_bare T.F_law_bare.kp (b_law_bare T) .nil pass0 (pa_cons (pv 0) (pa_cons (pv 2) pa_nil))) (pg_tupK (K := K) (n := 2) rfl rfl (pgs_cons (pg_name (i := 4) sc_law_read.nd rfl (.inl rfl)) (pgs_cons (pg_name (i := 2) sc_law_read.nd rfl (.inl rfl)) pgs_nil))))
      (pss_one (ps_if (pt_cmpR (op_eqP (K := K) rfl hr.units) (pv 4) pe_str (nomark _)) (pss_one (ps_ret pe_non)) pss_nil))))
      (pss_cons (ps_expr (pe_bmK (K := K) rfl PySem.F.plainAttrs_list PySem.F.slot_list_append PySem.F.type_list_append mt_append (pv 1) (pa_cons (pv 4) pa_nil)))
      (pss_cons (ps_set (i := 3) sc_law_read.nd rfl (.inl rfl) (pe_cmpR (cp_i2 op_lt) (pv 2) (pe_callB (call_lenP (K := K) rfl) (by rfl) T.n_len (by decide +kernel) (pa_cons (pv 0) pa_nil)) (nomark _)))
      (pss_cons (ps_if (PW.pt (pw_and (pt_val (pv 3)) (pw_and1 (pt_cmpR (op_neP (K := K) rfl hr.units) (pe_ix (ix_P (K := K) rfl) (pv 0) (pv 2) (fun _ _ => rfl)) pe_str (nomark _))))) (pss_one (ps_ret pe_non)) pss_nil)
      (pss_one (ps_aug (i := 2) sc_law_read.nd rfl (.inl rfl) pe_int ip_addP)))))))
      (pss_one (ps_ret (pv 1))))))), run_body h (fun I E3 hW => (x_seq (x_asg (s_lstO s_nil) (g_name 1))
      (x_seq (x_asg (s_c _) (g_name 2))
      (x_seq (x_asg (s_op r_ne (s_var 0) (s_c _)) (g_name 3))
      (x_seq (x_while (s_tb (s_var 3))
      (x_seq (x_if (s_test (s_op r_eq (s_sl r_sl (s_var 0) (s_part (s_var 2)) (s_part (s_op r_add (s_var 2) (s_c _)))) (s_c _))) (x_seq (x_asg (s_call (s_cons (s_var 0) (s_cons (s_op r_add (s_var 2) (s_c _)) s_nil))) (g_tup (gs_cons (g_name 4) (gs_cons (g_name 2) gs_nil))))
      (x_if (s_or (s_test (s_op r_is (s_var 4) (s_c _))) (s_and (s_test (s_op r_ne (s_var 4) (s_c _))) (s_and (s_test (s_op (r_in true) (s_c _) (s_var 4))) (s_test (s_op (r_in true) (s_c _) (s_var 4)))))) (x_ret (s_c _)) x_next)) (x_seq (x_asg (s_call (s_cons (s_var 0) (s_cons (s_var 2) s_nil))) (g_tup (gs_cons (g_name 4) (gs_cons (g_name 2) gs_nil))))
      (x_if (s_test (s_op r_eq (s_var 4) (s_c _))) (x_ret (s_c _)) x_next)))
      (x_seq (x_drop (s_bm ty_l m_append (s_var 1) (s_cons (s_var 4) s_nil)))
      (x_seq (x_asg (s_op r_i2 (s_var 2) (s_cb c_len (s_cons (s_var 0) s_nil))) (g_name 3))
      (x_seq (x_if (s_and (s_tb (s_var 3)) (s_test (s_op r_ne (s_op r_ix (s_var 0) (s_var 2)) (s_c _)))) (x_ret (s_c _)) x_next)
      (x_aug (s_c _) p_add))))))
      (x_ret (s_frz (s_var 1)))))))) ?_⟩)
  · unfold q_law_read at h; split at h
    · rfl
    · exact h.elim
  · clear h
    intro ds μ Q E h
    unfold q_law_read at h
    split at h
    rotate_left
    · exact h.elim
    rename_i t
    obtain ⟨hl, hA, hB⟩ := h
    have hno : ((∀ ws, t ≠ rowT ws)) → ∀ ν, RtC μ Q (.v .non) (μ ++ ν) := fun z ν => rt_drop (.v _) (hB z)
    walk_at "ev"
    refine while_by3 (fun s' μ' => ∃ (fs : List Str) (p : Nat) (op : Bool) (z : Option D), fs.length ≤ p ∧ p ≤ t.length + 1 ∧ (op = true → p ≤ t.length ∧ TL.tl t = openL fs ++ (TL.tl t).drop p) ∧ (op = false → TL.tl t = rowL (fs.map TL.tl)) ∧
        (∀ ws, t = rowT ws → op = true → ∃ j, j < ws.length ∧ fs = ws.take j ∧ (TL.tl t).drop p = rowL ((ws.drop j).map TL.tl)) ∧ μ' = μ ++ [.lst (dStrs fs)] ∧ s' = [some (.v (.str t)), some (.o μ.length), some (.v (.int p)), some (.v (.bl op)), z])
      (fun s' _ => match s' with | [_, _, some (.v (.int p)), some (.v (.bl true)), _] => t.length + 2 - p.toNat | _ => 0) ⟨[], 0, !decide (t = Str.ofString ""), none, Nat.le_refl _, Nat.zero_le _, fun _ => ⟨Nat.zero_le _, rfl⟩, fun z => ?_, fun ws e z => ⟨0, ?_, rfl, by rw [e]; exact tl_rowT ws⟩, rfl, rfl⟩ (fun s' μ' hP N hN B bT bF => ?_)
    · rw [show t = Str.ofString "" from by simpa using z]; decide +kernel
    · cases ws with
      | nil => rw [show t = Str.ofString "" from e.trans (by decide +kernel)] at z; simp at z
      | cons v s => exact Nat.succ_pos _
    obtain ⟨fs, p, op, z, hfp, hpl, hO, hC, hI, rfl, rfl⟩ := hP
    have hlt : (dStrs fs).length < 16777216 := by rw [dS_len]; omega
    walk_at "ev"
    cases op with
    | false =>
      refine bF _ ?_
      walk_at "ev"
      have e : t = rowT fs := by rw [str_eq, tl_rowT]; exact hC rfl
      exact rt_drop (bl_strs fs) (hA fs e)
    | true =>
      refine bT _ ?_
      obtain ⟨hp, hO⟩ := hO rfl
      have hI' : ∀ ws, t = rowT ws → ∃ (j : Nat) (v : Str) (s : List Str), ws.drop j = v :: s ∧ j < ws.length ∧ fs = ws.take j ∧ (TL.tl t).drop p = wtL (TL.tl v) ++ tailL (s.map TL.tl) := fun ws e => by
        obtain ⟨j, hj, hf, h1⟩ := hI ws e rfl
        have hd : ws.drop j = ws[j] :: ws.drop (j + 1) := List.drop_eq_getElem_cons hj
        rw [hd, List.map_cons, rowL_cons] at h1
        exact ⟨j, _, _, hd, hj, hf, h1⟩
      have hfin : ∀ (w : Str) (r : List Nat) (p' : Nat), (TL.tl t).drop p = wtL (TL.tl w) ++ r → p' = p + (wtL (TL.tl w)).length → (∀ (v : Str) (s : List Nat), (TL.tl t).drop p = wtL (TL.tl v) ++ s → H32 s → v = w ∧ s = r) →
          (r = [] → N [some (.v (.str t)), some (.o μ.length), some (.v (.int ((p' : Int) + 1))), some (.v (.bl false)), some (.v (.str w))] (μ ++ [.lst (dStrs fs ++ [.v (.str w)])])) ∧
          (∀ r', r = 32 :: r' → N [some (.v (.str t)), some (.o μ.length), some (.v (.int ((p' : Int) + 1))), some (.v (.bl true)), some (.v (.str w))] (μ ++ [.lst (dStrs fs ++ [.v (.str w)])])) ∧
          (∀ c r', r = c :: r' → c ≠ 32 → ∀ ν, RtC μ Q (.v .non) (μ ++ ν)) := fun w r p' hw hp' hu => by
        have hlen : p' + r.length = t.length := by
          have := congrArg List.length hw
          rw [List.length_drop, List.length_append, ← tl_len] at this
          omega
        have hwp : 0 < (wtL (TL.tl w)).length := List.length_pos_iff.mpr (wtL_ne _)
        have hfl : (fs ++ [w]).length ≤ p' + 1 := by rw [List.length_append]; simp only [List.length_cons, List.length_nil]; omega
        have hdr : (TL.tl t).drop p' = r := by
          rw [hp', ← List.drop_drop, hw]; exact List.drop_left
        refine ⟨fun hr => ?_, fun r' hr => ?_, fun c r' hr hc => hno (fun ws e => ?_)⟩
        · refine hN _ _ ⟨fs ++ [w], p' + 1, false, some (.v (.str w)), hfl, by omega, (fun z => nomatch z), fun _ => ?_, (fun _ _ z => nomatch z), by rw [dS_snoc], rfl⟩ ?_
          · rw [rowL_open, hO, hw, hr, List.append_nil]
          · show 0 < t.length + 2 - (p : Int).toNat
            omega
        · have hl2 : p' + 1 ≤ t.length := by rw [hr, List.length_cons] at hlen; omega
          have hd2 : (TL.tl t).drop (p' + 1) = r' := drop_next (hdr.trans hr)
          refine hN _ _ ⟨fs ++ [w], p' + 1, true, some (.v (.str w)), hfl, by omega, (fun _ => ⟨hl2, ?_⟩), (fun z => nomatch z), (fun ws e _ => ?_), by rw [dS_snoc], rfl⟩ ?_
          · rw [hd2, openL_snoc]
            refine hO.trans ?_
            rw [hw, hr]; simp
          · obtain ⟨j, v, s, hd, hj, hf, h1⟩ := hI' ws e
            obtain ⟨e1, e2⟩ := hu v _ h1 (tailL_h _)
            subst e1
            have hs : s ≠ [] := fun z => by rw [z, hr] at e2; cases e2
            have hd3 : ws.drop (j + 1) = s := by rw [← List.drop_drop, hd]; rfl
            refine ⟨j + 1, ?_, ?_, ?_⟩
            · by_cases z : j + 1 < ws.length
              · exact z
              · rw [List.drop_eq_nil_of_le (by omega)] at hd3; exact absurd hd3.symm hs
            · rw [hf, List.take_succ_eq_append_getElem hj]
              rw [List.drop_eq_getElem_cons hj] at hd
              rw [(List.cons.inj hd).1]
            · rw [hd2, hd3]
              rw [tailL_more (by simpa using hs), hr] at e2
              exact (List.cons.inj e2).2.symm
          · show t.length + 2 - ((p' : Int) + 1).toNat < t.length + 2 - (p : Int).toNat
            omega
        · obtain ⟨j, v, s, hd, hj, hf, h1⟩ := hI' ws e
          obtain ⟨e1, e2⟩ := hu v _ h1 (tailL_h _)
          exact hc (tailL_head (e2.trans hr))
      have hga : ∀ (w : Str) (r : List Nat) (p' : Nat), (TL.tl t).drop p = wtL (TL.tl w) ++ r → p' = p + (wtL (TL.tl w)).length → (∀ (v : Str) (s : List Nat), (TL.tl t).drop p = wtL (TL.tl v) ++ s → H32 s → v = w ∧ s = r) →
          (dStrs fs).length < 16777216 ∧ t.length ≤ 16777216 ∧ if (p' : Int) < (t.length : Nat) then t.length ≤ 16777216 ∧ wSome (atI t.cps.toList (p' : Int)) fun c => if ¬ (⟨#[c]⟩ : Str) = Str.ofString " " then RtC μ Q (.v .non) (μ ++ [.lst (dStrs fs ++ [.v (.str w)])])
            else N [some (.v (.str t)), some (.o μ.length), some (.v (.int ((p' : Int) + 1))), some (.v (.bl (decide ((p' : Int) < (t.length : Nat))))), some (.v (.str w))] (μ ++ [.lst (dStrs fs ++ [.v (.str w)])])
          else N [some (.v (.str t)), some (.o μ.length), some (.v (.int ((p' : Int) + 1))), some (.v (.bl (decide ((p' : Int) < (t.length : Nat))))), some (.v (.str w))] (μ ++ [.lst (dStrs fs ++ [.v (.str w)])]) := fun w r p' hw hp' hu => by
        obtain ⟨f1, f2, f3⟩ := hfin w r p' hw hp' hu
        have hdr : (TL.tl t).drop p' = r := by
          rw [hp', ← List.drop_drop, hw]; exact List.drop_left
        refine ⟨hlt, by omega, ?_⟩
        cases r with
        | nil =>
          have := drop_ge hdr
          rw [← tl_len] at this
          rw [if_neg (by omega), decide_eq_false (by omega)]
          exact f1 rfl
        | cons c r' =>
          have := drop_lt hdr
          rw [← tl_len] at this
          rw [if_pos (by omega), decide_eq_true (by omega)]
          refine ⟨by omega, ix_at hdr ?_⟩
          by_cases hc : c = 32
          · subst hc
            rw [if_neg fun z => z ((sg_b 32).mpr rfl)]
            exact f2 r' rfl
          · rw [if_pos fun z => hc ((sg_b c).mp z)]
            exact f3 c r' rfl hc _
      clear hfin hN
      have hcut : (cutS t (some (p : Int)) (some ((p : Int) + 1)) = Str.ofString "'") ↔ ((TL.tl t).drop p).take 1 = [39] := by
        rw [str_eq, show ((p : Int) + 1) = ((p + 1 : Nat) : Int) from by omega, tl_mid, sgQ, show p + 1 - p = 1 from by omega]
      walk_at "ev"
      refine ⟨by omega, ?_⟩
      by_cases h39 : ((TL.tl t).drop p).take 1 = [39]
      · rw [if_pos (hcut.mpr h39)]
        match e : (TL.tl t).drop p with
        | [] => rw [e] at h39; cases h39
        | c :: l =>
          rw [e] at h39
          have hc : c = 39 := (List.cons.inj h39).1
          subst hc
          have e1 := drop_next e
          have hp2 := drop_lt e
          rw [← tl_len] at hp2
          refine ⟨p + 1, by omega, by omega, by omega, fun w r hw hr => ?_, fun hn => hno (fun ws z => ?_) _⟩
          · have hq : (TL.tl t).drop p = 39 :: (StrLaws.dbl 39 (TL.tl w) ++ 39 :: r) := by rw [e, ← e1, hw]
            have hu : ∀ (v s : List Nat), (TL.tl t).drop p = wtL v ++ s → H32 s → bareL v ≠ true ∧ v = TL.tl w ∧ s = r := fun v s h hs => quo_uniq (hq.symm.trans h) hr hs
            have hbad : bareL (TL.tl w) = true → RtC μ Q (.v .non) (μ ++ [.lst (dStrs fs)]) := fun hb => hno (fun ws z => by
              obtain ⟨j, v, s, hd, hj, hf, h1⟩ := hI' ws z
              obtain ⟨a1, a2, a3⟩ := hu _ _ h1 (tailL_h _)
              exact a1 (a2 ▸ hb)) _
            have hgood : bareL (TL.tl w) ≠ true → _ := fun hb => hga w r (p + 1 + (StrLaws.dbl 39 (TL.tl w)).length + 1) (by rw [wtL_quo hb, hq]; simp) (by rw [wtL_quo hb]; simp; omega) fun v s h hs => ⟨str_eq.mpr (hu _ _ h hs).2.1, (hu _ _ h hs).2.2⟩
            have hbi := wt_bare w
            exact iteI (fun a1 => iteI (fun a2 => iteI (fun a3 => hbad (hbi.mp ⟨a1, a2, a3⟩)) fun a3 => hgood fun z => a3 (hbi.mpr z).2.2) fun a2 => hgood fun z => a2 (hbi.mpr z).2.1) fun a1 => hgood fun z => a1 (hbi.mpr z).1
          · obtain ⟨j, v, s, hd, hj, hf, h1⟩ := hI' ws z
            by_cases hb : bareL (TL.tl v) = true
            · rw [wtL_bare hb] at h1
              obtain ⟨b1, b2⟩ := (bareL_iff _).mp hb
              cases e2 : TL.tl v with
              | nil => exact b1 e2
              | cons d m =>
                rw [e2, e] at h1
                exact b2.2 (by rw [e2, ← (List.cons.inj h1).1]; exact List.mem_cons_self ..)
            · rw [wtL_quo hb, e] at h1
              exact hn v (tailL (s.map TL.tl)) (by rw [e1, (List.cons.inj h1).2]; simp) (tailL_h _).n39
      · rw [if_neg fun z => h39 (hcut.mp z)]
        have h0 : ∀ l, (TL.tl t).drop p ≠ 39 :: l := fun l z => h39 (by rw [z]; rfl)
        refine ⟨p, rfl, hp, by omega, fun w r hw hf hr => ?_⟩
        have hu : ∀ (v s : List Nat), (TL.tl t).drop p = wtL v ++ s → H32 s → bareL v = true ∧ v = TL.tl w ∧ s = r := fun v s h hs => bare_uniq (hw.symm.trans h) (fun l => by rw [← hw]; exact h0 l) hf hr hs
        refine iteI (fun a1 => hno (fun ws z => ?_) _) fun a1 => ?_
        · obtain ⟨j, v, s, hd, hj, hf, h1⟩ := hI' ws z
          obtain ⟨b1, b2, b3⟩ := hu _ _ h1 (tailL_h _)
          exact ((bareL_iff _).mp b1).1 (by rw [b2, a1]; decide +kernel)
        · have hb : bareL (TL.tl w) = true := (bareL_iff _).mpr ⟨fun z => a1 (by rw [str_eq, z]; decide +kernel), hf⟩
          exact hga w r (p + w.length) (by rw [wtL_bare hb, hw]) (by rw [wtL_bare hb, tl_len]) fun v s h hs => ⟨str_eq.mpr (hu _ _ h hs).2.1, (hu _ _ h hs).2.2⟩
/-! ### _law_is_other -/
set_option maxHeartbeats 4000000 in
theorem okP_law_is_other (T : Tx K mg) : FnPH P w K mg base 1 T.a_law_is_other T.fd_law_is_other ["_law_e"] (liftP K (q_law_is_other T.C_NoRow)) := by
  refine T.F_law_is_other.okPH sc_law_is_other (liftP_len fun a C fs ds μ Q E h => ?_) (fun cdv A outer s H vs Q E p cls d hot hr hz hf h => ⟨_, (pss_one (ps_ret (pe_callB (call_isXS (K := K) (mg := mg) rfl rfl (List.mem_singleton.mpr rfl) hz hf) (by rfl) T.n_isinstance (by decide +kernel) (pa_cons (pv 0) (pa_cons (pe_tup (pa_cons (pe_glob (v := .ref T.C_BadDefault) (by rfl) T.x_BadDefault.gC rfl) (pa_cons (pe_glob (v := .ref T.C_Clash) (by rfl) T.x_Clash.gC rfl) (pa_cons (pe_glob (v := .ref T.C_Fault) (by rfl) T.x_Fault.gC rfl) (pa_cons (pe_glob (v := .ref T.C_NoCommand) (by rfl) T.x_NoCommand.gC rfl) (pa_cons (pe_glob (v := .ref T.C_NoMaker) (by rfl) T.x_NoMaker.gC rfl) (pa_cons (pe_glob (v := .ref T.C_NoName) (by rfl) T.x_NoName.gC rfl) (pa_cons (pe_glob (v := .ref T.C_NoOption) (by rfl) T.x_NoOption.gC rfl) (pa_cons (pe_glob (v := .ref T.C_NoPlace) (by rfl) T.x_NoPlace.gC rfl) (pa_cons (pe_glob (v := .ref T.C_Unmade) (by rfl) T.x_Unmade.gC rfl) pa_nil)))))))))) pa_nil))))), run_bodyP h (fun I C fs => (x_ret (s_cb c_isxs (s_cons (s_var 0) (s_cons (s_tup (s_cons (s_c _) (s_cons (s_c _) (s_cons (s_c _) (s_cons (s_c _) (s_cons (s_c _) (s_cons (s_c _) (s_cons (s_c _) (s_cons (s_c _) (s_cons (s_c _) s_nil)))))))))) s_nil))))) ?_⟩)
  · unfold q_law_is_other at h; split at h
    · rfl
    · exact h.elim
  · clear h
    generalize p.1 = a
    intro C fs ds μ Q E h
    unfold q_law_is_other at h
    split at h
    rotate_left
    · exact h.elim
    rename_i b
    obtain ⟨rfl, rfl, h⟩ := h
    walk_at "ev"
    exact ⟨_, _, _, rfl, T.ka_NoRow_BadDefault, T.x_NoRow, rt_id h⟩
/-! ### _law_told -/
set_option maxHeartbeats 4000000 in
theorem okN_law_told (T : Tx K mg) : FnN 464 P w K mg base 4 T.a_law_told T.fd_law_told ["_law_text_here"] (lift K (q_law_told)) := by
  refine T.F_law_told.okN sc_law_told (lift_len fun ds μ Q E h => ?_) (fun cdv A outer s H vs Q E hm hr h => ⟨_, (ssn_cons (sn_of (ps_set (i := 1) sc_law_told.nd rfl (.inl rfl) (pe_tup (pa_cons pe_str pa_nil))))
      (ssn_cons (L2N.sn_try_as (i := 2) (Wout := fun _ _ _ _ => False) rfl rfl sc_law_told.nd rfl rfl ⟨by rfl, by decide, .inl T.x_BenchError.gC⟩ takes0N (fun W pn xe tk hp => (ssn_one (sn_set (i := 1) sc_law_told.nd rfl (.inl rfl) (en_tup (an_cons (en_of pe_str) (an_cons (en_callS (okM_words_of T) hm (hr.mono (by decide)) (by rfl) T.m_words_of T.F_words_of.kp (b_words_of T) (fun σ => L2N.passAt tk σ) (an_cons (en_of (pv 0)) an_nil)) an_nil)))))) (fun a oe cls d pn hzn hf => (pss_one (ps_set (i := 1) sc_law_told.nd rfl (.inl rfl) (pe_tup (pa_cons pe_str (pa_cons (pe_callB (call_isX (K := K) (mg := mg) rfl rfl hzn.zc hf) (by rfl) T.n_isinstance (by decide +kernel) (pa_cons (pv 2) (pa_cons (pe_glob (v := .ref T.C_NoRow) (by rfl) T.x_NoRow.gC rfl) pa_nil))) (pa_cons (pe_callB (call_isX (K := K) (mg := mg) rfl rfl hzn.zc hf) (by rfl) T.n_isinstance (by decide +kernel) (pa_cons (pv 2) (pa_cons (pe_bltn (v := .ty "ValueError") (by rfl) T.n_ValueError (by decide +kernel) rfl) pa_nil))) (pa_cons (pe_callPH (okP_law_is_other T) (roomH_mark (hr.mono (by decide))) hzn hf (by rfl) T.m_law_is_other T.F_law_is_other.kp (b_law_is_other T) (pa_cons (pv 2) pa_nil)) pa_nil)))))))))
      (ssn_of (pss_one (ps_ret (pv 1)))))), run_body h (fun I E3 hW => (x_seq (x_asg (s_tup (s_cons (s_c _) s_nil)) (g_name 1))
      (x_seq (x_try_as w_out0 (fun I W W' hW => (x_asg (s_tup (s_cons (s_c _) (s_cons (s_callX hW (s_cons (s_var 0) s_nil)) s_nil))) (g_name 1))) (fun a cls d C fs => (x_asg (s_tup (s_cons (s_c _) (s_cons (s_cb c_isx (s_cons (s_var 2) (s_cons (s_c _) s_nil))) (s_cons (s_cb c_isx (s_cons (s_var 2) (s_cons (s_c _) s_nil))) (s_cons (s_callP (s_cons (s_var 2) s_nil)) s_nil))))) (g_name 1))))
      (x_ret (s_var 1))))) ?_⟩)
  · unfold q_law_told at h; split at h
    · rfl
    · exact h.elim
  · clear h
    intro ds μ Q E h
    unfold q_law_told at h
    split at h
    rotate_left
    · exact h.elim
    rename_i x
    rcases h with ⟨t, rfl, hl, hA, hB⟩ | ⟨hx, h⟩
    · walk_at "ev"
      exact .inl ⟨hl, fun ws e => rt_id (hA ws e), fun z => ⟨true, T.ex_NoRow_BenchError, fun _ => ⟨_, _, _, rfl, T.ki_NoRow_NoRow, T.x_NoRow, _, _, _, rfl, T.ki_NoRow_ValueError, T.x_NoRow, rt_id (hB z)⟩, fun z => nomatch z⟩⟩
    · walk_at "ev"
      exact .inr ⟨hx, true, T.ex_NoRow_BenchError, fun _ => ⟨_, _, _, rfl, T.ki_NoRow_NoRow, T.x_NoRow, _, _, _, rfl, T.ki_NoRow_ValueError, T.x_NoRow, rt_id h⟩, fun z => nomatch z⟩
/-! ### _law_right -/
set_option maxHeartbeats 4000000 in
theorem okN_law_right (T : Tx K mg) : FnN 464 P w K mg base 5 T.a_law_right T.fd_law_right ["_law_text_here"] (lift K (q_law_right)) := by
  refine T.F_law_right.okN sc_law_right (lift_len fun ds μ Q E h => ?_) (fun cdv A outer s H vs Q E hm hr h => ⟨_, (ssn_cons (sn_of (ps_set (i := 1) sc_law_right.nd rfl (.inl rfl) (pe_call (ok_law_read T) (hr.mono (by decide)) (by rfl) T.m_law_read T.F_law_read.kp (b_law_read T) .nil pass0 (pa_cons (pv 0) pa_nil))))
      (ssn_cons (sn_if (tn_of (pt_cmpR op_isN (pv 1) pe_non (nomark _))) (ssn_one (sn_ret (en_cmpR (op_eqP (K := K) rfl hr.units) (en_call (okN_law_told T) hm (hr.mono (by decide)) (by rfl) T.m_law_told T.F_law_told.kp (b_law_told T) (an_cons (en_of (pv 0)) an_nil)) (en_of (pe_tup (pa_cons pe_str (pa_cons pe_bl (pa_cons pe_bl (pa_cons pe_bl pa_nil)))))) (nomark _)))) (ssn_of pss_nil))
      (ssn_cons (sn_of (ps_if (PW.pt (pw_or (pt_cmpR (cp_i2 op_gt) (pe_callB (call_lenP (K := K) rfl) (by rfl) T.n_len (by decide +kernel) (pa_cons (pv 1) pa_nil)) pe_int (nomark _)) (pw_or1 (pt_cmpR (cp_i2 op_gt) (pe_callBK (call_maxDf (K := K) rfl (by rfl) (hu66 hr)) (by rfl) T.n_max (by decide +kernel) (pa_cons (pe_lc (own := [("_law_word", 3)]) (g := gName 3) (by rfl) sc_law_right.nd (pi_listK (K := K) rfl (pv 1)) (blkOk_by (own := [("_law_word", 3)]) (N := ["_law_text_here", "_law_due", "_law_told_here", "_law_word"]) (sc := defScope s_law_right) (by decide +kernel)) (fun _ _ _ _ _ => pg_name (i := 3) sc_law_right.nd rfl (Or.inl rfl)) (fun _ _ _ _ _ => pts_nil) (fun _ _ _ _ _ => (pe_callB (call_lenP (K := K) rfl) (by rfl) T.n_len (by decide +kernel) (pa_cons (pv 3) pa_nil)))) pa_nil) (pk_cons pe_int pk_nil)) pe_int (nomark _))))) (pss_one (ps_ret pe_bl)) pss_nil))
      (ssn_cons (sn_set (i := 2) sc_law_right.nd rfl (.inl rfl) (en_call (okN_law_told T) hm (hr.mono (by decide)) (by rfl) T.m_law_told T.F_law_told.kp (b_law_told T) (an_cons (en_of (pv 0)) an_nil)))
      (ssn_of (pss_one (ps_ret (pe_and (pe_cmpR (op_eqP (K := K) rfl hr.units) (pv 2) (pe_tup (pa_cons pe_str (pa_cons (pv 1) pa_nil))) (nomark _)) (pe_one (pe_callB (call_isiP (K := K) rfl) (by rfl) T.n_isinstance (by decide +kernel) (pa_cons (pe_ix (ix_P (K := K) rfl) (pv 2) pe_int (fun _ _ => rfl)) (pa_cons (pe_bltn (v := .ty "list") (by rfl) T.n_list (by decide +kernel) rfl) pa_nil)))))))))))), run_body h (fun I E3 hW => (x_seq (x_asg (s_call (s_cons (s_var 0) s_nil)) (g_name 1))
      (x_seq (x_if (s_test (s_op r_is (s_var 1) (s_c _))) (x_ret (s_op r_eq (s_call (s_cons (s_var 0) s_nil)) (s_tup (s_cons (s_c _) (s_cons (s_c _) (s_cons (s_c _) (s_cons (s_c _) s_nil))))))) x_next)
      (x_seq (x_if (s_or (s_test (s_op r_i2 (s_cb c_len (s_cons (s_var 1) s_nil)) (s_c _))) (s_test (s_op r_i2 (s_maxDf (s_cons (s_lc (i_list (s_var 1)) (gw_name (i := 3) (by decide)) s_yes (s_cb c_len (s_cons (s_var 3) s_nil))) s_nil) (s_cons (s_c _) s_nil)) (s_c _)))) (x_ret (s_c _)) x_next)
      (x_seq (x_asg (s_call (s_cons (s_var 0) s_nil)) (g_name 2))
      (x_ret (s_andV (s_op r_eq (s_var 2) (s_tup (s_cons (s_c _) (s_cons (s_var 1) s_nil)))) (s_cb c_isi (s_cons (s_op r_ix (s_var 2) (s_c _)) (s_cons (s_c _) s_nil)))))))))) ?_⟩)
  · unfold q_law_right at h; split at h
    · rfl
    · exact h.elim
  · clear h
    intro ds μ Q E h
    unfold q_law_right at h
    split at h
    rotate_left
    · exact h.elim
    rename_i t
    obtain ⟨hl, hg, h⟩ := h
    walk_at "ev"
    refine ⟨hl, fun ws e => ?_, fun z => ?_⟩
    · have hn : ws.length ≤ t.length := by rw [e, tl_len (rowT ws), tl_rowT]; exact rowL_cnt ws
      have hw : ∀ w ∈ ws, w.length ≤ t.length ∧ Gd w := fun w hw => ⟨by rw [e, tl_len (rowT ws), tl_rowT]; exact rowL_wlen hw, fun c hc => hg c (by rw [e]; show c ∈ TL.tl (rowT ws); rw [tl_rowT]; exact mem_rowL hw hc)⟩
      rw [dS_len]
      refine iteI (fun _ => rt_id h) fun _ => ?_
      refine lc_mapT (xs := ws) (t := fun s => .v (.str s)) (fun s => .v (.int (s.length : Nat))) rfl (by omega) (fun w hw' k hk => ?_) ?_
      · walk_at "ev"; exact ⟨by have := (hw _ hw').1; omega, hk⟩
      · rw [intsOf_map fun s : Str => (s.length : Int)]
        walk_at "ev"
        refine iteI (fun _ => rt_keep h) fun _ => ?_
        refine .inl ⟨hl, fun ws1 e1 => ?_, fun z => absurd e (z ws)⟩
        obtain rfl := rowT_inj (e1.symm.trans e)
        rw [show dStrs ws1 = ws1.map fun s => D.v (.str s) from rfl, pd_strs]
        exact eq_row (fun w z => (hw w z).2.vd) (rt_id h)
    · refine .inl ⟨hl, fun ws e => absurd e (z ws), fun _ => ⟨rd_sh, rd_sh, rt_id ?_⟩⟩
      show Q (.v (.bl (RD.eqv RD))) μ
      rw [rd_eq]
      exact h
/-! ### _law_row -/
set_option maxHeartbeats 4000000 in
theorem ok_law_row (T : Tx K mg) : FnOk P w K mg base CX0 3 T.a_law_row T.fd_law_row ["_law_pot_here"] (lift K (q_law_row)) := by
  refine T.F_law_row.ok sc_law_row (lift_len fun ds μ Q E h => ?_) (fun cdv A outer s H vs Q E hr h => ⟨_, (pss_cons (ps_set (i := 1) sc_law_row.nd rfl (.inr rfl) (pe_ix (ix_P (K := K) rfl) (pe_lst (pa_cons (pe_call0 (ok_law_signs T) (hr.mono (by decide)) (by rfl) T.m_law_signs T.F_law_signs.kp (b_law_signs T) .nil pass0) (pa_cons pe_str (pa_cons pe_str pa_nil)))) (pe_call (ok_law_draw T) (hr.mono (by decide)) (by rfl) T.m_law_draw T.F_law_draw.kp (b_law_draw T) .nil pass0 (pa_cons (pv 0) (pa_cons pe_int pa_nil))) (fun _ _ => rfl)))
      (pss_one (ps_ret (pe_lc (own := [("_law_k", 2)]) (g := gName 2) (by rfl) sc_law_row.nd (pi_range1P (by rfl) T.n_range (pa_cons (pe_call (ok_law_draw T) (hr.mono (by decide)) (by rfl) T.m_law_draw T.F_law_draw.kp (b_law_draw T) .nil pass0 (pa_cons (pv 0) (pa_cons pe_int pa_nil))) pa_nil)) (blkOk_by (own := [("_law_k", 2)]) (N := ["_law_pot_here", "_law_signs_here", "_law_k"]) (sc := defScope s_law_row) (by decide +kernel)) (fun _ _ _ _ _ => pg_name (i := 2) sc_law_row.nd rfl (Or.inl rfl)) (fun _ _ _ _ _ => pts_nil) (fun _ _ _ _ _ => (pe_call (ok_law_text T) (hr.mono (by decide)) (by rfl) T.m_law_text T.F_law_text.kp (b_law_text T) .nil pass0 (pa_cons (pv 0) (pa_cons (pe_ix (ix_P (K := K) rfl) (pe_lst (pa_cons pe_int (pa_cons pe_int (pa_cons pe_int pa_nil)))) (pe_call (ok_law_draw T) (hr.mono (by decide)) (by rfl) T.m_law_draw T.F_law_draw.kp (b_law_draw T) .nil pass0 (pa_cons (pv 0) (pa_cons pe_int pa_nil))) (fun _ _ => rfl)) (pa_cons (pv 1) pa_nil))))))))), run_body h (fun I E3 hW => (x_seq (x_asg (s_op r_ix (s_lst (s_cons (s_call s_nil) (s_cons (s_c _) (s_cons (s_c _) s_nil)))) (s_call (s_cons (s_var 0) (s_cons (s_c _) s_nil)))) (g_name 1))
      (x_ret (s_lc (i_r1 (s_cons (s_call (s_cons (s_var 0) (s_cons (s_c _) s_nil))) s_nil)) (gw_name (i := 2) (by decide)) s_yes (s_call (s_cons (s_var 0) (s_cons (s_op r_ix (s_lst (s_cons (s_c _) (s_cons (s_c _) (s_cons (s_c _) s_nil)))) (s_call (s_cons (s_var 0) (s_cons (s_c _) s_nil)))) (s_cons (s_var 1) s_nil)))))))) ?_⟩)
  · unfold q_law_row at h; split at h
    · rfl
    · exact h.elim
  · clear h
    intro ds μ Q E h
    unfold q_law_row at h
    split at h
    rotate_left
    · exact h.elim
    rename_i k
    obtain ⟨hk, h⟩ := h
    walk_at "ev"
    refine fun sg hsg gsg => ⟨hk, fun d d0 d1 => ix_strs (ss := [sg, Str.ofString " 'a-=b", Str.ofString " 'a"]) rfl d0 (by show d < 3; omega) fun L hL => ⟨hk, fun m m0 m1 => ⟨by omega, ?_⟩⟩⟩
    have hL2 : (0 < L.length ∧ L.length ≤ 94) ∧ Gd L := by
      simp only [List.mem_cons, List.not_mem_nil, or_false] at hL
      rcases hL with rfl | rfl | rfl
      · exact ⟨by omega, gsg⟩
      · exact ⟨by decide +kernel, gd_of_ok (by decide +kernel)⟩
      · exact ⟨by decide +kernel, gd_of_ok (by decide +kernel)⟩
    refine lc_kind (fun s : Str => D.v (.str s)) (fun s => s.length ≤ 12 ∧ Gd s) rfl (by rw [ints3_len]; omega) (fun x hx q hq => ?_) (fun as hl ha => ?_)
    · unfold ints3 at hx
      obtain ⟨i, hi, rfl⟩ := List.mem_map.mp hx
      walk_at "ev"
      refine ⟨hk, fun a a0 a1 => ix_ints rfl a0 (by show a < 3; omega) fun n hn => ?_⟩
      have hn2 : 0 ≤ n ∧ n ≤ 12 := by
        simp only [List.mem_cons, List.not_mem_nil, or_false] at hn
        rcases hn with rfl | rfl | rfl <;> decide
      walk_at "ev"
      exact ⟨hk, hn2.1, by omega, hL2.1.1, by omega, fun t ht hc => hq t ⟨by omega, fun c hc' => hL2.2 c (hc c hc')⟩⟩
    · rw [ints3_len] at hl
      exact rt_keep (h as (by omega) ha)
/-! ### _law_spoilt -/
set_option maxHeartbeats 4000000 in
theorem ok_law_spoilt (T : Tx K mg) : FnOk P w K mg base CX0 2 T.a_law_spoilt T.fd_law_spoilt ["_law_pot_here", "_law_text_here"] (lift K (q_law_spoilt)) := by
  refine T.F_law_spoilt.ok sc_law_spoilt (lift_len fun ds μ Q E h => ?_) (fun cdv A outer s H vs Q E hr h => ⟨_, (pss_cons (ps_set (i := 2) sc_law_spoilt.nd rfl (.inl rfl) (pe_call (ok_law_draw T) (hr.mono (by decide)) (by rfl) T.m_law_draw T.F_law_draw.kp (b_law_draw T) .nil pass0 (pa_cons (pv 0) (pa_cons (pe_op op_addP (pe_callB (call_lenP (K := K) rfl) (by rfl) T.n_len (by decide +kernel) (pa_cons (pv 1) pa_nil)) pe_int) pa_nil))))
      (pss_cons (ps_set (i := 3) sc_law_spoilt.nd rfl (.inl rfl) (pe_call0 (ok_law_signs T) (hr.mono (by decide)) (by rfl) T.m_law_signs T.F_law_signs.kp (b_law_signs T) .nil pass0))
      (pss_cons (ps_set (i := 4) sc_law_spoilt.nd rfl (.inl rfl) (pe_ix (ix_P (K := K) rfl) (pe_lst (pa_cons pe_str (pa_cons pe_str (pa_cons pe_str (pa_cons pe_str (pa_cons (pe_ix (ix_P (K := K) rfl) (pv 3) (pe_call (ok_law_draw T) (hr.mono (by decide)) (by rfl) T.m_law_draw T.F_law_draw.kp (b_law_draw T) .nil pass0 (pa_cons (pv 0) (pa_cons (pe_callB (call_lenP (K := K) rfl) (by rfl) T.n_len (by decide +kernel) (pa_cons (pv 3) pa_nil)) pa_nil))) (fun _ _ => rfl)) pa_nil)))))) (pe_call (ok_law_draw T) (hr.mono (by decide)) (by rfl) T.m_law_draw T.F_law_draw.kp (b_law_draw T) .nil pass0 (pa_cons (pv 0) (pa_cons pe_int pa_nil))) (fun _ _ => rfl)))
      (pss_cons (ps_set (i := 5) sc_law_spoilt.nd rfl (.inl rfl) (pe_call (ok_law_draw T) (hr.mono (by decide)) (by rfl) T.m_law_draw T.F_law_draw.kp (b_law_draw T) .nil pass0 (pa_cons (pv 0) (pa_cons pe_int pa_nil))))
      (pss_cons (ps_if (pt_cmpR (op_eqP (K := K) rfl hr.units) (pv 5) pe_int (nomark _)) (pss_one (ps_ret (pe_op op_addP (pe_op op_addP (pe_slice (sl_P (K := K) rfl) (pv 1) po_none (po_some (pv 2))) (pv 4)) (pe_slice (sl_P (K := K) rfl) (pv 1) (po_some (pv 2)) po_none)))) pss_nil)
      (pss_one (ps_ret (pe_op op_addP (pe_op op_addP (pe_slice (sl_P (K := K) rfl) (pv 1) po_none (po_some (pv 2))) (pe_ix (ix_P (K := K) rfl) (pe_lst (pa_cons pe_str (pa_cons pe_str (pa_cons (pv 4) pa_nil)))) (pv 5) (fun _ _ => rfl))) (pe_slice (sl_P (K := K) rfl) (pv 1) (po_some (pe_op op_addP (pv 2) pe_int)) po_none))))))))), run_body h (fun I E3 hW => (x_seq (x_asg (s_call (s_cons (s_var 0) (s_cons (s_op r_add (s_cb c_len (s_cons (s_var 1) s_nil)) (s_c _)) s_nil))) (g_name 2))
      (x_seq (x_asg (s_call s_nil) (g_name 3))
      (x_seq (x_asg (s_op r_ix (s_lst (s_cons (s_c _) (s_cons (s_c _) (s_cons (s_c _) (s_cons (s_c _) (s_cons (s_op r_ix (s_var 3) (s_call (s_cons (s_var 0) (s_cons (s_cb c_len (s_cons (s_var 3) s_nil)) s_nil)))) s_nil)))))) (s_call (s_cons (s_var 0) (s_cons (s_c _) s_nil)))) (g_name 4))
      (x_seq (x_asg (s_call (s_cons (s_var 0) (s_cons (s_c _) s_nil))) (g_name 5))
      (x_seq (x_if (s_test (s_op r_eq (s_var 5) (s_c _))) (x_ret (s_op r_add (s_op r_add (s_sl r_sl (s_var 1) s_nopart (s_part (s_var 2))) (s_var 4)) (s_sl r_sl (s_var 1) (s_part (s_var 2)) s_nopart))) x_next)
      (x_ret (s_op r_add (s_op r_add (s_sl r_sl (s_var 1) s_nopart (s_part (s_var 2))) (s_op r_ix (s_lst (s_cons (s_c _) (s_cons (s_c _) (s_cons (s_var 4) s_nil)))) (s_var 5))) (s_sl r_sl (s_var 1) (s_part (s_op r_add (s_var 2) (s_c _))) s_nopart))))))))) ?_⟩)
  · unfold q_law_spoilt at h; split at h
    · rfl
    · exact h.elim
  · clear h
    intro ds μ Q E h
    unfold q_law_spoilt at h
    split at h
    rotate_left
    · exact h.elim
    rename_i k t
    obtain ⟨hk, hg, hl, h⟩ := h
    walk_at "ev"
    refine ⟨by omega, hk, by omega, by omega, fun d d0 d1 sg hsg gsg => ⟨by omega, hk, by omega, by omega, fun e e0 e1 => ⟨by omega, ix_sign e0 e1 fun c hc => ⟨hk, fun f f0 f1 => ix_strs (ss := [Str.ofString " ", Str.ofString "'", Str.ofString "''", Str.ofString "a", ⟨#[c]⟩]) rfl f0 (by show f < 5; omega) fun L hL => ⟨hk, fun m m0 m1 => ?_⟩⟩⟩⟩⟩
    have hL2 : L.length ≤ 2 ∧ Gd L := by
      simp only [List.mem_cons, List.not_mem_nil, or_false] at hL
      rcases hL with rfl | rfl | rfl | rfl | rfl
      · exact ⟨by decide +kernel, gd_of_ok (by decide +kernel)⟩
      · exact ⟨by decide +kernel, gd_of_ok (by decide +kernel)⟩
      · exact ⟨by decide +kernel, gd_of_ok (by decide +kernel)⟩
      · exact ⟨by decide +kernel, gd_of_ok (by decide +kernel)⟩
      · exact ⟨by rw [one_len]; decide, fun x hx => by rw [List.mem_singleton.mp hx]; exact gsg c hc⟩
    obtain ⟨n, rfl⟩ := Int.eq_ofNat_of_zero_le d0
    have ha := len_to t n
    have hb := len_from t n
    have hb2 := len_from t (n + 1)
    have key : ∀ y : Str, y.length ≤ 2 → Gd y → ∀ b, b = cutS t (some (n : Int)) none ∨ b = cutS t (some ((n : Int) + 1)) none → RtC μ Q (.v (.str (cutS t none (some (n : Int)) ++ y ++ b))) μ := fun y hy gy b hb' => by
      refine rt_id (h _ ((hg.cut.app gy).app ?_) ?_)
      · rcases hb' with rfl | rfl <;> exact hg.cut
      · rw [len_app, len_app, ha]
        rcases hb' with rfl | rfl
        · rw [hb]; omega
        · rw [show ((n : Int) + 1) = ((n + 1 : Nat) : Int) from rfl, hb2]; omega
    walk_at "ev"
    refine iteI (fun _ => ⟨by omega, by omega, by omega, by rw [len_app]; omega, key L hL2.1 hL2.2 _ (.inl rfl)⟩) fun hm => ⟨by omega, ix_strs (ss := [Str.ofString "", Str.ofString "", L]) rfl m0 (by show m < 3; omega) fun y hy => ?_⟩
    have hy2 : y.length ≤ 2 ∧ Gd y := by
      simp only [List.mem_cons, List.not_mem_nil, or_false] at hy
      rcases hy with rfl | rfl | rfl
      · exact ⟨by decide +kernel, gd_of_ok (by decide +kernel)⟩
      · exact ⟨by decide +kernel, gd_of_ok (by decide +kernel)⟩
      · exact hL2
    have hb3 : (cutS t (some ((n : Int) + 1)) none).length ≤ t.length := by rw [show ((n : Int) + 1) = ((n + 1 : Nat) : Int) from rfl, hb2]; omega
    walk_at "ev"
    exact ⟨by omega, by omega, by rw [len_app]; omega, key y hy2.1 hy2.2 _ (.inr rfl)⟩
/-! ### law -/
set_option maxHeartbeats 4000000 in
theorem okN_law (T : Tx K mg) : FnN 464 P w K mg base 6 T.a_law T.fd_law ["_law_script"] (lift K sp3_law) := by
  refine T.F_law.okN sc_law (lift_len fun ds μ Q E h => ?_) (fun cdv A outer s H vs Q E hm hr h => ⟨_, (ssn_cons (sn_for PassesOwn.never rfl (pi_range1P (by rfl) T.n_range (pa_cons (pe_callB (call_max2P rfl) (by rfl) T.n_max (by decide +kernel) (pa_cons pe_int (pa_cons (pe_callB (call_min2P rfl) (by rfl) T.n_min (by decide +kernel) (pa_cons (pe_callB (call_lenP (K := K) rfl) (by rfl) T.n_len (by decide +kernel) (pa_cons (pv 0) pa_nil)) (pa_cons pe_int pa_nil))) pa_nil))) pa_nil)) (pg_name (i := 1) sc_law.nd rfl (.inl rfl))
      (ssn_cons (sn_of (ps_set (i := 2) sc_law.nd rfl (.inl rfl) (pe_call (ok_law_pot T) (hr.mono (by decide)) (by rfl) T.m_law_pot T.F_law_pot.kp (b_law_pot T) .nil pass0 (pa_cons (pv 0) (pa_cons (pv 1) pa_nil)))))
      (ssn_cons (sn_of (ps_set (i := 3) sc_law.nd rfl (.inl rfl) (pe_call (ok_law_draw T) (hr.mono (by decide)) (by rfl) T.m_law_draw T.F_law_draw.kp (b_law_draw T) .nil pass0 (pa_cons (pv 2) (pa_cons pe_int pa_nil)))))
      (ssn_cons (sn_of (ps_set (i := 4) sc_law.nd rfl (.inl rfl) (pe_call (ok_law_text T) (hr.mono (by decide)) (by rfl) T.m_law_text T.F_law_text.kp (b_law_text T) .nil pass0 (pa_cons (pv 2) (pa_cons pe_int (pa_cons pe_str pa_nil))))))
      (ssn_cons (sn_of (ps_if (pt_cmpR (cp_i2 op_gt) (pv 3) pe_int (nomark _)) (pss_cons (ps_set (i := 4) sc_law.nd rfl (.inl rfl) (pe_call (ok_law_written T) (hr.mono (by decide)) (by rfl) T.m_law_written T.F_law_written.kp (b_law_written T) .nil pass0 (pa_cons (pe_call (ok_law_row T) (hr.mono (by decide)) (by rfl) T.m_law_row T.F_law_row.kp (b_law_row T) .nil pass0 (pa_cons (pv 2) pa_nil)) pa_nil)))
      (pss_one (ps_for PassesOwn.never rfl (pi_range1P (by rfl) T.n_range (pa_cons (pe_op (op_i2 op_sub) (pv 3) pe_int) pa_nil)) (pg_name (i := 5) sc_law.nd rfl (.inl rfl))
      (pss_one (ps_set (i := 4) sc_law.nd rfl (.inl rfl) (pe_call (ok_law_spoilt T) (hr.mono (by decide)) (by rfl) T.m_law_spoilt T.F_law_spoilt.kp (b_law_spoilt T) .nil pass0 (pa_cons (pv 2) (pa_cons (pv 4) pa_nil)))))))) pss_nil))
      (ssn_one (sn_if (tn_not (tn_val (en_call (okN_law_right T) hm (hr.mono (by decide)) (by rfl) T.m_law_right T.F_law_right.kp (b_law_right T) (an_cons (en_of (pv 4)) an_nil)))) (ssn_of (pss_one (ps_ret pe_bl))) (ssn_of pss_nil))))))))
      (ssn_cons (sn_of (ps_set (i := 6) sc_law.nd rfl (.inl rfl) (pe_lst (pa_cons pe_str (pa_cons pe_str (pa_cons pe_str (pa_cons pe_str (pa_cons pe_str (pa_cons pe_str (pa_cons pe_str (pa_cons pe_str (pa_cons pe_str (pa_cons pe_str (pa_cons pe_str (pa_cons pe_str (pa_cons pe_str (pa_cons pe_str pa_nil)))))))))))))))))
      (ssn_cons (sn_if (tn_not (tn_val (en_callB (cr_allP (K := K) rfl rfl) (by rfl) T.n_all (by decide +kernel) (an_cons (en_lc (own := [("_law_text_here", 4)]) (g := gName 4) (by rfl) sc_law.nd (pi_listK (K := K) rfl (pv 6)) (blkOk_by (own := [("_law_text_here", 4)]) (N := ["_law_script", "_law_k", "_law_pot_here", "_law_way", "_law_text_here", "_law_turn", "_law_fixed", "_law_things", "_law_thing"]) (sc := defScope s_law) (by decide +kernel)) (fun _ _ _ _ _ => pg_name (i := 4) sc_law.nd rfl (Or.inl rfl)) (fun _ _ _ _ _ => pts_nil) (fun _ _ _ _ _ hb => (en_call (okN_law_right T) (Nat.le_trans hm hb) (hr.mono (by decide)) (by rfl) T.m_law_right T.F_law_right.kp (b_law_right T) (an_cons (en_of (pv 4)) an_nil)))) an_nil)))) (ssn_of (pss_one (ps_ret pe_bl))) (ssn_of pss_nil))
      (ssn_cons (sn_of (ps_set (i := 7) sc_law.nd rfl (.inl rfl) (pe_lst (pa_cons pe_non (pa_cons pe_int (pa_cons pe_int (pa_cons pe_bl (pa_cons pe_bl (pa_cons (pe_lst pa_nil) (pa_cons (pe_lst (pa_cons pe_str pa_nil)) (pa_cons (pe_lst (pa_cons pe_str pa_nil)) (pa_cons (pe_lst (pa_cons pe_str (pa_cons pe_str pa_nil))) (pa_cons (pe_lst (pa_cons pe_int pa_nil)) (pa_cons (pe_tup pa_nil) (pa_cons (pe_tup (pa_cons pe_str pa_nil)) (pa_cons pe_dnewK (pa_cons (pe_disp (pps_cons pe_str pe_int pps_nil) rfl rfl (by exact List.cons_ne_nil _ _) (by exact (by decide))) pa_nil)))))))))))))))))
      (ssn_one (sn_ret (en_callB (cr_allP (K := K) rfl rfl) (by rfl) T.n_all (by decide +kernel) (an_cons (en_lc (own := [("_law_thing", 8)]) (g := gName 8) (by rfl) sc_law.nd (pi_listK (K := K) rfl (pv 7)) (blkOk_by (own := [("_law_thing", 8)]) (N := ["_law_script", "_law_k", "_law_pot_here", "_law_way", "_law_text_here", "_law_turn", "_law_fixed", "_law_things", "_law_thing"]) (sc := defScope s_law) (by decide +kernel)) (fun _ _ _ _ _ => pg_name (i := 8) sc_law.nd rfl (Or.inl rfl)) (fun _ _ _ _ _ => pts_nil) (fun _ _ _ _ _ hb => (en_cmpR (op_eqP (K := K) rfl hr.units) (en_call (okN_law_told T) (Nat.le_trans hm hb) (hr.mono (by decide)) (by rfl) T.m_law_told T.F_law_told.kp (b_law_told T) (an_cons (en_of (pv 8)) an_nil)) (en_of (pe_tup (pa_cons pe_str (pa_cons pe_bl (pa_cons pe_bl (pa_cons pe_bl pa_nil)))))) (nomark _)))) an_nil)))))))), run_body h (fun I E3 hW => (x_seq (x_for (i_r1 (s_cons (s_cb c_max2 (s_cons (s_c _) (s_cons (s_cb c_min2 (s_cons (s_cb c_len (s_cons (s_var 0) s_nil)) (s_cons (s_c _) s_nil))) s_nil))) s_nil)) (g_name 1)
      (x_seq (x_asg (s_call (s_cons (s_var 0) (s_cons (s_var 1) s_nil))) (g_name 2))
      (x_seq (x_asg (s_call (s_cons (s_var 2) (s_cons (s_c _) s_nil))) (g_name 3))
      (x_seq (x_asg (s_call (s_cons (s_var 2) (s_cons (s_c _) (s_cons (s_c _) s_nil)))) (g_name 4))
      (x_seq (x_if (s_test (s_op r_i2 (s_var 3) (s_c _))) (x_seq (x_asg (s_call (s_cons (s_call (s_cons (s_var 2) s_nil)) s_nil)) (g_name 4))
      (x_for (i_r1 (s_cons (s_op r_i2 (s_var 3) (s_c _)) s_nil)) (g_name 5)
      (x_asg (s_call (s_cons (s_var 2) (s_cons (s_var 4) s_nil))) (g_name 4)))) x_next)
      (x_if (s_not (s_tb (s_call (s_cons (s_var 4) s_nil)))) (x_ret (s_c _)) x_next))))))
      (x_seq (x_asg (s_lst (s_cons (s_c _) (s_cons (s_c _) (s_cons (s_c _) (s_cons (s_c _) (s_cons (s_c _) (s_cons (s_c _) (s_cons (s_c _) (s_cons (s_c _) (s_cons (s_c _) (s_cons (s_c _) (s_cons (s_c _) (s_cons (s_c _) (s_cons (s_c _) (s_cons (s_c _) s_nil))))))))))))))) (g_name 6))
      (x_seq (x_if (s_not (s_tb (s_cb c_all (s_cons (s_lc (i_list (s_var 6)) (gw_name (i := 4) (by decide)) s_yes (s_call (s_cons (s_var 4) s_nil))) s_nil)))) (x_ret (s_c _)) x_next)
      (x_seq (x_asg (s_lst (s_cons (s_c _) (s_cons (s_c _) (s_cons (s_c _) (s_cons (s_c _) (s_cons (s_c _) (s_cons (s_lst s_nil) (s_cons (s_lst (s_cons (s_c _) s_nil)) (s_cons (s_lst (s_cons (s_c _) s_nil)) (s_cons (s_lst (s_cons (s_c _) (s_cons (s_c _) s_nil))) (s_cons (s_lst (s_cons (s_c _) s_nil)) (s_cons (s_tup s_nil) (s_cons (s_tup (s_cons (s_c _) s_nil)) (s_cons s_dnew (s_cons (s_disp (SPs.cons (s_c _) (s_c _) SPs.nil)) s_nil))))))))))))))) (g_name 7))
      (x_ret (s_cb c_all (s_cons (s_lc (i_list (s_var 7)) (gw_name (i := 8) (by decide)) s_yes (s_op r_eq (s_call (s_cons (s_var 8) s_nil)) (s_tup (s_cons (s_c _) (s_cons (s_c _) (s_cons (s_c _) (s_cons (s_c _) s_nil))))))) s_nil)))))))) ?_⟩)
  · obtain ⟨ns, rfl, _⟩ := h; rfl
  · clear h
    intro ds μ Q E h
    obtain ⟨ns, rfl, hl, h⟩ := h
    walk_at "ev"
    refine ⟨by omega, ?_⟩
    refine for_inv (fun s' μ' => ∃ (r : List (Option D)), r.length = 8 ∧ s' = some (.ls (dInts ns)) :: r)
      ⟨_, rfl, rfl⟩ (fun s' μ' _ => rfl) (fun x s' μ1 hx hP N hN => ?_) (fun s' μ' hP => ?_)
    · obtain ⟨r, hr, rfl⟩ := hP
      replace hN : ∀ (r : List (Option D)) (μ2 : Mu), r.length = 8 → N (some (.ls (dInts ns)) :: r) μ2 := fun r μ' e => hN _ _ ⟨r, e, rfl⟩
      match r, hr with
      | [r1, r2, r3, r4, r5, r6, r7, r8], _ =>
      unfold ints3 at hx
      obtain ⟨j, hj, rfl⟩ := List.mem_map.mp hx
      have hj := List.mem_range.mp hj
      walk_at "ev"
      have hq : Gd (Str.ofString " 'a") := gd_of_ok (by decide +kernel)
      refine ⟨⟨ns, rfl⟩, by omega, by omega, fun d d0 d1 => ⟨by decide +kernel, by decide +kernel, fun t ht hc => iteI (fun hd ws hn hb => ⟨ws, rfl, by omega, fun w hw => by have := (hb w hw).1; omega, by omega, ?_⟩) fun hd => ⟨by omega, fun c hc' => hq c (hc c hc'), hN _ _ rfl⟩⟩⟩
      refine for_by (fun i s' μ' => ∃ (t : Str) (y : Option D), Gd t ∧ t.length ≤ 400 + 2 * i ∧ μ' = μ1 ++ [OC.inv PotV] ∧ s' = [some (D.ls (dInts ns)), some (D.v (V.int (0 + ↑j))), some (D.o (List.length μ1)), some (D.v (V.int d)), some (D.v (V.str t)), y, r6, r7, r8])
        ⟨_, _, ?_, ?_, rfl, rfl⟩ (fun i s' μ' _ => rfl) (fun i x s' μ' hi hx hP M hM => ?_) (fun s' μ' hP => ?_)
      · intro c hc
        have hc2 : c ∈ rowL (ws.map TL.tl) := by rw [← tl_rowT]; exact hc
        exact row_gd (fun w hw => (hb w hw).2) hc2
      · have := rowT_len (L := 12) fun w hw => (hb w hw).1
        have : ws.length * (2 * 12 + 3) ≤ 12 * (2 * 12 + 3) := Nat.mul_le_mul_right _ hn
        omega
      · obtain ⟨t2, y, hg, hl, rfl, rfl⟩ := hP
        rw [ints3_len] at hi
        walk_at "ev"
        exact ⟨hg, by omega, fun z gz hz => hM _ _ ⟨z, _, gz, by omega, rfl, rfl⟩⟩
      · obtain ⟨t2, y, hg, hl, rfl, rfl⟩ := hP
        rw [ints3_len] at hl
        walk_at "ev"
        exact ⟨by omega, hg, hN _ _ rfl⟩
    · obtain ⟨r, hr, rfl⟩ := hP
      match r, hr with
      | [r1, r2, r3, r4, r5, r6, r7, r8], _ =>
      simp only [LT_e]
      walk_at "ev"
      refine lc_mapT (xs := [Str.ofString "", Str.ofString " ", Str.ofString "'", Str.ofString "''", Str.ofString "'''", Str.ofString "''''", Str.ofString "a ", Str.ofString " a", Str.ofString "a  b", Str.ofString "'a'", Str.ofString "a'b", Str.ofString "'a b'c", Str.ofString "'' ''", Str.ofString "'a''b' c"]) (t := fun s => .v (.str s)) (fun _ => .v (.bl true)) rfl (by decide) (fun x hx k hk => ?_) ?_
      · have hx2 := fix_ok x (by unfold FIX; exact hx)
        walk_at "ev"
        exact ⟨hx2.1, hx2.2, hk⟩
      · rw [blsOf_map (fun _ => true)]
        walk_at "ev"
        refine lc_map (fun _ => some (.v (.bl true))) rfl (by decide) (fun x hx k hk => ?_) ?_
        · walk_at "ev"
          refine .inr ⟨hx, rd_sh, rd_sh, ?_⟩
          show k (some (.v (.bl (RD.eqv RD)))) _
          rw [rd_eq]
          exact hk
        · rw [show (LT.filterMap fun _ => some (D.v (.bl true))) = (LT.map fun _ => D.v (.bl true)) from rfl, blsOf_map (fun _ => true)]
          walk_at "ev"
          exact rt_keep (h _)
end
theorem all_mk {l : PySem.W.OpenLaw} {w : World} {K : PySem.W.Frag} {h : Heap} {mg : Str → Option Value} {fa : Addr} (X : K.In h) (G : h.Ns mainGlobals mg) (hfa : mg "law" = some (.ref fa))
    {f_word_text : Addr} {od_word_text an_word_text : Option Addr} {sl_word_text : Array (Option Value)} {oc_word_text kV_word_text dc_word_text pm_word_text cd_word_text ct_word_text : Value}
    {f_row_text : Addr} {od_row_text an_row_text : Option Addr} {sl_row_text : Array (Option Value)} {oc_row_text kV_row_text dc_row_text pm_row_text cd_row_text ct_row_text : Value}
    {f_bare_end : Addr} {od_bare_end an_bare_end : Option Addr} {sl_bare_end : Array (Option Value)} {oc_bare_end kV_bare_end dc_bare_end pm_bare_end cd_bare_end ct_bare_end : Value}
    {f_quoted_end : Addr} {od_quoted_end an_quoted_end : Option Addr} {sl_quoted_end : Array (Option Value)} {oc_quoted_end kV_quoted_end dc_quoted_end pm_quoted_end cd_quoted_end ct_quoted_end : Value}
    {f_words_of : Addr} {od_words_of an_words_of : Option Addr} {sl_words_of : Array (Option Value)} {oc_words_of kV_words_of dc_words_of pm_words_of cd_words_of ct_words_of : Value}
    {f_law_cell : Addr} {od_law_cell an_law_cell : Option Addr} {sl_law_cell : Array (Option Value)} {oc_law_cell kV_law_cell dc_law_cell pm_law_cell cd_law_cell ct_law_cell : Value}
    {f_law_pot : Addr} {od_law_pot an_law_pot : Option Addr} {sl_law_pot : Array (Option Value)} {oc_law_pot kV_law_pot dc_law_pot pm_law_pot cd_law_pot ct_law_pot : Value}
    {f_law_draw : Addr} {od_law_draw an_law_draw : Option Addr} {sl_law_draw : Array (Option Value)} {oc_law_draw kV_law_draw dc_law_draw pm_law_draw cd_law_draw ct_law_draw : Value}
    {f_law_signs : Addr} {od_law_signs an_law_signs : Option Addr} {sl_law_signs : Array (Option Value)} {oc_law_signs kV_law_signs dc_law_signs pm_law_signs cd_law_signs ct_law_signs : Value}
    {f_law_text : Addr} {od_law_text an_law_text : Option Addr} {sl_law_text : Array (Option Value)} {oc_law_text kV_law_text dc_law_text pm_law_text cd_law_text ct_law_text : Value}
    {f_law_written : Addr} {od_law_written an_law_written : Option Addr} {sl_law_written : Array (Option Value)} {oc_law_written kV_law_written dc_law_written pm_law_written cd_law_written ct_law_written : Value}
    {f_law_quoted : Addr} {od_law_quoted an_law_quoted : Option Addr} {sl_law_quoted : Array (Option Value)} {oc_law_quoted kV_law_quoted dc_law_quoted pm_law_quoted cd_law_quoted ct_law_quoted : Value}
    {f_law_bare : Addr} {od_law_bare an_law_bare : Option Addr} {sl_law_bare : Array (Option Value)} {oc_law_bare kV_law_bare dc_law_bare pm_law_bare cd_law_bare ct_law_bare : Value}
    {f_law_read : Addr} {od_law_read an_law_read : Option Addr} {sl_law_read : Array (Option Value)} {oc_law_read kV_law_read dc_law_read pm_law_read cd_law_read ct_law_read : Value}
    {f_law_is_other : Addr} {od_law_is_other an_law_is_other : Option Addr} {sl_law_is_other : Array (Option Value)} {oc_law_is_other kV_law_is_other dc_law_is_other pm_law_is_other cd_law_is_other ct_law_is_other : Value}
    {f_law_told : Addr} {od_law_told an_law_told : Option Addr} {sl_law_told : Array (Option Value)} {oc_law_told kV_law_told dc_law_told pm_law_told cd_law_told ct_law_told : Value}
    {f_law_right : Addr} {od_law_right an_law_right : Option Addr} {sl_law_right : Array (Option Value)} {oc_law_right kV_law_right dc_law_right pm_law_right cd_law_right ct_law_right : Value}
    {f_law_row : Addr} {od_law_row an_law_row : Option Addr} {sl_law_row : Array (Option Value)} {oc_law_row kV_law_row dc_law_row pm_law_row cd_law_row ct_law_row : Value}
    {f_law_spoilt : Addr} {od_law_spoilt an_law_spoilt : Option Addr} {sl_law_spoilt : Array (Option Value)} {oc_law_spoilt kV_law_spoilt dc_law_spoilt pm_law_spoilt cd_law_spoilt ct_law_spoilt : Value}
    {f_law : Addr} {od_law an_law : Option Addr} {sl_law : Array (Option Value)} {oc_law kV_law dc_law pm_law cd_law ct_law : Value}
    {C_BenchError N_BenchError : Addr} {nm_BenchError qn_BenchError : Str} {bs_BenchError sub_BenchError bm_BenchError : List Value} {sn_BenchError : List Str} {ab_BenchError : Bool} {col_BenchError : Option Bool} {dd_BenchError : Option Addr} {m0_BenchError m1_BenchError m2_BenchError m3_BenchError m5_BenchError : Option Value}
    {C_NoRow N_NoRow : Addr} {nm_NoRow qn_NoRow : Str} {bs_NoRow sub_NoRow bm_NoRow : List Value} {sn_NoRow : List Str} {ab_NoRow : Bool} {col_NoRow : Option Bool} {dd_NoRow : Option Addr} {m0_NoRow m1_NoRow m2_NoRow m3_NoRow m5_NoRow : Option Value}
    {C_BadDefault N_BadDefault : Addr} {nm_BadDefault qn_BadDefault : Str} {bs_BadDefault sub_BadDefault bm_BadDefault : List Value} {sn_BadDefault : List Str} {ab_BadDefault : Bool} {col_BadDefault : Option Bool} {dd_BadDefault : Option Addr} {m0_BadDefault m1_BadDefault m2_BadDefault m3_BadDefault m5_BadDefault : Option Value}
    {C_Clash N_Clash : Addr} {nm_Clash qn_Clash : Str} {bs_Clash sub_Clash bm_Clash : List Value} {sn_Clash : List Str} {ab_Clash : Bool} {col_Clash : Option Bool} {dd_Clash : Option Addr} {m0_Clash m1_Clash m2_Clash m3_Clash m5_Clash : Option Value}
    {C_Fault N_Fault : Addr} {nm_Fault qn_Fault : Str} {bs_Fault sub_Fault bm_Fault : List Value} {sn_Fault : List Str} {ab_Fault : Bool} {col_Fault : Option Bool} {dd_Fault : Option Addr} {m0_Fault m1_Fault m2_Fault m3_Fault m5_Fault : Option Value}
    {C_NoCommand N_NoCommand : Addr} {nm_NoCommand qn_NoCommand : Str} {bs_NoCommand sub_NoCommand bm_NoCommand : List Value} {sn_NoCommand : List Str} {ab_NoCommand : Bool} {col_NoCommand : Option Bool} {dd_NoCommand : Option Addr} {m0_NoCommand m1_NoCommand m2_NoCommand m3_NoCommand m5_NoCommand : Option Value}
    {C_NoMaker N_NoMaker : Addr} {nm_NoMaker qn_NoMaker : Str} {bs_NoMaker sub_NoMaker bm_NoMaker : List Value} {sn_NoMaker : List Str} {ab_NoMaker : Bool} {col_NoMaker : Option Bool} {dd_NoMaker : Option Addr} {m0_NoMaker m1_NoMaker m2_NoMaker m3_NoMaker m5_NoMaker : Option Value}
    {C_NoName N_NoName : Addr} {nm_NoName qn_NoName : Str} {bs_NoName sub_NoName bm_NoName : List Value} {sn_NoName : List Str} {ab_NoName : Bool} {col_NoName : Option Bool} {dd_NoName : Option Addr} {m0_NoName m1_NoName m2_NoName m3_NoName m5_NoName : Option Value}
    {C_NoOption N_NoOption : Addr} {nm_NoOption qn_NoOption : Str} {bs_NoOption sub_NoOption bm_NoOption : List Value} {sn_NoOption : List Str} {ab_NoOption : Bool} {col_NoOption : Option Bool} {dd_NoOption : Option Addr} {m0_NoOption m1_NoOption m2_NoOption m3_NoOption m5_NoOption : Option Value}
    {C_NoPlace N_NoPlace : Addr} {nm_NoPlace qn_NoPlace : Str} {bs_NoPlace sub_NoPlace bm_NoPlace : List Value} {sn_NoPlace : List Str} {ab_NoPlace : Bool} {col_NoPlace : Option Bool} {dd_NoPlace : Option Addr} {m0_NoPlace m1_NoPlace m2_NoPlace m3_NoPlace m5_NoPlace : Option Value}
    {C_Unmade N_Unmade : Addr} {nm_Unmade qn_Unmade : Str} {bs_Unmade sub_Unmade bm_Unmade : List Value} {sn_Unmade : List Str} {ab_Unmade : Bool} {col_Unmade : Option Bool} {dd_Unmade : Option Addr} {m0_Unmade m1_Unmade m2_Unmade m3_Unmade m5_Unmade : Option Value}
    {t_BLANK t_QUOTE : Tok}
    (aC_BenchError : PySem.W.nsIn K mainGlobals "BenchError" = some (some (.ref C_BenchError)))
    (xL_BenchError : K.lookup C_BenchError = some (excClassObj nm_BenchError qn_BenchError C_BenchError N_BenchError bs_BenchError bm_BenchError true sn_BenchError sub_BenchError ab_BenchError col_BenchError dd_BenchError m0_BenchError m1_BenchError m2_BenchError m3_BenchError m5_BenchError "ValueError.__new__"))
    (rv_BenchError : PySem.HandSPX.refsVE bm_BenchError = true)
    (sa_BenchError : PySem.W.findIn K (.ref C_BenchError) "__setattr__" = some (some (.builtin "object.__setattr__")))
    (ga_BenchError : PySem.W.findIn K (.ref C_BenchError) "__getattribute__" = some (some (.builtin "BaseException.__getattribute__")))
    (gg_BenchError : PySem.W.findIn K (.ref C_BenchError) "__getattr__" = some none)
    (eC_BenchError : PySem.W.subIn K (.ref C_BenchError) (.type "BaseException") = some true)
    (tC_BenchError : PySem.W.typeIn K (.ref C_BenchError) = some (.type "type"))
    (kC_BenchError : PySem.W.keepIn K (.ref C_BenchError) = true)
    (hC_BenchError : PySem.W.hasDictIn K C_BenchError = true)
    (ha_BenchError : PySem.W.findIn K (.ref C_BenchError) "__class__" = some (some (.builtin "object.__class__")))
    (hm_BenchError : PySem.W.mroIn K C_BenchError (.type "object") = some true)
    (aC_NoRow : PySem.W.nsIn K mainGlobals "NoRow" = some (some (.ref C_NoRow)))
    (xL_NoRow : K.lookup C_NoRow = some (excClassObj nm_NoRow qn_NoRow C_NoRow N_NoRow bs_NoRow bm_NoRow true sn_NoRow sub_NoRow ab_NoRow col_NoRow dd_NoRow m0_NoRow m1_NoRow m2_NoRow m3_NoRow m5_NoRow "ValueError.__new__"))
    (rv_NoRow : PySem.HandSPX.refsVE bm_NoRow = true)
    (sa_NoRow : PySem.W.findIn K (.ref C_NoRow) "__setattr__" = some (some (.builtin "object.__setattr__")))
    (ga_NoRow : PySem.W.findIn K (.ref C_NoRow) "__getattribute__" = some (some (.builtin "BaseException.__getattribute__")))
    (gg_NoRow : PySem.W.findIn K (.ref C_NoRow) "__getattr__" = some none)
    (eC_NoRow : PySem.W.subIn K (.ref C_NoRow) (.type "BaseException") = some true)
    (tC_NoRow : PySem.W.typeIn K (.ref C_NoRow) = some (.type "type"))
    (kC_NoRow : PySem.W.keepIn K (.ref C_NoRow) = true)
    (hC_NoRow : PySem.W.hasDictIn K C_NoRow = true)
    (ha_NoRow : PySem.W.findIn K (.ref C_NoRow) "__class__" = some (some (.builtin "object.__class__")))
    (hm_NoRow : PySem.W.mroIn K C_NoRow (.type "object") = some true)
    (aC_BadDefault : PySem.W.nsIn K mainGlobals "BadDefault" = some (some (.ref C_BadDefault)))
    (xL_BadDefault : K.lookup C_BadDefault = some (excClassObj nm_BadDefault qn_BadDefault C_BadDefault N_BadDefault bs_BadDefault bm_BadDefault true sn_BadDefault sub_BadDefault ab_BadDefault col_BadDefault dd_BadDefault m0_BadDefault m1_BadDefault m2_BadDefault m3_BadDefault m5_BadDefault "ValueError.__new__"))
    (rv_BadDefault : PySem.HandSPX.refsVE bm_BadDefault = true)
    (sa_BadDefault : PySem.W.findIn K (.ref C_BadDefault) "__setattr__" = some (some (.builtin "object.__setattr__")))
    (ga_BadDefault : PySem.W.findIn K (.ref C_BadDefault) "__getattribute__" = some (some (.builtin "BaseException.__getattribute__")))
    (gg_BadDefault : PySem.W.findIn K (.ref C_BadDefault) "__getattr__" = some none)
    (eC_BadDefault : PySem.W.subIn K (.ref C_BadDefault) (.type "BaseException") = some true)
    (tC_BadDefault : PySem.W.typeIn K (.ref C_BadDefault) = some (.type "type"))
    (kC_BadDefault : PySem.W.keepIn K (.ref C_BadDefault) = true)
    (hC_BadDefault : PySem.W.hasDictIn K C_BadDefault = true)
    (ha_BadDefault : PySem.W.findIn K (.ref C_BadDefault) "__class__" = some (some (.builtin "object.__class__")))
    (hm_BadDefault : PySem.W.mroIn K C_BadDefault (.type "object") = some true)
    (aC_Clash : PySem.W.nsIn K mainGlobals "Clash" = some (some (.ref C_Clash)))
    (xL_Clash : K.lookup C_Clash = some (excClassObj nm_Clash qn_Clash C_Clash N_Clash bs_Clash bm_Clash true sn_Clash sub_Clash ab_Clash col_Clash dd_Clash m0_Clash m1_Clash m2_Clash m3_Clash m5_Clash "ValueError.__new__"))
    (rv_Clash : PySem.HandSPX.refsVE bm_Clash = true)
    (sa_Clash : PySem.W.findIn K (.ref C_Clash) "__setattr__" = some (some (.builtin "object.__setattr__")))
    (ga_Clash : PySem.W.findIn K (.ref C_Clash) "__getattribute__" = some (some (.builtin "BaseException.__getattribute__")))
    (gg_Clash : PySem.W.findIn K (.ref C_Clash) "__getattr__" = some none)
    (eC_Clash : PySem.W.subIn K (.ref C_Clash) (.type "BaseException") = some true)
    (tC_Clash : PySem.W.typeIn K (.ref C_Clash) = some (.type "type"))
    (kC_Clash : PySem.W.keepIn K (.ref C_Clash) = true)
    (hC_Clash : PySem.W.hasDictIn K C_Clash = true)
    (ha_Clash : PySem.W.findIn K (.ref C_Clash) "__class__" = some (some (.builtin "object.__class__")))
    (hm_Clash : PySem.W.mroIn K C_Clash (.type "object") = some true)
    (aC_Fault : PySem.W.nsIn K mainGlobals "Fault" = some (some (.ref C_Fault)))
    (xL_Fault : K.lookup C_Fault = some (excClassObj nm_Fault qn_Fault C_Fault N_Fault bs_Fault bm_Fault true sn_Fault sub_Fault ab_Fault col_Fault dd_Fault m0_Fault m1_Fault m2_Fault m3_Fault m5_Fault "ValueError.__new__"))
    (rv_Fault : PySem.HandSPX.refsVE bm_Fault = true)
    (sa_Fault : PySem.W.findIn K (.ref C_Fault) "__setattr__" = some (some (.builtin "object.__setattr__")))
    (ga_Fault : PySem.W.findIn K (.ref C_Fault) "__getattribute__" = some (some (.builtin "BaseException.__getattribute__")))
    (gg_Fault : PySem.W.findIn K (.ref C_Fault) "__getattr__" = some none)
    (eC_Fault : PySem.W.subIn K (.ref C_Fault) (.type "BaseException") = some true)
    (tC_Fault : PySem.W.typeIn K (.ref C_Fault) = some (.type "type"))
    (kC_Fault : PySem.W.keepIn K (.ref C_Fault) = true)
    (hC_Fault : PySem.W.hasDictIn K C_Fault = true)
    (ha_Fault : PySem.W.findIn K (.ref C_Fault) "__class__" = some (some (.builtin "object.__class__")))
    (hm_Fault : PySem.W.mroIn K C_Fault (.type "object") = some true)
    (aC_NoCommand : PySem.W.nsIn K mainGlobals "NoCommand" = some (some (.ref C_NoCommand)))
    (xL_NoCommand : K.lookup C_NoCommand = some (excClassObj nm_NoCommand qn_NoCommand C_NoCommand N_NoCommand bs_NoCommand bm_NoCommand true sn_NoCommand sub_NoCommand ab_NoCommand col_NoCommand dd_NoCommand m0_NoCommand m1_NoCommand m2_NoCommand m3_NoCommand m5_NoCommand "ValueError.__new__"))
    (rv_NoCommand : PySem.HandSPX.refsVE bm_NoCommand = true)
    (sa_NoCommand : PySem.W.findIn K (.ref C_NoCommand) "__setattr__" = some (some (.builtin "object.__setattr__")))
    (ga_NoCommand : PySem.W.findIn K (.ref C_NoCommand) "__getattribute__" = some (some (.builtin "BaseException.__getattribute__")))
    (gg_NoCommand : PySem.W.findIn K (.ref C_NoCommand) "__getattr__" = some none)
    (eC_NoCommand : PySem.W.subIn K (.ref C_NoCommand) (.type "BaseException") = some true)
    (tC_NoCommand : PySem.W.typeIn K (.ref C_NoCommand) = some (.type "type"))
    (kC_NoCommand : PySem.W.keepIn K (.ref C_NoCommand) = true)
    (hC_NoCommand : PySem.W.hasDictIn K C_NoCommand = true)
    (ha_NoCommand : PySem.W.findIn K (.ref C_NoCommand) "__class__" = some (some (.builtin "object.__class__")))
    (hm_NoCommand : PySem.W.mroIn K C_NoCommand (.type "object") = some true)
    (aC_NoMaker : PySem.W.nsIn K mainGlobals "NoMaker" = some (some (.ref C_NoMaker)))
    (xL_NoMaker : K.lookup C_NoMaker = some (excClassObj nm_NoMaker qn_NoMaker C_NoMaker N_NoMaker bs_NoMaker bm_NoMaker true sn_NoMaker sub_NoMaker ab_NoMaker col_NoMaker dd_NoMaker m0_NoMaker m1_NoMaker m2_NoMaker m3_NoMaker m5_NoMaker "ValueError.__new__"))
    (rv_NoMaker : PySem.HandSPX.refsVE bm_NoMaker = true)
    (sa_NoMaker : PySem.W.findIn K (.ref C_NoMaker) "__setattr__" = some (some (.builtin "object.__setattr__")))
    (ga_NoMaker : PySem.W.findIn K (.ref C_NoMaker) "__getattribute__" = some (some (.builtin "BaseException.__getattribute__")))
    (gg_NoMaker : PySem.W.findIn K (.ref C_NoMaker) "__getattr__" = some none)
    (eC_NoMaker : PySem.W.subIn K (.ref C_NoMaker) (.type "BaseException") = some true)
    (tC_NoMaker : PySem.W.typeIn K (.ref C_NoMaker) = some (.type "type"))
    (kC_NoMaker : PySem.W.keepIn K (.ref C_NoMaker) = true)
    (hC_NoMaker : PySem.W.hasDictIn K C_NoMaker = true)
    (ha_NoMaker : PySem.W.findIn K (.ref C_NoMaker) "__class__" = some (some (.builtin "object.__class__")))
    (hm_NoMaker : PySem.W.mroIn K C_NoMaker (.type "object") = some true)
    (aC_NoName : PySem.W.nsIn K mainGlobals "NoName" = some (some (.ref C_NoName)))
    (xL_NoName : K.lookup C_NoName = some (excClassObj nm_NoName qn_NoName C_NoName N_NoName bs_NoName bm_NoName true sn_NoName sub_NoName ab_NoName col_NoName dd_NoName m0_NoName m1_NoName m2_NoName m3_NoName m5_NoName "ValueError.__new__"))
    (rv_NoName : PySem.HandSPX.refsVE bm_NoName = true)
    (sa_NoName : PySem.W.findIn K (.ref C_NoName) "__setattr__" = some (some (.builtin "object.__setattr__")))
    (ga_NoName : PySem.W.findIn K (.ref C_NoName) "__getattribute__" = some (some (.builtin "BaseException.__getattribute__")))
    (gg_NoName : PySem.W.findIn K (.ref C_NoName) "__getattr__" = some none)
    (eC_NoName : PySem.W.subIn K (.ref C_NoName) (.type "BaseException") = some true)
    (tC_NoName : PySem.W.typeIn K (.ref C_NoName) = some (.type "type"))
    (kC_NoName : PySem.W.keepIn K (.ref C_NoName) = true)
    (hC_NoName : PySem.W.hasDictIn K C_NoName = true)
    (ha_NoName : PySem.W.findIn K (.ref C_NoName) "__class__" = some (some (.builtin "object.__class__")))
    (hm_NoName : PySem.W.mroIn K C_NoName (.type "object") = some true)
    (aC_NoOption : PySem.W.nsIn K mainGlobals "NoOption" = some (some (.ref C_NoOption)))
    (xL_NoOption : K.lookup C_NoOption = some (excClassObj nm_NoOption qn_NoOption C_NoOption N_NoOption bs_NoOption bm_NoOption true sn_NoOption sub_NoOption ab_NoOption col_NoOption dd_NoOption m0_NoOption m1_NoOption m2_NoOption m3_NoOption m5_NoOption "ValueError.__new__"))
    (rv_NoOption : PySem.HandSPX.refsVE bm_NoOption = true)
    (sa_NoOption : PySem.W.findIn K (.ref C_NoOption) "__setattr__" = some (some (.builtin "object.__setattr__")))
    (ga_NoOption : PySem.W.findIn K (.ref C_NoOption) "__getattribute__" = some (some (.builtin "BaseException.__getattribute__")))
    (gg_NoOption : PySem.W.findIn K (.ref C_NoOption) "__getattr__" = some none)
    (eC_NoOption : PySem.W.subIn K (.ref C_NoOption) (.type "BaseException") = some true)
    (tC_NoOption : PySem.W.typeIn K (.ref C_NoOption) = some (.type "type"))
    (kC_NoOption : PySem.W.keepIn K (.ref C_NoOption) = true)
    (hC_NoOption : PySem.W.hasDictIn K C_NoOption = true)
    (ha_NoOption : PySem.W.findIn K (.ref C_NoOption) "__class__" = some (some (.builtin "object.__class__")))
    (hm_NoOption : PySem.W.mroIn K C_NoOption (.type "object") = some true)
    (aC_NoPlace : PySem.W.nsIn K mainGlobals "NoPlace" = some (some (.ref C_NoPlace)))
    (xL_NoPlace : K.lookup C_NoPlace = some (excClassObj nm_NoPlace qn_NoPlace C_NoPlace N_NoPlace bs_NoPlace bm_NoPlace true sn_NoPlace sub_NoPlace ab_NoPlace col_NoPlace dd_NoPlace m0_NoPlace m1_NoPlace m2_NoPlace m3_NoPlace m5_NoPlace "ValueError.__new__"))
    (rv_NoPlace : PySem.HandSPX.refsVE bm_NoPlace = true)
    (sa_NoPlace : PySem.W.findIn K (.ref C_NoPlace) "__setattr__" = some (some (.builtin "object.__setattr__")))
    (ga_NoPlace : PySem.W.findIn K (.ref C_NoPlace) "__getattribute__" = some (some (.builtin "BaseException.__getattribute__")))
    (gg_NoPlace : PySem.W.findIn K (.ref C_NoPlace) "__getattr__" = some none)
    (eC_NoPlace : PySem.W.subIn K (.ref C_NoPlace) (.type "BaseException") = some true)
    (tC_NoPlace : PySem.W.typeIn K (.ref C_NoPlace) = some (.type "type"))
    (kC_NoPlace : PySem.W.keepIn K (.ref C_NoPlace) = true)
    (hC_NoPlace : PySem.W.hasDictIn K C_NoPlace = true)
    (ha_NoPlace : PySem.W.findIn K (.ref C_NoPlace) "__class__" = some (some (.builtin "object.__class__")))
    (hm_NoPlace : PySem.W.mroIn K C_NoPlace (.type "object") = some true)
    (aC_Unmade : PySem.W.nsIn K mainGlobals "Unmade" = some (some (.ref C_Unmade)))
    (xL_Unmade : K.lookup C_Unmade = some (excClassObj nm_Unmade qn_Unmade C_Unmade N_Unmade bs_Unmade bm_Unmade true sn_Unmade sub_Unmade ab_Unmade col_Unmade dd_Unmade m0_Unmade m1_Unmade m2_Unmade m3_Unmade m5_Unmade "ValueError.__new__"))
    (rv_Unmade : PySem.HandSPX.refsVE bm_Unmade = true)
    (sa_Unmade : PySem.W.findIn K (.ref C_Unmade) "__setattr__" = some (some (.builtin "object.__setattr__")))
    (ga_Unmade : PySem.W.findIn K (.ref C_Unmade) "__getattribute__" = some (some (.builtin "BaseException.__getattribute__")))
    (gg_Unmade : PySem.W.findIn K (.ref C_Unmade) "__getattr__" = some none)
    (eC_Unmade : PySem.W.subIn K (.ref C_Unmade) (.type "BaseException") = some true)
    (tC_Unmade : PySem.W.typeIn K (.ref C_Unmade) = some (.type "type"))
    (kC_Unmade : PySem.W.keepIn K (.ref C_Unmade) = true)
    (hC_Unmade : PySem.W.hasDictIn K C_Unmade = true)
    (ha_Unmade : PySem.W.findIn K (.ref C_Unmade) "__class__" = some (some (.builtin "object.__class__")))
    (hm_Unmade : PySem.W.mroIn K C_Unmade (.type "object") = some true)
    (hn_ : PySem.W.specialIn K (.builtin "object.__class__") "__get__" = some (some (.builtin "getset_descriptor.__get__")))
    (ht_ : PySem.W.takesIn K (.builtin "object.__class__") = some true)
    (a_word_text : PySem.W.nsIn K mainGlobals "word_text" = some (some (.ref f_word_text)))
    (l_word_text : K.lookup f_word_text = some ⟨oc_word_text, od_word_text, .func (PySem.W.fnOf "word_text" "word_text" (defArgs s_word_text) (defBody s_word_text) (defScope s_word_text) .none kV_word_text dc_word_text pm_word_text an_word_text cd_word_text ct_word_text), sl_word_text⟩)
    (c_word_text : PySem.W.codeIn K cd_word_text "word_text" = true)
    (k_word_text : PySem.W.keepIn K (.ref f_word_text) = true)
    (a_row_text : PySem.W.nsIn K mainGlobals "row_text" = some (some (.ref f_row_text)))
    (l_row_text : K.lookup f_row_text = some ⟨oc_row_text, od_row_text, .func (PySem.W.fnOf "row_text" "row_text" (defArgs s_row_text) (defBody s_row_text) (defScope s_row_text) .none kV_row_text dc_row_text pm_row_text an_row_text cd_row_text ct_row_text), sl_row_text⟩)
    (c_row_text : PySem.W.codeIn K cd_row_text "row_text" = true)
    (k_row_text : PySem.W.keepIn K (.ref f_row_text) = true)
    (a_bare_end : PySem.W.nsIn K mainGlobals "bare_end" = some (some (.ref f_bare_end)))
    (l_bare_end : K.lookup f_bare_end = some ⟨oc_bare_end, od_bare_end, .func (PySem.W.fnOf "bare_end" "bare_end" (defArgs s_bare_end) (defBody s_bare_end) (defScope s_bare_end) .none kV_bare_end dc_bare_end pm_bare_end an_bare_end cd_bare_end ct_bare_end), sl_bare_end⟩)
    (c_bare_end : PySem.W.codeIn K cd_bare_end "bare_end" = true)
    (k_bare_end : PySem.W.keepIn K (.ref f_bare_end) = true)
    (a_quoted_end : PySem.W.nsIn K mainGlobals "quoted_end" = some (some (.ref f_quoted_end)))
    (l_quoted_end : K.lookup f_quoted_end = some ⟨oc_quoted_end, od_quoted_end, .func (PySem.W.fnOf "quoted_end" "quoted_end" (defArgs s_quoted_end) (defBody s_quoted_end) (defScope s_quoted_end) .none kV_quoted_end dc_quoted_end pm_quoted_end an_quoted_end cd_quoted_end ct_quoted_end), sl_quoted_end⟩)
    (c_quoted_end : PySem.W.codeIn K cd_quoted_end "quoted_end" = true)
    (k_quoted_end : PySem.W.keepIn K (.ref f_quoted_end) = true)
    (a_words_of : PySem.W.nsIn K mainGlobals "words_of" = some (some (.ref f_words_of)))
    (l_words_of : K.lookup f_words_of = some ⟨oc_words_of, od_words_of, .func (PySem.W.fnOf "words_of" "words_of" (defArgs s_words_of) (defBody s_words_of) (defScope s_words_of) .none kV_words_of dc_words_of pm_words_of an_words_of cd_words_of ct_words_of), sl_words_of⟩)
    (c_words_of : PySem.W.codeIn K cd_words_of "words_of" = true)
    (k_words_of : PySem.W.keepIn K (.ref f_words_of) = true)
    (a_law_cell : PySem.W.nsIn K mainGlobals "_law_cell" = some (some (.ref f_law_cell)))
    (l_law_cell : K.lookup f_law_cell = some ⟨oc_law_cell, od_law_cell, .func (PySem.W.fnOf "_law_cell" "_law_cell" (defArgs s_law_cell) (defBody s_law_cell) (defScope s_law_cell) .none kV_law_cell dc_law_cell pm_law_cell an_law_cell cd_law_cell ct_law_cell), sl_law_cell⟩)
    (c_law_cell : PySem.W.codeIn K cd_law_cell "_law_cell" = true)
    (k_law_cell : PySem.W.keepIn K (.ref f_law_cell) = true)
    (a_law_pot : PySem.W.nsIn K mainGlobals "_law_pot" = some (some (.ref f_law_pot)))
    (l_law_pot : K.lookup f_law_pot = some ⟨oc_law_pot, od_law_pot, .func (PySem.W.fnOf "_law_pot" "_law_pot" (defArgs s_law_pot) (defBody s_law_pot) (defScope s_law_pot) .none kV_law_pot dc_law_pot pm_law_pot an_law_pot cd_law_pot ct_law_pot), sl_law_pot⟩)
    (c_law_pot : PySem.W.codeIn K cd_law_pot "_law_pot" = true)
    (k_law_pot : PySem.W.keepIn K (.ref f_law_pot) = true)
    (a_law_draw : PySem.W.nsIn K mainGlobals "_law_draw" = some (some (.ref f_law_draw)))
    (l_law_draw : K.lookup f_law_draw = some ⟨oc_law_draw, od_law_draw, .func (PySem.W.fnOf "_law_draw" "_law_draw" (defArgs s_law_draw) (defBody s_law_draw) (defScope s_law_draw) .none kV_law_draw dc_law_draw pm_law_draw an_law_draw cd_law_draw ct_law_draw), sl_law_draw⟩)
    (c_law_draw : PySem.W.codeIn K cd_law_draw "_law_draw" = true)
    (k_law_draw : PySem.W.keepIn K (.ref f_law_draw) = true)
    (a_law_signs : PySem.W.nsIn K mainGlobals "_law_signs" = some (some (.ref f_law_signs)))
    (l_law_signs : K.lookup f_law_signs = some ⟨oc_law_signs, od_law_signs, .func (PySem.W.fnOf "_law_signs" "_law_signs" (defArgs s_law_signs) (defBody s_law_signs) (defScope s_law_signs) .none kV_law_signs dc_law_signs pm_law_signs an_law_signs cd_law_signs ct_law_signs), sl_law_signs⟩)
    (c_law_signs : PySem.W.codeIn K cd_law_signs "_law_signs" = true)
    (k_law_signs : PySem.W.keepIn K (.ref f_law_signs) = true)
    (a_law_text : PySem.W.nsIn K mainGlobals "_law_text" = some (some (.ref f_law_text)))
    (l_law_text : K.lookup f_law_text = some ⟨oc_law_text, od_law_text, .func (PySem.W.fnOf "_law_text" "_law_text" (defArgs s_law_text) (defBody s_law_text) (defScope s_law_text) .none kV_law_text dc_law_text pm_law_text an_law_text cd_law_text ct_law_text), sl_law_text⟩)
    (c_law_text : PySem.W.codeIn K cd_law_text "_law_text" = true)
    (k_law_text : PySem.W.keepIn K (.ref f_law_text) = true)
    (a_law_written : PySem.W.nsIn K mainGlobals "_law_written" = some (some (.ref f_law_written)))
    (l_law_written : K.lookup f_law_written = some ⟨oc_law_written, od_law_written, .func (PySem.W.fnOf "_law_written" "_law_written" (defArgs s_law_written) (defBody s_law_written) (defScope s_law_written) .none kV_law_written dc_law_written pm_law_written an_law_written cd_law_written ct_law_written), sl_law_written⟩)
    (c_law_written : PySem.W.codeIn K cd_law_written "_law_written" = true)
    (k_law_written : PySem.W.keepIn K (.ref f_law_written) = true)
    (a_law_quoted : PySem.W.nsIn K mainGlobals "_law_quoted" = some (some (.ref f_law_quoted)))
    (l_law_quoted : K.lookup f_law_quoted = some ⟨oc_law_quoted, od_law_quoted, .func (PySem.W.fnOf "_law_quoted" "_law_quoted" (defArgs s_law_quoted) (defBody s_law_quoted) (defScope s_law_quoted) .none kV_law_quoted dc_law_quoted pm_law_quoted an_law_quoted cd_law_quoted ct_law_quoted), sl_law_quoted⟩)
    (c_law_quoted : PySem.W.codeIn K cd_law_quoted "_law_quoted" = true)
    (k_law_quoted : PySem.W.keepIn K (.ref f_law_quoted) = true)
    (a_law_bare : PySem.W.nsIn K mainGlobals "_law_bare" = some (some (.ref f_law_bare)))
    (l_law_bare : K.lookup f_law_bare = some ⟨oc_law_bare, od_law_bare, .func (PySem.W.fnOf "_law_bare" "_law_bare" (defArgs s_law_bare) (defBody s_law_bare) (defScope s_law_bare) .none kV_law_bare dc_law_bare pm_law_bare an_law_bare cd_law_bare ct_law_bare), sl_law_bare⟩)
    (c_law_bare : PySem.W.codeIn K cd_law_bare "_law_bare" = true)
    (k_law_bare : PySem.W.keepIn K (.ref f_law_bare) = true)
    (a_law_read : PySem.W.nsIn K mainGlobals "_law_read" = some (some (.ref f_law_read)))
    (l_law_read : K.lookup f_law_read = some ⟨oc_law_read, od_law_read, .func (PySem.W.fnOf "_law_read" "_law_read" (defArgs s_law_read) (defBody s_law_read) (defScope s_law_read) .none kV_law_read dc_law_read pm_law_read an_law_read cd_law_read ct_law_read), sl_law_read⟩)
    (c_law_read : PySem.W.codeIn K cd_law_read "_law_read" = true)
    (k_law_read : PySem.W.keepIn K (.ref f_law_read) = true)
    (a_law_is_other : PySem.W.nsIn K mainGlobals "_law_is_other" = some (some (.ref f_law_is_other)))
    (l_law_is_other : K.lookup f_law_is_other = some ⟨oc_law_is_other, od_law_is_other, .func (PySem.W.fnOf "_law_is_other" "_law_is_other" (defArgs s_law_is_other) (defBody s_law_is_other) (defScope s_law_is_other) .none kV_law_is_other dc_law_is_other pm_law_is_other an_law_is_other cd_law_is_other ct_law_is_other), sl_law_is_other⟩)
    (c_law_is_other : PySem.W.codeIn K cd_law_is_other "_law_is_other" = true)
    (k_law_is_other : PySem.W.keepIn K (.ref f_law_is_other) = true)
    (a_law_told : PySem.W.nsIn K mainGlobals "_law_told" = some (some (.ref f_law_told)))
    (l_law_told : K.lookup f_law_told = some ⟨oc_law_told, od_law_told, .func (PySem.W.fnOf "_law_told" "_law_told" (defArgs s_law_told) (defBody s_law_told) (defScope s_law_told) .none kV_law_told dc_law_told pm_law_told an_law_told cd_law_told ct_law_told), sl_law_told⟩)
    (c_law_told : PySem.W.codeIn K cd_law_told "_law_told" = true)
    (k_law_told : PySem.W.keepIn K (.ref f_law_told) = true)
    (a_law_right : PySem.W.nsIn K mainGlobals "_law_right" = some (some (.ref f_law_right)))
    (l_law_right : K.lookup f_law_right = some ⟨oc_law_right, od_law_right, .func (PySem.W.fnOf "_law_right" "_law_right" (defArgs s_law_right) (defBody s_law_right) (defScope s_law_right) .none kV_law_right dc_law_right pm_law_right an_law_right cd_law_right ct_law_right), sl_law_right⟩)
    (c_law_right : PySem.W.codeIn K cd_law_right "_law_right" = true)
    (k_law_right : PySem.W.keepIn K (.ref f_law_right) = true)
    (a_law_row : PySem.W.nsIn K mainGlobals "_law_row" = some (some (.ref f_law_row)))
    (l_law_row : K.lookup f_law_row = some ⟨oc_law_row, od_law_row, .func (PySem.W.fnOf "_law_row" "_law_row" (defArgs s_law_row) (defBody s_law_row) (defScope s_law_row) .none kV_law_row dc_law_row pm_law_row an_law_row cd_law_row ct_law_row), sl_law_row⟩)
    (c_law_row : PySem.W.codeIn K cd_law_row "_law_row" = true)
    (k_law_row : PySem.W.keepIn K (.ref f_law_row) = true)
    (a_law_spoilt : PySem.W.nsIn K mainGlobals "_law_spoilt" = some (some (.ref f_law_spoilt)))
    (l_law_spoilt : K.lookup f_law_spoilt = some ⟨oc_law_spoilt, od_law_spoilt, .func (PySem.W.fnOf "_law_spoilt" "_law_spoilt" (defArgs s_law_spoilt) (defBody s_law_spoilt) (defScope s_law_spoilt) .none kV_law_spoilt dc_law_spoilt pm_law_spoilt an_law_spoilt cd_law_spoilt ct_law_spoilt), sl_law_spoilt⟩)
    (c_law_spoilt : PySem.W.codeIn K cd_law_spoilt "_law_spoilt" = true)
    (k_law_spoilt : PySem.W.keepIn K (.ref f_law_spoilt) = true)
    (a_law : PySem.W.nsIn K mainGlobals "law" = some (some (.ref f_law)))
    (l_law : K.lookup f_law = some ⟨oc_law, od_law, .func (PySem.W.fnOf "law" "law" (defArgs s_law) (defBody s_law) (defScope s_law) .none kV_law dc_law pm_law an_law cd_law ct_law), sl_law⟩)
    (c_law : PySem.W.codeIn K cd_law "law" = true)
    (k_law : PySem.W.keepIn K (.ref f_law) = true)
    (z_ValueError : PySem.W.nsIn K mainGlobals "ValueError" = some none)
    (z_all : PySem.W.nsIn K mainGlobals "all" = some none)
    (z_divmod : PySem.W.nsIn K mainGlobals "divmod" = some none)
    (z_enumerate : PySem.W.nsIn K mainGlobals "enumerate" = some none)
    (z_int : PySem.W.nsIn K mainGlobals "int" = some none)
    (z_isinstance : PySem.W.nsIn K mainGlobals "isinstance" = some none)
    (z_len : PySem.W.nsIn K mainGlobals "len" = some none)
    (z_list : PySem.W.nsIn K mainGlobals "list" = some none)
    (z_max : PySem.W.nsIn K mainGlobals "max" = some none)
    (z_min : PySem.W.nsIn K mainGlobals "min" = some none)
    (z_range : PySem.W.nsIn K mainGlobals "range" = some none)
    (z_str : PySem.W.nsIn K mainGlobals "str" = some none)
    (xi_NoRow : PySem.W.excIn K C_NoRow [.type "ValueError", .type "Exception", .type "BaseException", .type "object"] "ValueError.__new__" = true)
    (ex_NoRow_BenchError : PySem.W.exmOne K (.ref C_NoRow) (.ref C_BenchError) = some true)
    (ki_NoRow_NoRow : PySem.W.kitOne K (.ref C_NoRow) (.ref C_NoRow) = some true)
    (ki_NoRow_ValueError : PySem.W.kitOne K (.ref C_NoRow) (.type "ValueError") = some true)
    (ki_any_NoRow_BadDefault : PySem.W.kitAny K (.ref C_NoRow) [(.ref C_BadDefault), (.ref C_Clash), (.ref C_Fault), (.ref C_NoCommand), (.ref C_NoMaker), (.ref C_NoName), (.ref C_NoOption), (.ref C_NoPlace), (.ref C_Unmade)] = some false)
    (v_BLANK : PySem.W.nsIn K mainGlobals "BLANK" = some (some (.str (Str.ofString " ") t_BLANK)))
    (v_QUOTE : PySem.W.nsIn K mainGlobals "QUOTE" = some (some (.str (Str.ofString "'") t_QUOTE)))
    (tz_QUOTE : t_QUOTE ≠ 0 ∧ t_QUOTE < 464)
    : ∃ fd : FuncData, (∀ (s : Shared) (v : Value), BindsTo s fd ⟨[v], []⟩ [("_law_script", v)]) ∧ ∀ base : Heap, K.In base → base.Ns mainGlobals mg → FnN 464 l.prog w K mg base 6 fa fd ["_law_script"] (lift K sp3_law) := by
  have e := hfa.symm.trans (PySem.W.mg_of X G a_law)
  cases e
  let T : Tx K mg := {
    a_word_text := f_word_text,
    fd_word_text := _,
    F_word_text := fun_mk (st := s_word_text) l_word_text c_word_text k_word_text,
    m_word_text := PySem.W.mg_of X G a_word_text,
    a_row_text := f_row_text,
    fd_row_text := _,
    F_row_text := fun_mk (st := s_row_text) l_row_text c_row_text k_row_text,
    m_row_text := PySem.W.mg_of X G a_row_text,
    a_bare_end := f_bare_end,
    fd_bare_end := _,
    F_bare_end := fun_mk (st := s_bare_end) l_bare_end c_bare_end k_bare_end,
    m_bare_end := PySem.W.mg_of X G a_bare_end,
    a_quoted_end := f_quoted_end,
    fd_quoted_end := _,
    F_quoted_end := fun_mk (st := s_quoted_end) l_quoted_end c_quoted_end k_quoted_end,
    m_quoted_end := PySem.W.mg_of X G a_quoted_end,
    a_words_of := f_words_of,
    fd_words_of := _,
    F_words_of := fun_mk (st := s_words_of) l_words_of c_words_of k_words_of,
    m_words_of := PySem.W.mg_of X G a_words_of,
    a_law_cell := f_law_cell,
    fd_law_cell := _,
    F_law_cell := fun_mk (st := s_law_cell) l_law_cell c_law_cell k_law_cell,
    m_law_cell := PySem.W.mg_of X G a_law_cell,
    a_law_pot := f_law_pot,
    fd_law_pot := _,
    F_law_pot := fun_mk (st := s_law_pot) l_law_pot c_law_pot k_law_pot,
    m_law_pot := PySem.W.mg_of X G a_law_pot,
    a_law_draw := f_law_draw,
    fd_law_draw := _,
    F_law_draw := fun_mk (st := s_law_draw) l_law_draw c_law_draw k_law_draw,
    m_law_draw := PySem.W.mg_of X G a_law_draw,
    a_law_signs := f_law_signs,
    fd_law_signs := _,
    F_law_signs := fun_mk (st := s_law_signs) l_law_signs c_law_signs k_law_signs,
    m_law_signs := PySem.W.mg_of X G a_law_signs,
    a_law_text := f_law_text,
    fd_law_text := _,
    F_law_text := fun_mk (st := s_law_text) l_law_text c_law_text k_law_text,
    m_law_text := PySem.W.mg_of X G a_law_text,
    a_law_written := f_law_written,
    fd_law_written := _,
    F_law_written := fun_mk (st := s_law_written) l_law_written c_law_written k_law_written,
    m_law_written := PySem.W.mg_of X G a_law_written,
    a_law_quoted := f_law_quoted,
    fd_law_quoted := _,
    F_law_quoted := fun_mk (st := s_law_quoted) l_law_quoted c_law_quoted k_law_quoted,
    m_law_quoted := PySem.W.mg_of X G a_law_quoted,
    a_law_bare := f_law_bare,
    fd_law_bare := _,
    F_law_bare := fun_mk (st := s_law_bare) l_law_bare c_law_bare k_law_bare,
    m_law_bare := PySem.W.mg_of X G a_law_bare,
    a_law_read := f_law_read,
    fd_law_read := _,
    F_law_read := fun_mk (st := s_law_read) l_law_read c_law_read k_law_read,
    m_law_read := PySem.W.mg_of X G a_law_read,
    a_law_is_other := f_law_is_other,
    fd_law_is_other := _,
    F_law_is_other := fun_mk (st := s_law_is_other) l_law_is_other c_law_is_other k_law_is_other,
    m_law_is_other := PySem.W.mg_of X G a_law_is_other,
    a_law_told := f_law_told,
    fd_law_told := _,
    F_law_told := fun_mk (st := s_law_told) l_law_told c_law_told k_law_told,
    m_law_told := PySem.W.mg_of X G a_law_told,
    a_law_right := f_law_right,
    fd_law_right := _,
    F_law_right := fun_mk (st := s_law_right) l_law_right c_law_right k_law_right,
    m_law_right := PySem.W.mg_of X G a_law_right,
    a_law_row := f_law_row,
    fd_law_row := _,
    F_law_row := fun_mk (st := s_law_row) l_law_row c_law_row k_law_row,
    m_law_row := PySem.W.mg_of X G a_law_row,
    a_law_spoilt := f_law_spoilt,
    fd_law_spoilt := _,
    F_law_spoilt := fun_mk (st := s_law_spoilt) l_law_spoilt c_law_spoilt k_law_spoilt,
    m_law_spoilt := PySem.W.mg_of X G a_law_spoilt,
    a_law := fa,
    fd_law := _,
    F_law := fun_mk (st := s_law) l_law c_law k_law,
    m_law := PySem.W.mg_of X G a_law,
    C_BenchError := C_BenchError,
    x_BenchError := ⟨PySem.W.mg_of X G aC_BenchError, ⟨⟨_, _, _, _, _, _, _, _, _, _, _, _, _, _, _, xL_BenchError, rv_BenchError⟩, sa_BenchError, eC_BenchError, tC_BenchError, kC_BenchError⟩, ga_BenchError, gg_BenchError, hC_BenchError, ha_BenchError, hn_, ht_, hm_BenchError⟩,
    C_NoRow := C_NoRow,
    x_NoRow := ⟨PySem.W.mg_of X G aC_NoRow, ⟨⟨_, _, _, _, _, _, _, _, _, _, _, _, _, _, _, xL_NoRow, rv_NoRow⟩, sa_NoRow, eC_NoRow, tC_NoRow, kC_NoRow⟩, ga_NoRow, gg_NoRow, hC_NoRow, ha_NoRow, hn_, ht_, hm_NoRow⟩,
    C_BadDefault := C_BadDefault,
    x_BadDefault := ⟨PySem.W.mg_of X G aC_BadDefault, ⟨⟨_, _, _, _, _, _, _, _, _, _, _, _, _, _, _, xL_BadDefault, rv_BadDefault⟩, sa_BadDefault, eC_BadDefault, tC_BadDefault, kC_BadDefault⟩, ga_BadDefault, gg_BadDefault, hC_BadDefault, ha_BadDefault, hn_, ht_, hm_BadDefault⟩,
    C_Clash := C_Clash,
    x_Clash := ⟨PySem.W.mg_of X G aC_Clash, ⟨⟨_, _, _, _, _, _, _, _, _, _, _, _, _, _, _, xL_Clash, rv_Clash⟩, sa_Clash, eC_Clash, tC_Clash, kC_Clash⟩, ga_Clash, gg_Clash, hC_Clash, ha_Clash, hn_, ht_, hm_Clash⟩,
    C_Fault := C_Fault,
    x_Fault := ⟨PySem.W.mg_of X G aC_Fault, ⟨⟨_, _, _, _, _, _, _, _, _, _, _, _, _, _, _, xL_Fault, rv_Fault⟩, sa_Fault, eC_Fault, tC_Fault, kC_Fault⟩, ga_Fault, gg_Fault, hC_Fault, ha_Fault, hn_, ht_, hm_Fault⟩,
    C_NoCommand := C_NoCommand,
    x_NoCommand := ⟨PySem.W.mg_of X G aC_NoCommand, ⟨⟨_, _, _, _, _, _, _, _, _, _, _, _, _, _, _, xL_NoCommand, rv_NoCommand⟩, sa_NoCommand, eC_NoCommand, tC_NoCommand, kC_NoCommand⟩, ga_NoCommand, gg_NoCommand, hC_NoCommand, ha_NoCommand, hn_, ht_, hm_NoCommand⟩,
    C_NoMaker := C_NoMaker,
    x_NoMaker := ⟨PySem.W.mg_of X G aC_NoMaker, ⟨⟨_, _, _, _, _, _, _, _, _, _, _, _, _, _, _, xL_NoMaker, rv_NoMaker⟩, sa_NoMaker, eC_NoMaker, tC_NoMaker, kC_NoMaker⟩, ga_NoMaker, gg_NoMaker, hC_NoMaker, ha_NoMaker, hn_, ht_, hm_NoMaker⟩,
    C_NoName := C_NoName,
    x_NoName := ⟨PySem.W.mg_of X G aC_NoName, ⟨⟨_, _, _, _, _, _, _, _, _, _, _, _, _, _, _, xL_NoName, rv_NoName⟩, sa_NoName, eC_NoName, tC_NoName, kC_NoName⟩, ga_NoName, gg_NoName, hC_NoName, ha_NoName, hn_, ht_, hm_NoName⟩,
    C_NoOption := C_NoOption,
    x_NoOption := ⟨PySem.W.mg_of X G aC_NoOption, ⟨⟨_, _, _, _, _, _, _, _, _, _, _, _, _, _, _, xL_NoOption, rv_NoOption⟩, sa_NoOption, eC_NoOption, tC_NoOption, kC_NoOption⟩, ga_NoOption, gg_NoOption, hC_NoOption, ha_NoOption, hn_, ht_, hm_NoOption⟩,
    C_NoPlace := C_NoPlace,
    x_NoPlace := ⟨PySem.W.mg_of X G aC_NoPlace, ⟨⟨_, _, _, _, _, _, _, _, _, _, _, _, _, _, _, xL_NoPlace, rv_NoPlace⟩, sa_NoPlace, eC_NoPlace, tC_NoPlace, kC_NoPlace⟩, ga_NoPlace, gg_NoPlace, hC_NoPlace, ha_NoPlace, hn_, ht_, hm_NoPlace⟩,
    C_Unmade := C_Unmade,
    x_Unmade := ⟨PySem.W.mg_of X G aC_Unmade, ⟨⟨_, _, _, _, _, _, _, _, _, _, _, _, _, _, _, xL_Unmade, rv_Unmade⟩, sa_Unmade, eC_Unmade, tC_Unmade, kC_Unmade⟩, ga_Unmade, gg_Unmade, hC_Unmade, ha_Unmade, hn_, ht_, hm_Unmade⟩,
    xi_NoRow := xi_NoRow,
    ex_NoRow_BenchError := ex_NoRow_BenchError,
    ka_NoRow_BadDefault := ki_any_NoRow_BadDefault,
    ki_NoRow_NoRow := ki_NoRow_NoRow,
    ki_NoRow_ValueError := ki_NoRow_ValueError,
    n_ValueError := PySem.W.mg_none_of X G z_ValueError,
    n_all := PySem.W.mg_none_of X G z_all,
    n_divmod := PySem.W.mg_none_of X G z_divmod,
    n_enumerate := PySem.W.mg_none_of X G z_enumerate,
    n_int := PySem.W.mg_none_of X G z_int,
    n_isinstance := PySem.W.mg_none_of X G z_isinstance,
    n_len := PySem.W.mg_none_of X G z_len,
    n_list := PySem.W.mg_none_of X G z_list,
    n_max := PySem.W.mg_none_of X G z_max,
    n_min := PySem.W.mg_none_of X G z_min,
    n_range := PySem.W.mg_none_of X G z_range,
    n_str := PySem.W.mg_none_of X G z_str,
    c_BLANK := ⟨_, PySem.W.mg_of X G v_BLANK⟩,
    c_QUOTE := ⟨_, PySem.W.mg_of X G v_QUOTE⟩,
    tq_QUOTE := ⟨_, tz_QUOTE.1, tz_QUOTE.2, PySem.W.mg_of X G v_QUOTE⟩ }
  exact ⟨PySem.W.fnOf "law" "law" (defArgs s_law) (defBody s_law) (defScope s_law) .none kV_law dc_law pm_law an_law cd_law ct_law, fun s v => .of_eq rfl, fun base _ _ => (okN_law (P := l.prog) (w := w) (base := base) T)⟩
open PySem.W in
/-- the kit's head takes this one for the lemma of its name here -/
def PySem.W.holds_open {r : OpenRow} {q : Program} {loose : List Str} {Xt : Shared → Bool} {XP : (Str → Option Value) → Heap → Prop} {α : Type} {Yf : Shared → α} {Ya : World → α} {YP : World → Heap → Prop} {d : DefRec} {kwd : List (Str × Expr)} {N : Nat} :=
  holds_openM 464 (r := r) (q := q) (loose := loose) (Xt := Xt) (XP := XP) (Yf := Yf) (Ya := Ya) (YP := YP) (d := d) (kwd := kwd) (N := N)
open PySem.W
set_option maxHeartbeats 0 in
theorem top_holds : PySem.Challenge.rw_wordbench_k26_whole_texts_read_or_not.Holds := by
  w_on; o_law; k_head; (case hw => w_witness2)
  k_fill
  refine Wb.walk_ofN (l := PySem.Challenge.rw_wordbench_k26_whole_texts_read_or_not) (n := 63) (k := 6) (m := 464) (x := "_law_script") (sp := fun w => Wb.lift _ Wb.sp3_law) (by decide +kernel) rfl (by decide) rfl ⟨rfl, by decide, by decide⟩ (fun w h Y => _root_.PySem.W.kIn_of Y) (fun _ => by rfl) ?F (fun _ H a ns hl h1 h2 hS => Wb.law_start3 hl hS h1 h2)
  case F =>
    intro w mg fa h KX G hmg
    refine' Wb.all_mk KX G hmg ?aC_BenchError ?xL_BenchError ?rv_BenchError ?sa_BenchError ?ga_BenchError ?gg_BenchError ?eC_BenchError ?tC_BenchError ?kC_BenchError ?hC_BenchError ?ha_BenchError ?hm_BenchError ?aC_NoRow ?xL_NoRow ?rv_NoRow ?sa_NoRow ?ga_NoRow ?gg_NoRow ?eC_NoRow ?tC_NoRow ?kC_NoRow ?hC_NoRow ?ha_NoRow ?hm_NoRow ?aC_BadDefault ?xL_BadDefault ?rv_BadDefault ?sa_BadDefault ?ga_BadDefault ?gg_BadDefault ?eC_BadDefault ?tC_BadDefault ?kC_BadDefault ?hC_BadDefault ?ha_BadDefault ?hm_BadDefault ?aC_Clash ?xL_Clash ?rv_Clash ?sa_Clash ?ga_Clash ?gg_Clash ?eC_Clash ?tC_Clash ?kC_Clash ?hC_Clash ?ha_Clash ?hm_Clash ?aC_Fault ?xL_Fault ?rv_Fault ?sa_Fault ?ga_Fault ?gg_Fault ?eC_Fault ?tC_Fault ?kC_Fault ?hC_Fault ?ha_Fault ?hm_Fault ?aC_NoCommand ?xL_NoCommand ?rv_NoCommand ?sa_NoCommand ?ga_NoCommand ?gg_NoCommand ?eC_NoCommand ?tC_NoCommand ?kC_NoCommand ?hC_NoCommand ?ha_NoCommand ?hm_NoCommand ?aC_NoMaker ?xL_NoMaker ?rv_NoMaker ?sa_NoMaker ?ga_NoMaker ?gg_NoMaker ?eC_NoMaker ?tC_NoMaker ?kC_NoMaker ?hC_NoMaker ?ha_NoMaker ?hm_NoMaker ?aC_NoName ?xL_NoName ?rv_NoName ?sa_NoName ?ga_NoName ?gg_NoName ?eC_NoName ?tC_NoName ?kC_NoName ?hC_NoName ?ha_NoName ?hm_NoName ?aC_NoOption ?xL_NoOption ?rv_NoOption ?sa_NoOption ?ga_NoOption ?gg_NoOption ?eC_NoOption ?tC_NoOption ?kC_NoOption ?hC_NoOption ?ha_NoOption ?hm_NoOption ?aC_NoPlace ?xL_NoPlace ?rv_NoPlace ?sa_NoPlace ?ga_NoPlace ?gg_NoPlace ?eC_NoPlace ?tC_NoPlace ?kC_NoPlace ?hC_NoPlace ?ha_NoPlace ?hm_NoPlace ?aC_Unmade ?xL_Unmade ?rv_Unmade ?sa_Unmade ?ga_Unmade ?gg_Unmade ?eC_Unmade ?tC_Unmade ?kC_Unmade ?hC_Unmade ?ha_Unmade ?hm_Unmade ?hn_ ?ht_ ?a_word_text ?l_word_text ?c_word_text ?k_word_text ?a_row_text ?l_row_text ?c_row_text ?k_row_text ?a_bare_end ?l_bare_end ?c_bare_end ?k_bare_end ?a_quoted_end ?l_quoted_end ?c_quoted_end ?k_quoted_end ?a_words_of ?l_words_of ?c_words_of ?k_words_of ?a_law_cell ?l_law_cell ?c_law_cell ?k_law_cell ?a_law_pot ?l_law_pot ?c_law_pot ?k_law_pot ?a_law_draw ?l_law_draw ?c_law_draw ?k_law_draw ?a_law_signs ?l_law_signs ?c_law_signs ?k_law_signs ?a_law_text ?l_law_text ?c_law_text ?k_law_text ?a_law_written ?l_law_written ?c_law_written ?k_law_written ?a_law_quoted ?l_law_quoted ?c_law_quoted ?k_law_quoted ?a_law_bare ?l_law_bare ?c_law_bare ?k_law_bare ?a_law_read ?l_law_read ?c_law_read ?k_law_read ?a_law_is_other ?l_law_is_other ?c_law_is_other ?k_law_is_other ?a_law_told ?l_law_told ?c_law_told ?k_law_told ?a_law_right ?l_law_right ?c_law_right ?k_law_right ?a_law_row ?l_law_row ?c_law_row ?k_law_row ?a_law_spoilt ?l_law_spoilt ?c_law_spoilt ?k_law_spoilt ?a_law ?l_law ?c_law ?k_law ?z_ValueError ?z_all ?z_divmod ?z_enumerate ?z_int ?z_isinstance ?z_len ?z_list ?z_max ?z_min ?z_range ?z_str ?xi_NoRow ?ex_NoRow_BenchError ?ki_NoRow_NoRow ?ki_NoRow_ValueError ?ki_any_NoRow_BadDefault ?v_BLANK ?v_QUOTE ?tz_QUOTE
    (case aC_BenchError => k_is); (case xL_BenchError => k_is); (case rv_BenchError => decide +kernel); (case sa_BenchError => k_is); (case ga_BenchError => k_is); (case gg_BenchError => k_is); (case eC_BenchError => k_is); (case tC_BenchError => k_is); (case kC_BenchError => k_is); (case hC_BenchError => k_is); (case ha_BenchError => k_is); (case hm_BenchError => k_is); (case aC_NoRow => k_is); (case xL_NoRow => k_is); (case rv_NoRow => decide +kernel); (case sa_NoRow => k_is); (case ga_NoRow => k_is); (case gg_NoRow => k_is); (case eC_NoRow => k_is); (case tC_NoRow => k_is); (case kC_NoRow => k_is); (case hC_NoRow => k_is); (case ha_NoRow => k_is); (case hm_NoRow => k_is); (case aC_BadDefault => k_is); (case xL_BadDefault => k_is); (case rv_BadDefault => decide +kernel); (case sa_BadDefault => k_is); (case ga_BadDefault => k_is); (case gg_BadDefault => k_is); (case eC_BadDefault => k_is); (case tC_BadDefault => k_is); (case kC_BadDefault => k_is); (case hC_BadDefault => k_is); (case ha_BadDefault => k_is); (case hm_BadDefault => k_is); (case aC_Clash => k_is); (case xL_Clash => k_is); (case rv_Clash => decide +kernel); (case sa_Clash => k_is); (case ga_Clash => k_is); (case gg_Clash => k_is); (case eC_Clash => k_is); (case tC_Clash => k_is); (case kC_Clash => k_is); (case hC_Clash => k_is); (case ha_Clash => k_is); (case hm_Clash => k_is); (case aC_Fault => k_is); (case xL_Fault => k_is); (case rv_Fault => decide +kernel); (case sa_Fault => k_is); (case ga_Fault => k_is); (case gg_Fault => k_is); (case eC_Fault => k_is); (case tC_Fault => k_is); (case kC_Fault => k_is); (case hC_Fault => k_is); (case ha_Fault => k_is); (case hm_Fault => k_is); (case aC_NoCommand => k_is); (case xL_NoCommand => k_is); (case rv_NoCommand => decide +kernel); (case sa_NoCommand => k_is); (case ga_NoCommand => k_is); (case gg_NoCommand => k_is); (case eC_NoCommand => k_is); (case tC_NoCommand => k_is); (case kC_NoCommand => k_is); (case hC_NoCommand => k_is); (case ha_NoCommand => k_is); (case hm_NoCommand => k_is); (case aC_NoMaker => k_is); (case xL_NoMaker => k_is); (case rv_NoMaker => decide +kernel); (case sa_NoMaker => k_is); (case ga_NoMaker => k_is); (case gg_NoMaker => k_is); (case eC_NoMaker => k_is); (case tC_NoMaker => k_is); (case kC_NoMaker => k_is); (case hC_NoMaker => k_is); (case ha_NoMaker => k_is); (case hm_NoMaker => k_is); (case aC_NoName => k_is); (case xL_NoName => k_is); (case rv_NoName => decide +kernel); (case sa_NoName => k_is); (case ga_NoName => k_is); (case gg_NoName => k_is); (case eC_NoName => k_is); (case tC_NoName => k_is); (case kC_NoName => k_is); (case hC_NoName => k_is); (case ha_NoName => k_is); (case hm_NoName => k_is); (case aC_NoOption => k_is); (case xL_NoOption => k_is); (case rv_NoOption => decide +kernel); (case sa_NoOption => k_is); (case ga_NoOption => k_is); (case gg_NoOption => k_is); (case eC_NoOption => k_is); (case tC_NoOption => k_is); (case kC_NoOption => k_is); (case hC_NoOption => k_is); (case ha_NoOption => k_is); (case hm_NoOption => k_is); (case aC_NoPlace => k_is); (case xL_NoPlace => k_is); (case rv_NoPlace => decide +kernel); (case sa_NoPlace => k_is); (case ga_NoPlace => k_is); (case gg_NoPlace => k_is); (case eC_NoPlace => k_is); (case tC_NoPlace => k_is); (case kC_NoPlace => k_is); (case hC_NoPlace => k_is); (case ha_NoPlace => k_is); (case hm_NoPlace => k_is); (case aC_Unmade => k_is); (case xL_Unmade => k_is); (case rv_Unmade => decide +kernel); (case sa_Unmade => k_is); (case ga_Unmade => k_is); (case gg_Unmade => k_is); (case eC_Unmade => k_is); (case tC_Unmade => k_is); (case kC_Unmade => k_is); (case hC_Unmade => k_is); (case ha_Unmade => k_is); (case hm_Unmade => k_is); (case hn_ => k_is); (case ht_ => k_is); (case a_word_text => k_is); (case l_word_text => k_is); (case c_word_text => k_is); (case k_word_text => k_is); (case a_row_text => k_is); (case l_row_text => k_is); (case c_row_text => k_is); (case k_row_text => k_is); (case a_bare_end => k_is); (case l_bare_end => k_is); (case c_bare_end => k_is); (case k_bare_end => k_is); (case a_quoted_end => k_is); (case l_quoted_end => k_is); (case c_quoted_end => k_is); (case k_quoted_end => k_is); (case a_words_of => k_is); (case l_words_of => k_is); (case c_words_of => k_is); (case k_words_of => k_is); (case a_law_cell => k_is); (case l_law_cell => k_is); (case c_law_cell => k_is); (case k_law_cell => k_is); (case a_law_pot => k_is); (case l_law_pot => k_is); (case c_law_pot => k_is); (case k_law_pot => k_is); (case a_law_draw => k_is); (case l_law_draw => k_is); (case c_law_draw => k_is); (case k_law_draw => k_is); (case a_law_signs => k_is); (case l_law_signs => k_is); (case c_law_signs => k_is); (case k_law_signs => k_is); (case a_law_text => k_is); (case l_law_text => k_is); (case c_law_text => k_is); (case k_law_text => k_is); (case a_law_written => k_is); (case l_law_written => k_is); (case c_law_written => k_is); (case k_law_written => k_is); (case a_law_quoted => k_is); (case l_law_quoted => k_is); (case c_law_quoted => k_is); (case k_law_quoted => k_is); (case a_law_bare => k_is); (case l_law_bare => k_is); (case c_law_bare => k_is); (case k_law_bare => k_is); (case a_law_read => k_is); (case l_law_read => k_is); (case c_law_read => k_is); (case k_law_read => k_is); (case a_law_is_other => k_is); (case l_law_is_other => k_is); (case c_law_is_other => k_is); (case k_law_is_other => k_is); (case a_law_told => k_is); (case l_law_told => k_is); (case c_law_told => k_is); (case k_law_told => k_is); (case a_law_right => k_is); (case l_law_right => k_is); (case c_law_right => k_is); (case k_law_right => k_is); (case a_law_row => k_is); (case l_law_row => k_is); (case c_law_row => k_is); (case k_law_row => k_is); (case a_law_spoilt => k_is); (case l_law_spoilt => k_is); (case c_law_spoilt => k_is); (case k_law_spoilt => k_is); (case a_law => k_is); (case l_law => k_is); (case c_law => k_is); (case k_law => k_is); (case z_ValueError => k_is); (case z_all => k_is); (case z_divmod => k_is); (case z_enumerate => k_is); (case z_int => k_is); (case z_isinstance => k_is); (case z_len => k_is); (case z_list => k_is); (case z_max => k_is); (case z_min => k_is); (case z_range => k_is); (case z_str => k_is); (case xi_NoRow => k_exc); (case ex_NoRow_BenchError => kts_exm); (case ki_NoRow_NoRow => kit_is); (case ki_NoRow_ValueError => kit_is); (case ki_any_NoRow_BadDefault => kit_is); (case v_BLANK => k_is); (case v_QUOTE => k_is); (case tz_QUOTE => decide)
end Wb
open PySem PySem.W
theorem PySem.Challenge.cw_wordbench_k26_whole_texts_read_or_not_holds : PySem.Challenge.rw_wordbench_k26_whole_texts_read_or_not.Holds := by
  exact Wb.top_holds

