import PyProof.Rows.All
import Wide.All
import OpenK.AllK
import Wide.FinOn
import KE.KStateDown
import HandS.ForMost
import HandS.More
import HandS.Exc
import HandS.ExcOwn
import HandS.TryOnly
import HandS.WordsExc
import HandS.Defaults
import HandS.Deep
import HandS.Conv
import HandS.MakeKwOnly
import HandS.Wide
import HandS.WideBits
import HandS.Style
import HandS.IsInst
import HandS.Star
import HandS.OwnEq
import HandS.SortInts
import HandS.Evl
import HandS.SetFor
import KE.KDictSum
import HandS.SortRule
import HandS.Flow
import HandS.Strs
import HandS.TupAny
import KE.DataMinMax
import KE.SortData
import KE.DataCmp
import HandS.Head0
import HandS.Head1
import HandS.Head2
import HandS.HeadEnd
import HandS.HeadHook1
import HandS.HeadHook2
import KE.KExcSuper
import HandS.ExcValue
import HandS.CallSlots
import PyProof.LongRange
import HandS.ExcIs
import KE.GoesEnum
import KE.GoesZip
import KE.GoesMore
import HandS.Zip
import HandS.TupMul
import HandS.TupSets
import KE.KExcIs
import HandS.NoneIn
import HandS.DictTup
import HandS.DictComp
import KE.KDictPairs
import KE.KDictWalk
import KE.KDictKeyed
import KE.KEqDict
import PyProof.ReprBulk
import PyProof.FitsInt
import PySem.Challenge.RW_rollclerk_k61_texts_of_no_counter
import KE.KDictList
import HandS.Iter
import HandS.Text
import HandS.Replace
import HandS.ReplaceLit
import HandS.ReplaceDef
import PyProof.StrOps2
import PyProof.SliceStr2
import PyProof.EqAt
import PyProof.EqKinds
import PyProof.TupleCall
import PyProof.NeKinds
import HandS.Codes
import HandS.ReplaceList
import PyProof.StrLawsRepr
set_option Elab.async false
set_option linter.all false
set_option maxRecDepth 100000
set_option maxHeartbeats 4000000
/-! ## The steps of a reading, one lemma a construct; heaps that grow -/
namespace RC
open PySem PySem.Spec PyProof.Rows L2

/-! ### heaps -/
theorem small1 {n : Nat} (h : n ≤ 100000) : n < sizeLine := Nat.lt_of_le_of_lt h (by decide)
theorem small2 {n : Nat} (h : n ≤ 100000) : n ≤ sizeLine := Nat.le_trans h (by decide)
theorem same_new {H : Hp} {p : Addr} {o : HO} (h : H p = none) : Same H (upd H p o) := fun b x e => by
  rw [upd_ne (ne_of_none e h)]
  exact e
/-- something new at p: the heap behind it by a name -/
theorem r_new {H : Hp} {o : HO} {Q : VK} (h : ∀ p H1, H p = none → Same H H1 → H1 p = some o → Q (.ref p) H1) : ∀ p, H p = none → Q (.ref p) (upd H p o) := fun p hp => h p _ hp (same_new hp) upd_same
theorem Same.rd {H H' : Hp} (e : Same H H') {a : Addr} {u : HO} (h : Rd H a u) : Rd H' a u := by
  rcases h with h | ⟨o, h⟩
  · exact .inl (e _ _ h)
  · exact .inr ⟨o, e _ _ h⟩
theorem Same.tup {K : PySem.W.Frag} {H H' : Hp} {a : Addr} {xs : List V} (e : Same H H') (h : SqT K H a xs) : SqT K H' a xs := by
  rcases h with h | h
  · exact .inl (Same.rd e h)
  · exact .inr h
theorem Same.lst {K : PySem.W.Frag} {H H' : Hp} {a : Addr} {xs : List V} (e : Same H H') (h : SqL K H a xs) : SqL K H' a xs := by
  rcases h with h | h
  · exact .inl (Same.rd e h)
  · exact .inr h
mutual
theorem Same.dp {K : PySem.W.Frag} {H H' : Hp} (e : Same H H') : ∀ {v : V} {d : PyData}, Dp K H v d → Dp K H' v d
  | _, _, .non => .non
  | _, _, .bl b => .bl b
  | _, _, .int i => .int i
  | _, _, .str x => .str x
  | _, _, .lst h a => .lst (Same.lst e h) (Same.dpa e a)
  | _, _, .tup h a => .tup (Same.tup e h) (Same.dpa e a)
theorem Same.dpa {K : PySem.W.Frag} {H H' : Hp} (e : Same H H') : ∀ {v : List V} {d : List PyData}, DpAll K H v d → DpAll K H' v d
  | _, _, .nil => .nil
  | _, _, .cons h t => .cons (Same.dp e h) (Same.dpa e t)
end
/-- G is a part of H that leaves p out -/
def Cut (p : Addr) (H G : Hp) : Prop := ∀ a o, G a = some o → a ≠ p ∧ H a = some o
theorem Cut.same {p : Addr} {H G : Hp} (c : Cut p H G) : Same G H := fun a o h => (c a o h).2
theorem Cut.of {p : Addr} {H G : Hp} (e : Same G H) (h : G p = none) : Cut p H G := fun a o q => ⟨ne_of_none q h, e a o q⟩
theorem Cut.upd {p : Addr} {H G : Hp} {o : HO} (c : Cut p H G) : Cut p (upd H p o) G := fun a u h => by
  obtain ⟨n, q⟩ := c a u h
  exact ⟨n, by rw [upd_ne n]; exact q⟩
theorem Cut.grow {p : Addr} {H H' G : Hp} (c : Cut p H G) (e : Same H H') : Cut p H' G := fun a o h => ⟨(c a o h).1, e a o (c a o h).2⟩
/-- the largest such part -/
def rest (H : Hp) (p : Addr) : Hp := fun a => if a = p then none else H a
theorem rest_cut (H : Hp) (p : Addr) : Cut p H (rest H p) := fun a o h => by
  unfold rest at h
  by_cases e : a = p
  · rw [if_pos e] at h
    cases h
  · rw [if_neg e] at h
    exact ⟨e, h⟩
theorem rest_ne {H : Hp} {p a : Addr} (e : a ≠ p) : rest H p a = H a := if_neg e
theorem rest_same {H : Hp} {p : Addr} : rest H p p = none := if_pos rfl
theorem same_rest {G H : Hp} {p : Addr} (e : Same G H) (h : G p = none) : Same G (rest H p) := fun a o q => by
  rw [rest_ne (ne_of_none q h)]
  exact e a o q
theorem rest_grow {H H' : Hp} {p : Addr} (e : Same H H') : Same (rest H p) (rest H' p) := fun a o h => by
  have n : a ≠ p := ((rest_cut H p) a o h).1
  rw [rest_ne n] at h ⊢
  exact e a o h
theorem rest_upd {H : Hp} {p : Addr} {o : HO} : rest (L2.upd H p o) p = rest H p := by
  funext a
  unfold rest
  by_cases e : a = p
  · rw [if_pos e, if_pos e]
  · rw [if_neg e, if_neg e, upd_ne e]
/-- all but what stands at p is as it was -/
def But (p : Addr) (H H' : Hp) : Prop := ∀ b o, b ≠ p → H b = some o → H' b = some o
theorem But.refl (p : Addr) (H : Hp) : But p H H := fun _ _ _ h => h
theorem But.of {p : Addr} {H H' : Hp} (e : Same H H') : But p H H' := fun b o _ h => e b o h
theorem But.trans {p : Addr} {H H1 H2 : Hp} (a : But p H H1) (b : But p H1 H2) : But p H H2 := fun c o n h => b c o n (a c o n h)
theorem But.upd {p : Addr} {H : Hp} {o : HO} : But p H (upd H p o) := fun b x n h => by rw [upd_ne n]; exact h
theorem But.same {p : Addr} {H0 H H' : Hp} (e : Same H0 H) (n : H0 p = none) (b : But p H H') : Same H0 H' := fun a o h => b a o (ne_of_none h n) (e a o h)
/-- something written at p: the heap behind it by a name -/
theorem r_mut {H : Hp} {p : Addr} {o : HO} {G : Hp → Prop} (h : ∀ H1, But p H H1 → H1 p = some o → G H1) : G (L2.upd H p o) := h _ But.upd upd_same
def notSeq : HO → Bool
  | .lst _ => false
  | .tup _ => false
  | .frz _ _ => false
  | _ => true
theorem But.lst {K : PySem.W.Frag} {p a : Addr} {H H' : Hp} {o : HO} {xs : List V} (b : But p H H') (hp : H p = some o) (k : notSeq o = true) (h : SqL K H a xs) : SqL K H' a xs := by
  rcases h with (h | ⟨ob, h⟩) | h
  · exact .inl (.inl (b _ _ (ne_of h hp fun e => by rw [← e] at k; cases k) h))
  · exact .inl (.inr ⟨ob, b _ _ (ne_of h hp fun e => by rw [← e] at k; cases k) h⟩)
  · exact .inr h
theorem But.tup {K : PySem.W.Frag} {p a : Addr} {H H' : Hp} {o : HO} {xs : List V} (b : But p H H') (hp : H p = some o) (k : notSeq o = true) (h : SqT K H a xs) : SqT K H' a xs := by
  rcases h with (h | ⟨ob, h⟩) | h
  · exact .inl (.inl (b _ _ (ne_of h hp fun e => by rw [← e] at k; cases k) h))
  · exact .inl (.inr ⟨ob, b _ _ (ne_of h hp fun e => by rw [← e] at k; cases k) h⟩)
  · exact .inr h
theorem Same.app {H H' : Hp} (e : Same H H') {a : Addr} {o : HO} (h : H a = some o) : H' a = some o := e a o h
theorem sq_of {K : PySem.W.Frag} {H : Hp} {a : Addr} {xs : List V} (h : H a = some (.lst xs)) : SqL K H a xs := .inl (.inl h)
theorem st_of {K : PySem.W.Frag} {H : Hp} {a : Addr} {xs : List V} (h : H a = some (.tup xs)) : SqT K H a xs := .inl (.inl h)

/-! ### the constructs -/
section
variable {K : PySem.W.Frag} {σ : L2.St} {H : Hp} {Q : VK} {D : Ends} {ta tb te tc : TE} {t u : TS} {tt uu : TT}
theorem r_seq (h : t { D with nx := u D } σ H) : tSeq t u D σ H := h
theorem r_next (h : D.nx σ H) : tNext D σ H := h
theorem r_ret (h : te σ H D.rt) : tRet te D σ H := h
theorem r_drop (h : te σ H fun _ H1 => D.nx σ H1) : tDrop te D σ H := h
theorem r_ifs (h : tt σ H fun b H1 => if b = true then t D σ H1 else u D σ H1) : tIfS tt t u D σ H := h
theorem r_asg {i : Nat} (h : te σ H fun x H1 => D.nx (σ.set i (some x)) H1) : tAsg te (gName i) D σ H := h
theorem r_var {i : Nat} {v : V} (e : σ[i]? = some (some v)) (h : Q v H) : tVar i σ H Q := ⟨v, e, h⟩
theorem r_c {v : V} (h : Q v H) : tC v σ H Q := h
theorem r_op {r : R2} (h : ta σ H fun x H1 => tb σ H1 fun y H2 => r x y H2 Q) : tOp r ta tb σ H Q := h
theorem r_un {r : V → Hp → VK → Prop} (h : ta σ H fun x H1 => r x H1 Q) : tUn r ta σ H Q := h
theorem r_I0 {g : Int → Int → V} {i j : Int} (h : Q (g i j) H) : rI0 g (.int i) (.int j) H Q := ⟨i, j, rfl, rfl, h⟩
theorem r_I {C : Int → Int → Prop} {g : Int → Int → V} {i j : Int} (c : C i j) (h : Q (g i j) H) : rI C g (.int i) (.int j) H Q := ⟨i, j, rfl, rfl, c, h⟩
theorem r_U {g : Int → V} {i : Int} (h : Q (g i) H) : rU g (.int i) H Q := ⟨i, rfl, h⟩
theorem r_eq {x y : V} (c : scal x y = true) (h : Q (.bl (decide (x = y))) H) : rEq x y H Q := ⟨c, h⟩
theorem r_ne {x y : V} (c : scal x y = true) (h : Q (.bl (!decide (x = y))) H) : rNe x y H Q := ⟨c, h⟩
theorem r_test {P : Bool → Hp → Prop} (h : te σ H fun x H' => ∃ k, x = .bl k ∧ P k H') : tTest te σ H P := h
theorem r_B {P : Bool → Hp → Prop} (h : te σ H fun x H' => ∃ k, x = .bl k ∧ P k H') : tB te σ H P := h
theorem r_bl {k : Bool} {P : Bool → Prop} (h : P k) : ∃ k', V.bl k = V.bl k' ∧ P k' := ⟨k, rfl, h⟩
theorem r_yes {P : Bool → Hp → Prop} (h : P true H) : tYes σ H P := h
theorem r_not {P : Bool → Hp → Prop} (h : tt σ H fun c H1 => P (!c) H1) : tNot tt σ H P := h
theorem r_and {P : Bool → Hp → Prop} (h : tt σ H fun c H1 => if c = true then uu σ H1 P else P false H1) : tAnd tt uu σ H P := h
theorem r_or {P : Bool → Hp → Prop} (h : tt σ H fun c H1 => if c = true then P true H1 else uu σ H1 P) : tOr tt uu σ H P := h
theorem r_andV (h : ta σ H fun x H1 => ∃ c, x = .bl c ∧ if c = true then tb σ H1 Q else Q (.bl false) H1) : tAndV ta tb σ H Q := h
theorem r_orV (h : ta σ H fun x H1 => ∃ c, x = .bl c ∧ if c = true then Q (.bl true) H1 else tb σ H1 Q) : tOrV ta tb σ H Q := h
theorem r_notV (h : ta σ H fun x H1 => ∃ c, x = .bl c ∧ Q (.bl (!c)) H1) : tNotV ta σ H Q := h
theorem r_ifE (h : tt σ H fun c H1 => if c = true then ta σ H1 Q else tb σ H1 Q) : tIf tt ta tb σ H Q := h
/-- a new object o -/
def Mk1 (o : List V → HO) (xs : List V) (H : Hp) (Q : VK) : Prop := xs.length ≤ sizeLine ∧ ∀ p, H p = none → Q (.ref p) (upd H p (o xs))
theorem r_tup {tA : TA} (h : tA σ H fun xs H1 => Mk1 .tup xs H1 Q) : tTup tA σ H Q := h
theorem r_lst {tA : TA} (h : tA σ H fun xs H1 => Mk1 .lst xs H1 Q) : tLst tA σ H Q := h
theorem r_mk {o : List V → HO} {xs : List V} (hl : xs.length ≤ sizeLine) (h : ∀ p H1, H p = none → Same H H1 → H1 p = some (o xs) → Q (.ref p) H1) : Mk1 o xs H Q := ⟨hl, r_new h⟩
theorem r_nil {P : List V → Hp → Prop} (h : P [] H) : tNil σ H P := h
theorem r_cons {tr : TA} {P : List V → Hp → Prop} (h : te σ H fun x H1 => tr σ H1 fun xs H2 => P (x :: xs) H2) : tCons te tr σ H P := h
theorem r_call {sp : Sp} {dvs : List V} {E : XK} {tA : TA} (h : tA σ H fun vs H1 => sp (vs ++ dvs) H1 Q E) : tCall sp dvs E tA σ H Q := h
theorem r_cb {r : List V → Hp → VK → Prop} {tA : TA} (h : tA σ H fun vs H1 => r vs H1 Q) : tCB r tA σ H Q := h
theorem r_slc {r : V → Option Int → Option Int → Hp → VK → Prop} {tl th : TO} (h : te σ H fun x H1 => tl σ H1 fun l H2 => th σ H2 fun w H3 => r x l w H3 Q) : tSl r te tl th σ H Q := h
theorem r_nopart {P : Option Int → Hp → Prop} (h : P none H) : tNoPart σ H P := h
theorem r_part {P : Option Int → Hp → Prop} (h : te σ H fun x H1 => ∃ i, x = .int i ∧ P (some i) H1) : tPart te σ H P := h
theorem r_int {i : Int} {P : Int → Prop} (h : P i) : ∃ i', V.int i = V.int i' ∧ P i' := ⟨i, rfl, h⟩
theorem r_par {i j : Nat} {tA : TA} (h : tA σ H fun vs H1 => ∃ v w, vs = [v, w] ∧ D.nx ((σ.set i (some v)).set j (some w)) H1) : tPar i j tA D σ H := h
theorem r_par2 {v w : V} {P : V → V → Prop} (h : P v w) : ∃ v' w', [v, w] = [v', w'] ∧ P v' w' := ⟨v, w, rfl, h⟩
theorem r_for {wi : TI} {g : TG} (h : wi σ H fun J H1 => ∃ W : Nat → Nat → L2.St → Hp → Prop, (∃ m, W 0 m σ H1) ∧ ∀ i m σ H, W i m σ H →
    (J.stop i H ∧ D.nx σ H) ∨ (J.go i H ∧ ∃ Nx : L2.St → Hp → Prop, (∀ σ' H', Nx σ' H' → ∃ m', m' < m ∧ W (i + 1) m' σ' H') ∧ ∀ x H', J.yld i H x H' → g x σ H' fun σ2 H2 => t { D with nx := Nx, ct := Nx, bk := D.nx } σ2 H2)) : tFor wi g t D σ H := h
/-- a list comprehension, its walk J known -/
theorem r_lc {wi : TI} {g : TG} {vs : List Nat} (h : wi σ H fun J H1 => tLc (fun _ H2 R => R J H2) g tt te vs σ H1 Q) : tLc wi g tt te vs σ H Q := h
def Rn1 (vs : List V) (H : Hp) (R : It → Hp → Prop) : Prop := ∃ j : Int, vs = [.int j] ∧ -(2 ^ 62) ≤ j ∧ j < 2 ^ 62 ∧ R (Itr 0 j.toNat) H
theorem r_rng1 {tA : TA} {R : It → Hp → Prop} (h : tA σ H fun vs H1 => Rn1 vs H1 R) : iRng1 tA σ H R := h
theorem r_rng1' {n : Nat} {j : Int} {R : It → Hp → Prop} (e : j = n) (hn : n ≤ 1000000) (h : R (Itr 0 n) H) : Rn1 [.int j] H R := ⟨j, rfl, by omega, by omega, by rw [e]; exact h⟩
def Rn2 (vs : List V) (H : Hp) (R : It → Hp → Prop) : Prop := ∃ i j : Int, vs = [.int i, .int j] ∧ (-(2 ^ 62) ≤ i ∧ i < 2 ^ 62 ∧ -(2 ^ 62) ≤ j ∧ j < 2 ^ 62) ∧ R (Itr i (j - i).toNat) H
theorem r_rng2 {tA : TA} {R : It → Hp → Prop} (h : tA σ H fun vs H1 => Rn2 vs H1 R) : iRng2 tA σ H R := h
theorem r_rng2' {i j : Int} {n : Nat} {R : It → Hp → Prop} (e : (j - i).toNat = n) (b : -1000000000000000000 ≤ i ∧ i ≤ 1000000000000000000 ∧ -1000000000000000000 ≤ j ∧ j ≤ 1000000000000000000) (h : R (Itr i n) H) : Rn2 [.int i, .int j] H R := ⟨i, j, rfl, by omega, by rw [e]; exact h⟩
def IlV (K : PySem.W.Frag) (x : V) (H : Hp) (R : It → Hp → Prop) : Prop := ∃ a, x = .ref a ∧ (∃ xs, SqL K H a xs) ∧ R (Itl K a) H
theorem r_ilist {R : It → Hp → Prop} (h : te σ H fun x H1 => IlV K x H1 R) : iList K te σ H R := h
def ItV (K : PySem.W.Frag) (x : V) (H : Hp) (R : It → Hp → Prop) : Prop := ∃ a, x = .ref a ∧ (∃ xs, SqT K H a xs) ∧ R (Itt K a) H
theorem r_itup {R : It → Hp → Prop} (h : te σ H fun x H1 => ItV K x H1 R) : iTup K te σ H R := h
theorem r_itup' {a : Addr} {xs : List V} {R : It → Hp → Prop} (hx : SqT K H a xs) (h : R (Itt K a) H) : ItV K (.ref a) H R := ⟨a, rfl, ⟨xs, hx⟩, h⟩
theorem ty_list {a : Addr} {xs : List V} (h : SqL K H a xs) : TyX K H (.ref a) (.type "list") := by
  rcases h with (h | ⟨ob, h⟩) | h
  · exact .base (.lst h)
  · exact .base (.frz h)
  · obtain ⟨o, its, n, h1, h2, _⟩ := h
    exact .kList h1 h2
theorem ty_tup {a : Addr} {xs : List V} (h : H a = some (.tup xs)) : TyX K H (.ref a) (.type "tuple") := .base (.tup h)
theorem r_ilist' {a : Addr} {xs : List V} {R : It → Hp → Prop} (hx : SqL K H a xs) (h : R (Itl K a) H) : IlV K (.ref a) H R := ⟨a, rfl, ⟨xs, hx⟩, h⟩
theorem r_gname {i : Nat} {v : V} {P : L2.St → Hp → Prop} (h : P (σ.set i (some v)) H) : gName i v σ H P := h
theorem r_gtup {K : PySem.W.Frag} {n : Nat} {t : TGs} {a : Addr} {xs : List V} {σ : L2.St} {H : Hp} {P : L2.St → Hp → Prop} (h : SqT K H a xs) (l : xs.length = n) (q : t xs σ H P) : gTup K n t (.ref a) σ H P := ⟨a, xs, rfl, h, l, q⟩
theorem r_gcons {t : TG} {u : TGs} {v : V} {vs : List V} {σ : L2.St} {H : Hp} {P : L2.St → Hp → Prop} (h : t v σ H fun σ2 H2 => u vs σ2 H2 P) : gCons t u (v :: vs) σ H P := ⟨v, vs, rfl, h⟩
theorem r_gnil {σ : L2.St} {H : Hp} {P : L2.St → Hp → Prop} (h : P σ H) : gNil [] σ H P := ⟨rfl, h⟩
/-! ### tests: known, or both ways -/
theorem if_t {b : Bool} {A B : Prop} (e : b = true) (h : A) : if b = true then A else B := by
  rw [if_pos e]
  exact h
theorem if_f {b : Bool} {A B : Prop} (e : b = false) (h : B) : if b = true then A else B := by
  rw [e, if_neg Bool.false_ne_true]
  exact h
theorem if_d {c A B : Prop} [Decidable c] (h1 : c → A) (h2 : ¬ c → B) : if decide c = true then A else B := by
  by_cases h : c
  · rw [if_pos (decide_eq_true h)]
    exact h1 h
  · rw [decide_eq_false h, if_neg Bool.false_ne_true]
    exact h2 h
theorem if_dn {c A B : Prop} [Decidable c] (h1 : ¬ c → A) (h2 : c → B) : if (!decide c) = true then A else B := by
  by_cases h : c
  · rw [decide_eq_true h]
    exact if_f rfl (h2 h)
  · rw [decide_eq_false h]
    exact if_t rfl (h1 h)
theorem r_tt {A B : Prop} (h : A) : if true = true then A else B := if_t rfl h
theorem r_ff {A B : Prop} (h : B) : if false = true then A else B := if_f rfl h
theorem r_ntt {A B : Prop} (h : B) : if (!true) = true then A else B := if_f rfl h
theorem r_nff {A B : Prop} (h : A) : if (!false) = true then A else B := if_t rfl h
theorem r_isi {x c : V} {t u : Value} {b : Bool} (k : ClsV c u) (ty : TyX K H x t) (e : PySem.W.kitOne K t u = some b) (h : Q (.bl b) H) : rIsi K [x, c] H Q := ⟨x, c, t, u, b, rfl, k, ty, e, h⟩
/-! ### lists -/
open Evl (rLenS rListS rMax2)
/-- len(xs), list(xs), tuple(xs) of a list or tuple -/
def rTupS (K : PySem.W.Frag) : List V → Hp → VK → Prop := fun xs H Q => ∃ p ys, xs = [.ref p] ∧ ((SqL K H p ys ∧ ∀ l, H l = none → Q (.ref l) (upd H l (.tup ys))) ∨ (SqT K H p ys ∧ Q (.ref p) H))
theorem call_lenS {X : Cx} : CallR X (.builtin "len") (rLenS X.K) := call_len_seq
theorem call_listS {X : Cx} : CallR X (.type "list") (rListS X.K) := call_list_of
theorem call_tupS {X : Cx} : CallR X (.type "tuple") (rTupS X.K) := call_tuple_of
theorem r_len {p : Addr} {xs : List V} {n : Int} (h : SqL K H p xs ∨ SqT K H p xs) (e : (xs.length : Int) = n) (q : Q (.int n) H) : rLenS K [.ref p] H Q := ⟨p, xs, rfl, h, by rw [e]; exact q⟩
theorem r_list {p : Addr} {xs : List V} (h : SqL K H p xs ∨ SqT K H p xs) (q : ∀ l H1, H l = none → Same H H1 → H1 l = some (.lst xs) → Q (.ref l) H1) : rListS K [.ref p] H Q := ⟨p, xs, rfl, h, r_new q⟩
theorem r_tupL {p : Addr} {xs : List V} (h : SqL K H p xs) (q : ∀ l H1, H l = none → Same H H1 → H1 l = some (.tup xs) → Q (.ref l) H1) : rTupS K [.ref p] H Q := ⟨p, xs, rfl, .inl ⟨h, r_new q⟩⟩
theorem r_tupT {p : Addr} {xs : List V} (h : SqT K H p xs) (q : Q (.ref p) H) : rTupS K [.ref p] H Q := ⟨p, xs, rfl, .inr ⟨h, q⟩⟩
/-- int(n), max(m, n), min(m, n) of ints, n.bit_length() -/
def rInt1 : List V → Hp → VK → Prop := fun xs H Q => (∃ i, xs = [.int i] ∧ Q (.int i) H) ∨ ∃ k, xs = [.bl k] ∧ Q (.int (if k then 1 else 0)) H
theorem call_intS {X : Cx} : CallR X (.type "int") rInt1 := call_int1
theorem r_int1 {i : Int} (h : Q (.int i) H) : rInt1 [.int i] H Q := .inl ⟨i, rfl, h⟩
def rMin2 : List V → Hp → VK → Prop := fun xs H Q => ∃ i j, xs = [.int i, .int j] ∧ Q (.int (if j < i then j else i)) H
theorem call_max2S {X : Cx} (hc : X.calm = true) : CallR X (.builtin "max") rMax2 := call_max2 hc
theorem call_min2S {X : Cx} (hc : X.calm = true) : CallR X (.builtin "min") rMin2 := call_min2 hc
theorem r_max2 {i j : Int} (h : Q (.int (if j > i then j else i)) H) : rMax2 [.int i, .int j] H Q := ⟨i, j, rfl, h⟩
theorem r_min2 {i j : Int} (h : Q (.int (if j < i then j else i)) H) : rMin2 [.int i, .int j] H Q := ⟨i, j, rfl, h⟩
def BitV (x : V) (H : Hp) (Q : VK) : Prop := ∃ i, x = .int i ∧ Q (.int (Builtin.Int.intBits i : Nat)) H
theorem r_bits (h : te σ H fun x H1 => BitV x H1 Q) : tBits te σ H Q := h
theorem r_bitV {i : Int} (h : Q (.int (Builtin.Int.intBits i : Nat)) H) : BitV (.int i) H Q := ⟨i, rfl, h⟩
/-- sum(xs) -/
theorem r_sum {p : Addr} {ns : List Int} (h : SqL K H p (ns.map V.int)) (q : Q (.int ns.sum) H) : rSum K [.ref p] H Q := ⟨p, ns, rfl, h, q⟩
/-- xs[a:b], xs[::-1], xs + ys, xs * k of lists -/
theorem r_sll {p : Addr} {xs : List V} {lo hi : Option Int} (h : SqL K H p xs) (q : ∀ l H1, H l = none → Same H H1 → H1 l = some (.lst (cutV xs lo hi)) → Q (.ref l) H1) : rSlL K (.ref p) lo hi H Q := ⟨p, xs, rfl, h, r_new q⟩
def RevV (K : PySem.W.Frag) (x : V) (H : Hp) (Q : VK) : Prop := ∃ a xs, x = .ref a ∧ SqL K H a xs ∧ ∀ p, H p = none → Q (.ref p) (upd H p (.lst xs.reverse))
theorem r_revl (h : te σ H fun x H1 => RevV K x H1 Q) : tRevL K te σ H Q := h
theorem r_revV {p : Addr} {xs : List V} (h : SqL K H p xs) (q : ∀ l H1, H l = none → Same H H1 → H1 l = some (.lst xs.reverse) → Q (.ref l) H1) : RevV K (.ref p) H Q := ⟨p, xs, rfl, h, r_new q⟩
theorem r_cat {l b : Addr} {xs zs : List V} (h1 : H l = some (.lst xs)) (h2 : H b = some (.lst zs)) (hz : xs.length + zs.length ≤ sizeLine) (q : ∀ p H1, H p = none → Same H H1 → H1 p = some (.lst (xs ++ zs)) → Q (.ref p) H1) : rCat (.ref l) (.ref b) H Q := ⟨l, b, xs, zs, rfl, rfl, h1, h2, hz, r_new q⟩
theorem r_ixl {p : Addr} {xs : List V} {i : Int} {v : V} (h : SqL K H p xs) (e : atI xs i = some v) (q : Q v H) : rIxL K (.ref p) (.int i) H Q := ⟨p, xs, i, v, rfl, rfl, h, e, q⟩
theorem r_ixt {p : Addr} {xs : List V} {i : Int} {v : V} (h : SqT K H p xs) (e : atI xs i = some v) (q : Q v H) : rIxT K (.ref p) (.int i) H Q := ⟨p, xs, i, v, rfl, rfl, h, e, q⟩
theorem r_bm {T : String} {r : V → List V → Hp → VK → Prop} {to : TE} {tA : TA} (h : to σ H fun x H1 => tyV K T x H1 ∧ tA σ H1 fun xs H2 => r x xs H2 Q) : tBM K T r to tA σ H Q := h
theorem r_bm0 {T : String} {r : V → List V → Hp → VK → Prop} {to : TE} (h : to σ H fun x H1 => tyV K T x H1 ∧ r x [] H1 Q) : tBM0 K T r to σ H Q := h
theorem ty_l {p : Addr} {xs : List V} (h : H p = some (.lst xs)) : tyV K "list" (.ref p) H := .inl ⟨rfl, _, sq_of h⟩
theorem r_app {p : Addr} {xs : List V} {y : V} (h : H p = some (.lst xs)) (l : xs.length < sizeLine) (q : ∀ H1, But p H H1 → H1 p = some (.lst (xs ++ [y])) → Q .non H1) : rAppend (.ref p) [y] H Q := ⟨p, xs, y, rfl, rfl, h, l, q _ But.upd upd_same⟩
theorem r_ext {p b : Addr} {xs zs : List V} (h : H p = some (.lst xs)) (hb : H b = some (.lst zs)) (l : xs.length + zs.length ≤ sizeLine) (q : ∀ H1, But p H H1 → H1 p = some (.lst (xs ++ zs)) → Q .non H1) : rExtend (.ref p) [.ref b] H Q := ⟨p, b, xs, zs, rfl, rfl, h, hb, l, q _ But.upd upd_same⟩
theorem r_sub {to ti : TE} {ts : TSet} {v : V} {P : L2.St → Hp → Prop} (h : to σ H fun o H1 => ti σ H1 fun i H2 => ts o i v H2 fun H3 => P σ H3) : gSub to ti ts v σ H P := h
theorem r_asgG {g : TG} (h : te σ H fun x H1 => g x σ H1 D.nx) : tAsg te g D σ H := h
theorem r_setl {p : Addr} {xs : List V} {k : Int} {j : Nat} {v : V} {P : Hp → Prop} (h : H p = some (.lst xs)) (e : ixN xs.length k = some j) (q : ∀ H1, But p H H1 → H1 p = some (.lst (xs.set j v)) → P H1) : rSetL (.ref p) (.int k) v H P := ⟨p, xs, k, j, rfl, rfl, h, e, q _ But.upd upd_same⟩
/-! ### objects -/
def FldV (K : PySem.W.Frag) (f : Str) (x : V) (H : Hp) (Q : VK) : Prop := ∃ a C dx fs v, x = .ref a ∧ H a = some (.ins C dx fs) ∧ Cls K C ∧ NoAttr K C f ∧ fs.lookup f = some v ∧ Q v H
theorem r_fld {f : Str} (h : ta σ H fun x H1 => FldV K f x H1 Q) : tFld K ta f σ H Q := h
def SFldV (K : PySem.W.Frag) (f : Str) (y x : V) (H : Hp) (N : Hp → Prop) : Prop := ∃ a C dx fs, x = .ref a ∧ H a = some (.ins C dx fs) ∧ Cls K C ∧ NoAttr K C f ∧ fs.length < 1000 ∧ N (upd H a (.ins C dx (putF f y fs)))
theorem r_sfld {f : Str} {tv : TE} (h : tv σ H fun y H1 => ta σ H1 fun x H2 => SFldV K f y x H2 fun H3 => D.nx σ H3) : sFld K ta tv f D σ H := h
theorem r_sfldV {f : Str} {y : V} {p C dx : Addr} {fs : List (Str × V)} {N : Hp → Prop} (hp : H p = some (.ins C dx fs)) (cl : Cls K C) (na : NoAttr K C f) (l : fs.length < 1000) (h : ∀ H1, But p H H1 → H1 p = some (.ins C dx (putF f y fs)) → N H1) : SFldV K f y (.ref p) H N := ⟨p, C, dx, fs, rfl, hp, cl, na, l, h _ But.upd upd_same⟩
def MethV (C : Addr) (m : Str) (sp : Sp) (x : V) (t : (List V → Hp → Prop) → Hp → Prop) (dvs : List V) (H : Hp) (Q : VK) (E : XK) : Prop := ∃ a dx fs, x = .ref a ∧ H a = some (.ins C dx fs) ∧ fs.lookup m = none ∧ t (fun vs H2 => sp (x :: (vs ++ dvs)) H2 Q E) H
theorem r_meth {C : Addr} {m : Str} {sp : Sp} {dvs : List V} {E : XK} {tA : TA} (h : ta σ H fun x H1 => MethV C m sp x (fun P H => tA σ H P) dvs H1 Q E) : tMeth C m sp dvs E ta tA σ H Q := h
def MakeV (C : Addr) (sp : Sp) (vs : List V) (H : Hp) (Q : VK) (E : XK) : Prop := ∀ x dx, H x = none → H dx = none → dx ≠ x → sp (.ref x :: vs) (upd (upd H dx (.own x)) x (.ins C dx [])) (fun v H2 => v = .non ∧ Q (.ref x) H2) E
theorem r_make {C : Addr} {sp : Sp} {dvs : List V} {E : XK} {tA : TA} (h : tA σ H fun vs H1 => MakeV C sp (vs ++ dvs) H1 Q E) : tMake C sp dvs E tA σ H Q := h
theorem r_makeV {C : Addr} {sp : Sp} {vs : List V} {E : XK} (h : ∀ x dx H1, H x = none → Same H H1 → H1 x = some (.ins C dx []) → sp (.ref x :: vs) H1 (fun v H2 => v = .non ∧ Q (.ref x) H2) E) : MakeV C sp vs H Q E := fun x dx nx nd ne => h x dx _ nx (fun b o e => by
  rw [upd_ne (ne_of_none e nx), upd_ne (ne_of_none e nd)]
  exact e) upd_same
end
end RC

/-! ### the words: walk_at "go" takes every step that asks nothing; walk_at "hp" looks a fact up along the heaps -/
open RC in
local macro_rules | `(tactic| walk_at "hp") => `(tactic| first
  | assumption
  | exact L2.upd_same
  | exact L2.Same.refl _
  | (with_reducible refine RC.sq_of ?_; walk_at "hp")
  | (with_reducible refine RC.st_of ?_; walk_at "hp")
  | (refine RC.Same.app (by assumption) ?_; walk_at "hp")
  | (refine RC.Same.lst (by assumption) ?_; walk_at "hp")
  | (refine RC.Same.tup (by assumption) ?_; walk_at "hp")
  | (refine RC.Same.dp (by assumption) ?_; walk_at "hp")
  | (refine L2.Same.trans ?_ (by assumption); walk_at "hp"))
local macro_rules | `(tactic| walk_at "st") => `(tactic| first
  | with_reducible refine RC.r_seq ?_
  | with_reducible refine RC.r_asg ?_
  | (with_reducible show L2.tVar _ _ _ _; refine RC.r_var rfl ?_)
  | with_reducible refine RC.r_c ?_
  | with_reducible refine RC.r_op ?_
  | with_reducible refine RC.r_I0 ?_
  | with_reducible refine RC.r_un ?_
  | with_reducible refine RC.r_U ?_
  | (with_reducible show L2.rEq _ _ _ _; refine RC.r_eq rfl ?_)
  | (with_reducible show L2.rNe _ _ _ _; refine RC.r_ne rfl ?_)
  | with_reducible refine RC.r_test ?_
  | with_reducible refine RC.r_B ?_
  | with_reducible refine RC.r_bl ?_
  | with_reducible refine RC.r_int ?_
  | with_reducible refine RC.r_ifs ?_
  | with_reducible refine RC.r_tt ?_
  | with_reducible refine RC.r_ff ?_
  | with_reducible refine RC.r_ntt ?_
  | with_reducible refine RC.r_nff ?_
  | with_reducible refine RC.r_ret ?_
  | with_reducible refine RC.r_drop ?_
  | with_reducible refine RC.r_next ?_
  | with_reducible refine RC.r_cons ?_
  | with_reducible refine RC.r_nil ?_
  | with_reducible refine RC.r_call ?_
  | with_reducible refine RC.r_cb ?_
  | with_reducible refine RC.r_fld ?_
  | with_reducible refine RC.r_sfld ?_
  | with_reducible refine RC.r_meth ?_
  | with_reducible refine RC.r_make ?_
  | with_reducible refine RC.r_not ?_
  | with_reducible refine RC.r_yes ?_
  | with_reducible refine RC.r_and ?_
  | with_reducible refine RC.r_or ?_
  | with_reducible refine RC.r_andV ?_
  | with_reducible refine RC.r_orV ?_
  | with_reducible refine RC.r_notV ?_
  | with_reducible refine RC.r_ifE ?_
  | with_reducible refine RC.r_tup ?_
  | with_reducible refine RC.r_lst ?_
  | with_reducible refine RC.r_slc ?_
  | with_reducible refine RC.r_nopart ?_
  | with_reducible refine RC.r_part ?_
  | with_reducible refine RC.r_par ?_
  | with_reducible refine RC.r_par2 ?_
  | with_reducible refine RC.r_for ?_
  | with_reducible refine RC.r_rng1 ?_
  | with_reducible refine RC.r_ilist ?_
  | with_reducible refine RC.r_itup ?_
  | with_reducible refine RC.r_rng2 ?_
  | with_reducible refine RC.r_bits ?_
  | with_reducible refine RC.r_bitV ?_
  | with_reducible refine RC.r_int1 ?_
  | with_reducible refine RC.r_max2 ?_
  | with_reducible refine RC.r_min2 ?_
  | with_reducible refine RC.r_revl ?_
  | with_reducible refine RC.r_gname ?_
  | with_reducible refine RC.r_gcons ?_
  | with_reducible refine RC.r_gnil ?_
  | with_reducible refine RC.r_bm ?_
  | with_reducible refine RC.r_bm0 ?_
  | with_reducible refine RC.r_sub ?_
  | with_reducible refine RC.r_asgG ?_)
local macro_rules | `(tactic| walk_at "go") => `(tactic| repeat walk_at "st")
/-! ## Operations that the hand layer lacks -/
namespace RC
open PySem PySem.Spec PyProof.Rows L2

/-- a rule of a context, its class table by a name -/
theorem kOf {β : Type _} (F : PySem.W.Frag → β) {G : β → Prop} {K K' : PySem.W.Frag} (h : G (F K')) (e : K' = K) : G (F K) := e ▸ h

/-! ### powers of great numbers -/
def CPowW (i j : Int) : Prop := 0 ≤ j ∧ (Builtin.Int.intBits i : Int) * j ≤ 2 ^ 27
theorem op_powW {X : Cx} : OpR X (binaryOp .Pow) (rI CPowW fun i j => .int (i ^ j.toNat)) := opI fun _ _ _ _ _ _ _ hc q => pow_int hc.1 hc.2 q

/-! ### t[::-1] -/
section
open HT
variable {prog : Program} {w : World} {A : Around} {E : Value → Shared → Prop} {s : Shared}
theorem adjust_rev (n : Nat) : Builtin.Slice.sliceAdjust none none (-1) (n : Int) = ((n : Int) - 1, -1) := rfl
theorem places_rev (n : Nat) : Builtin.Slice.slicePlaces ((n : Int) - 1) (-1) (-1) = n := by
  unfold Builtin.Slice.slicePlaces
  rw [if_neg (by decide)]
  by_cases h : (n : Int) - 1 > -1
  · rw [if_pos h]
    have e : -(-1 : Int) = 1 := rfl
    rw [e, Int.ediv_one]
    omega
  · rw [if_neg h]
    show (0 : Int).toNat = n
    have : n = 0 := by omega
    subst this
    rfl
theorem applied_rev {sl : Addr} {t : Tok} {n : Nat} {Q : Int × Int × Nat → Shared → Prop} (hs : s.heap.IsSliceOf sl .none .none (.int (-1) t))
    (h : Q ((n : Int) - 1, -1, n) s) : wpAny (model prog w) A (Builtin.Slice.sliceApplied (.ref sl) (pure (n : Int))) Q E s := by
  obtain ⟨os, hos, hcs, hds⟩ := id hs
  unfold Builtin.Slice.sliceApplied Builtin.Slice.sliceFields
  refine wpAny_bind (wpAny_bind (wpAny_field hos hds (x := .none) rfl (wpAny_bind (wpAny_field hos hds (x := .none) rfl (wpAny_bind (wpAny_field hos hds (x := .int (-1) t) rfl (wpAny_pure ?_)))))))
  refine wpAny_bind (slicePart_int ?_)
  show wpAny _ _ (if ((-1 : Int) == 0) = true then _ else _) _ _ s
  rw [if_neg (by decide)]
  refine wpAny_bind (slicePart_none (wpAny_bind (slicePart_none (wpAny_bind (wpAny_pure ?_)))))
  show wpAny _ _ (match Builtin.Slice.sliceAdjust none none (-1) (n : Int) with | (lo, hi) => pure (lo, (-1 : Int), Builtin.Slice.slicePlaces lo hi (-1))) _ _ s
  rw [adjust_rev n]
  show wpAny _ _ (pure ((n : Int) - 1, (-1 : Int), Builtin.Slice.slicePlaces ((n : Int) - 1) (-1) (-1))) _ _ s
  rw [places_rev]
  exact wpAny_pure h
theorem pick_rev (xs : Array Value) : ((List.range xs.size).filterMap fun (m : Nat) => xs[(((xs.size : Int) - 1) + (m : Int) * (-1)).toNat]?).toArray = xs.toList.reverse.toArray := by
  congr 1
  apply List.ext_getElem?
  intro i
  have h1 : ∀ k, k ≤ xs.size → (List.range k).filterMap (fun (m : Nat) => xs[(((xs.size : Int) - 1) + (m : Int) * (-1)).toNat]?) = (List.range k).map fun m => xs[xs.size - 1 - m]! := by
    intro k
    induction k with
    | zero => intro _; rfl
    | succ k ih =>
      intro hk
      rw [List.range_succ, List.filterMap_append, List.map_append, ih (by omega)]
      congr 1
      have e : (((xs.size : Int) - 1) + (k : Int) * (-1)).toNat = xs.size - 1 - k := by omega
      have hl : xs.size - 1 - k < xs.size := by omega
      show List.filterMap (fun m : Nat => xs[(((xs.size : Int) - 1) + (m : Int) * (-1)).toNat]?) [k] = [xs[xs.size - 1 - k]!]
      rw [List.filterMap_cons]
      have e2 : xs[(((xs.size : Int) - 1) + (k : Int) * (-1)).toNat]? = some xs[xs.size - 1 - k] := by
        rw [e]
        exact Array.getElem?_eq_getElem hl
      rw [e2]
      show _ :: List.filterMap _ [] = _
      rw [List.filterMap_nil, getElem!_pos xs (xs.size - 1 - k) hl]
  rw [h1 xs.size (Nat.le_refl _), List.getElem?_map]
  by_cases hi : i < xs.size
  · rw [List.getElem?_range hi, List.getElem?_reverse (by simpa using hi)]
    have hl : xs.size - 1 - i < xs.size := by omega
    show some (xs[xs.size - 1 - i]!) = _
    rw [getElem!_pos xs (xs.size - 1 - i) hl, Array.getElem?_toList, Array.length_toList, Array.getElem?_eq_getElem hl]
  · rw [List.getElem?_eq_none (by simpa using hi), List.getElem?_eq_none (by simpa using hi)]
    rfl
/-- what the tuple's own index method does at a key that walks back over the whole -/
theorem back_body {B : Around} {t sl : Addr} {items : Array Value} {tk : Tok} {G : PySem.Fin → Shared → Prop} (ht : IsTup s.heap t items) (hs : s.heap.IsSliceOf sl .none .none (.int (-1) tk)) (few : items.size ≤ sizeLine)
    (done : G (.done (.ret (.ref s.heap.objs.size))) { s with heap := s.heap.push { cls := .type "tuple", data := .seq items.toList.reverse.toArray } }) :
    wpAny (model prog w) B (Builtin.«tuple.__getitem__» ⟨[.ref t, .ref sl], []⟩) G E s := by
  have key : s.TypeIs (.ref sl) "slice" := by
    obtain ⟨o, ho, c, _⟩ := hs
    exact ⟨o, ho, c⟩
  have fits : sizeOk (.seq items.toList.reverse.toArray) := by
    show _ ≤ sizeLine
    simpa using few
  have notWhole : ((((items.size : Int) - 1 : Int) == 0) && ((-1 : Int) == 1) && (items.size == items.size)) = false := by
    rw [show ((-1 : Int) == 1) = false by decide]
    simp
  show wpAny _ _ (Builtin.Tuple.tupleItemsOf (.ref t) >>= _) _ _ s
  refine wpAny_bind (tupleItemsOf_ ht (wpAny_bind (wpAny_typeOf key ?_)))
  rw [if_pos (by decide)]
  refine wpAny_bind (applied_rev hs ?_)
  show wpAny _ _ (if ((((items.size : Int) - 1 : Int) == 0) && ((-1 : Int) == 1) && (items.size == items.size)) = true then _ else _) _ _ s
  rw [notWhole, if_neg Bool.false_ne_true, pick_rev]
  have made := fun (M : Model) (B' : Around) (R : Value → Shared → Prop) (r : R _ _) => wpAny_newObj_type (M := M) (A := B') (E := E) (Q := R) (s := s) (T := "tuple") (dict := none) r fits
  refine wpAny_bind ?_
  first
    | exact made _ _ _ (wpAny_pure done)
    | exact wpAny_bind (made _ _ _ (wpAny_pure (wpAny_pure done)))
theorem tuple_back {t sl : Addr} {items : Array Value} {tk : Tok} {Q : Value → Shared → Prop} (ht : IsTup s.heap t items) (hs : s.heap.IsSliceOf sl .none .none (.int (-1) tk)) (few : items.size ≤ sizeLine)
    (done : Q (.ref s.heap.objs.size) { s with heap := s.heap.push { cls := .type "tuple", data := .seq items.toList.reverse.toArray } }) :
    wpAny (model prog w) A (getItem (.ref t) (.ref sl)) Q E s := by
  have own := ht.typeIs
  have road := PyProof.Rows.slot_tuple_getitem
  unfold getItem
  apply wpAny_holding
  apply wpAny_bind
  apply wpAny_sequenceKey own (by decide)
  apply wpAny_bind
  apply wpAny_callSpecial?_slot own road
  apply wpAny_call_entry road own entry_tuple_getitem _ (args_tuple_getitem _ _)
  exact back_body ht hs few ⟨_, rfl, wpAny_pure done⟩
end
section
variable {X : Cx}
/-- nothing but the part's number is told, and the heap stays -/
def Stays (H : Hp) (n : Option Int) : Option Int → Hp → Prop := fun m H' => m = n ∧ H' = H
/-- the key ::-1 -/
theorem key_back {pins : List (Addr × Obj)} {σ : L2.St} {H : Hp} {s : Shared} {k : Nat} {p1 p2 p3 : Pos} {R : Value → Shared → Prop} (I : Inv X pins σ H s)
    (h : ∀ s' sl tk, Inv X pins σ H s' → s'.heap.IsSliceOf sl .none .none (.int (-1) tk) → R (.ref sl) s') :
    wpAny (model X.prog X.w) X.A (eval (.Slice none none (some (.UnaryOp .USub (.Constant (.int 1) k p1) p2)) p3) X.env) R X.xe s := by
  have minus := po_some (X := X) (pe_un (pos := p2) un_neg (pe_int (i := 1) (j := k) (pos := p1)))
  apply wpAny_Slice
  refine thn (po_none.run pins s σ H (Stays H none) I ⟨rfl, rfl⟩) ?_
  rintro lo s1 ⟨_, _, I1, plo, rfl, rfl⟩
  cases plo
  refine thn (po_none.run pins s1 σ _ (Stays _ none) I1 ⟨rfl, rfl⟩) ?_
  rintro hi s2 ⟨_, _, I2, phi, rfl, rfl⟩
  cases phi
  refine thn (minus.run pins s2 σ _ (Stays _ (some (-1))) I2 ⟨1, rfl, -1, rfl, rfl, rfl⟩) ?_
  rintro st s3 ⟨_, _, I3, pst, rfl, rfl⟩
  cases pst
  rename_i tk
  exact h _ _ tk (I3.kept (t' := s3.toks) fun b ob q => Heap.get?_push_of_some _ q) (Heap.IsSliceOf.new _ .none .none (.int (-1) tk))
def tRevT (K : PySem.W.Frag) (te : TE) : TE := fun σ H Q => te σ H fun x H1 => ∃ a xs, x = .ref a ∧ SqT K H1 a xs ∧ ∀ p, H1 p = none → Q (.ref p) (upd H1 p (.tup xs.reverse))
theorem pe_revT {e : Expr} {te : TE} {k : Nat} {p1 p2 p3 pos : Pos} (he : PE X e te) :
    PE X (.Subscript e (.Slice none none (some (.UnaryOp .USub (.Constant (.int 1) k p1) p2)) p3) pos) (tRevT X.K te) := by
  constructor
  intro pins s σ H Q I h
  apply Subscript_
  refine thn (he.run pins s σ H _ I h) ?_
  rintro v s1 ⟨_, H1, I1, r1, a, xs, rfl, hx, q⟩
  cases r1
  apply key_back I1
  intro s2 sl tk J hsl
  obtain ⟨its, r, ht, hz⟩ := J.tuple hx
  have n := r.length
  refine tail_any (ops := [.ref a, .ref sl]) ht.typeIs PyProof.Rows.slot_tuple_getitem.lookup (tuple_back ht hsl (by simpa [← n] using hz) ?_) (by with_unfolding_all rfl)
  have room : xs.reverse.length ≤ sizeLine := by simpa using hz
  refine ⟨.ref s2.heap.objs.size, _, J.laid (t' := s2.toks) (o := .tup xs.reverse) (fun b ob q => Heap.get?_push_of_some _ q) (Nat.le_refl _) ?there, rfl, q _ (J.hok.fresh (Nat.le_refl _))⟩
  case there => exact ⟨room, its.toArray.toList.reverse, by simpa using r.reverse, _, Heap.get?_push_size _ rfl, rfl, 0, rfl⟩
end

/-! ### a def's promise, called in any surroundings -/
section
variable {X : Cx} {pins : List (Addr × Obj)} {σ : L2.St} {H : Hp} {s : Shared}
theorem run_at {CX : CXT} {A : Around} {k : Nat} {f : Addr} {fd : FuncData} {ps : List Str} {sp : Sp} {E : XK} {Q : VK} {us : List Value} {vs : List V} (F : FnOk X.prog X.w X.K X.mg X.base CX k f fd ps sp) (hr : Room k A)
    (e0 : Env0 X.prog X.w X.K X.mg X.base A X.stack s H) (hb : Binds X.K fd ps []) (hx : Passes CX X E) (I : Inv X pins σ H s) (r : Vals vs us) (h : sp vs H Q E) : wpAny (model X.prog X.w) A (call (.ref f) us) (EP X pins σ Q) X.xe s := by
  have hl : us.length = ps.length := r.length.symm.trans (F.len _ _ _ _ h)
  refine wpAny_call (codeAny_mono (F.run A X.stack s H ⟨us, []⟩ us vs Q E hr e0 (by
    have := hb s us I.kIn (by simpa using hl)
    simpa using this) r h) fun q s' hq => ?_)
  cases q with
  | error e => exact hx pins σ H s e s' I hq
  | ok fl =>
    cases fl with
    | ret w => exact I.after hq
    | next => exact False.elim hq
    | brk => exact False.elim hq
    | cont => exact False.elim hq

/-! ### len(o), o == p, o != p by own methods -/
/-- what an own method of a plain class promises at an object of this class -/
def rLenO (C : Addr) (sp : Sp) (E : XK) : List V → Hp → VK → Prop := fun xs H Q => ∃ a dx fs, xs = [.ref a] ∧ H a = some (.ins C dx fs) ∧ sp [.ref a] H (fun v H' => ∃ n : Int, v = .int n ∧ (0 ≤ n ∧ n < 2 ^ 63) ∧ Q (.int n) H') E
theorem call_lenOwn {CX : CXT} {C f : Addr} {k : Nat} {fd : FuncData} {ps : List Str} {sp : Sp} {E : XK} (hm : Meth X.K C "__len__" f) (F : FnOk X.prog X.w X.K X.mg X.base CX k f fd ps sp) (hr : Room (k + 1) X.A) (hb : Binds X.K fd ps []) (hx : Passes CX X E) :
    CallR X (.builtin "len") (rLenO C sp E) := by
  intro pins s σ H xs us Q I r h
  obtain ⟨a, dx, fs, rfl, ha, h⟩ := h
  obtain ⟨u, rfl, ru⟩ := vals1 r
  cases (show u = Value.ref a from ru)
  obtain ⟨mA, J, _⟩ := ins_get I.hok ha
  obtain ⟨od, J, _⟩ := J.look
  obtain ⟨m, hF⟩ := I.fr
  refine PySem.W.len_K hF I.ok.mod.kin J hm.at_ hm.fn (wpAny_mono (run_at F hr.in1 I.env0.in1 hb hx I r h) (fun v s' hv => ?_) fun _ _ x => x)
  obtain ⟨v', H', I', rv, n, ev, hn, q⟩ := hv
  subst ev
  obtain ⟨t, rfl⟩ := rv
  exact ⟨hn, .int n, H', I'.tok _, ⟨_, rfl⟩, q⟩
/-- what may stand on the other side: a value of a known type, no subclass -/
def Other (K : PySem.W.Frag) (C : Addr) (H : Hp) (y : V) : Prop := ∃ t, TyX K H y t ∧ PySem.W.notFirst K C t = true
theorem other_looks {C : Addr} {y : V} {u : Value} (I : Inv X pins σ H s) (r : RelV y u) (o : Other X.K C H y) : ∃ t, PySem.W.Looks (model X.prog X.w) s.heap (typeOf u) t ∧ PySem.W.notFirst X.K C t = true := by
  obtain ⟨t, ty, nf⟩ := o
  obtain ⟨P, Z, p, _⟩ := kit_of I r ty
  exact ⟨t, Z.ty _ _ I.kIn p, nf⟩
def rEqO (K : PySem.W.Frag) (C : Addr) (sp : Sp) (E : XK) : R2 := fun x y H Q => ∃ a dx fs, x = .ref a ∧ H a = some (.ins C dx fs) ∧ Other K C H y ∧ sp [.ref a, y] H (fun v H' => ∃ k, v = .bl k ∧ Q (.bl k) H') E
theorem op_eqOwn {CX : CXT} {C f : Addr} {k : Nat} {fd : FuncData} {ps : List Str} {sp : Sp} {E : XK} (hm : Meth X.K C "__eq__" f) (F : FnOk X.prog X.w X.K X.mg X.base CX k f fd ps sp) (hr : Room k X.A) (hb : Binds X.K fd ps []) (hx : Passes CX X E) :
    OpR X (compareOp .Eq) (rEqO X.K C sp E) := by
  intro pins s σ H x y v u Q I rx ry h
  obtain ⟨a, dx, fs, rfl, ha, oy, h⟩ := h
  cases (show v = Value.ref a from rx)
  obtain ⟨mA, J, _⟩ := ins_get I.hok ha
  obtain ⟨od, J, _⟩ := J.look
  obtain ⟨m, hF⟩ := I.fr
  obtain ⟨t, lt, nf⟩ := other_looks I ry oy
  show wpAny (model X.prog X.w) X.A (richCompare .Eq (.ref a) u) (EP X pins σ Q) X.xe s
  refine PySem.W.cmp_K (op := .Eq) hr.units0 hF I.ok.mod.kin J lt nf hm.at_ hm.fn (wpAny_mono (run_at F hr I.env0 hb hx I (us := [.ref a, u]) (vs := [.ref a, y]) (.cons rfl (.cons ry .nil)) h) (fun w' s' hv => ?_) fun _ _ x => x)
  obtain ⟨v', H', I', rv, k', ev, q⟩ := hv
  subst ev
  cases (show w' = Value.bool k' from rv)
  exact ⟨.bl k', H', I', rfl, q⟩
theorem bound_builtin {M : Model} {A : Around} {E : Value → Shared → Prop} {s : Shared} {K : PySem.W.Frag} {x C : Addr} {ox : Obj} {od : Option Obj} {name : Str} {id : String} {args : List Value} {Q : Option Value → Shared → Prop} (X : K.In s.heap) (I : PySem.W.InstAt s.heap x ox C od)
    (hs : PySem.W.findIn K (.ref C) name = some (some (.builtin id))) (hb : ∀ self, bindSpecial (.builtin id) self = pure (.builtin id, [self]))
    (h : wpAny M A (call (.builtin id) (.ref x :: args)) (fun v => Q (some v)) E s) : wpAny M A (callSpecialIfBound? (.ref x) name args) Q E s := by
  simp only [callSpecialIfBound?, bindSpecialIfBound?]
  refine wpAny_holding (wpAny_bind (wpAny_bind (wpAny_bind (I.type.here ((PySem.W.looks_findIn X hs).here ?_)))))
  simp only [hb]
  refine wpAny_bind (wpAny_askSetting (wpAny_ite ?_))
  have fin : wpAny M A (call (.builtin id) ([.ref x] ++ args) >>= fun v => pure (some v)) Q E s := wpAny_bind (wpAny_mono h (fun v s' h' => wpAny_pure h') fun _ _ h' => h')
  split
  · exact wpAny_bind (wpAny_pure (wpAny_pure fin))
  · exact wpAny_tryCatch (wpAny_bind (wpAny_pure (wpAny_pure fin)))
/-- object.__ne__ of an own class that has __eq__ alone -/
theorem ne_core {prog : Program} {w : World} {A : Around} {E : Value → Shared → Prop} {s : Shared} {K : PySem.W.Frag} {x C L f : Addr} {h_0 : Heap} {m : Str → Option Value} {ox : Obj} {od : Option Obj} {b tb : Value} {Q : Value → Shared → Prop}
    (hu : A.units + 1 < cLine) (F : Fr h_0 L s.heap m) (X_0 : K.In h_0) (I : PySem.W.InstAt s.heap x ox C od) (hb : PySem.W.Looks (model prog w) s.heap (typeOf b) tb) (hn : PySem.W.notFirst K C tb = true)
    (hne : PySem.W.findIn K (.ref C) "__ne__" = some (some (.builtin "object.__ne__"))) (heq : PySem.W.findIn K (.ref C) "__eq__" = some (some (.ref f))) (hf : PySem.W.isFn K (.ref f) = true) (hob : PySem.W.mroIn K C (.type "object") = some true)
    (h : wpAny (model prog w) A.in1 (call (.ref f) [.ref x, b]) (fun v s' => ∃ k, v = .bool k ∧ Q (.bool (!k)) s') E s) : wpAny (model prog w) A (richCompare .NotEq (.ref x) b) Q E s := by
  have X := X_0.keeps F.keep
  have entry : wpAny (model prog w) A.in1 (Builtin.«object.__ne__» ⟨[.ref x, b], []⟩) (fun f s' => ∃ k : Bool, f = .done (.ret (.bool k)) ∧ Q (.bool k) s') E s := by
    unfold Builtin.«object.__ne__»
    repeat (first
      | with_reducible refine wpAny_cRoomFor hu ?_
      | (refine wpAny_bind (m := callSpecialIfBound? (.ref x) (Str.ofString "__eq__") [b])
          (PySem.W.ifBound_K X I heq hf (wpAny_mono h (fun r s' hr => by
            obtain ⟨k, rfl, hq⟩ := hr
            repeat (first | exact ⟨_, rfl, hq⟩ | exact wpAny_pure ⟨_, rfl, hq⟩ | exact wpAny_truthy_bool ⟨_, rfl, hq⟩ | (refine wpAny_bind (m := truthy (.bool _)) (wpAny_truthy_bool ?_)) | wp_step)) fun _ _ e => e)))
      | wp_step)
  have sub : PySem.W.Looks (model prog w) s.heap (isInstance (.ref x) (.type "object")) true := I.type.andThen (PySem.W.looks_mroIn X hob)
  have S := PySem.F.cmp_object.ne
  have cl : wpAny (model prog w) A (call (.builtin "object.__ne__") [.ref x, b]) (fun v s' => ∃ k : Bool, v = .bool k ∧ Q (.bool k) s') E s := by
    refine wpAny_call (codeAny_call_builtin S.plain PySem.F.cmpEntry_ne (PySem.W.check_slot PySem.F.cmpKind_ne PySem.F.cmpSplit_ne sub (PySem.F.cmpArgs_ne _ _) (wpAny_mono entry (fun f s' hf' => ?_) fun _ _ e => e)))
    obtain ⟨k, rfl, hq⟩ := hf'
    exact ⟨k, rfl, hq⟩
  have one : wpAny (model prog w) A (tryCompare (.ref x) "__ne__" b) (fun r s' => ∃ k : Bool, r = some (.bool k) ∧ Q (.bool k) s') E s := by
    unfold tryCompare
    refine wpAny_bind (bound_builtin X I hne S.bind (wpAny_mono cl (fun v s' hv => ?_) fun _ _ e => e))
    obtain ⟨k, rfl, hq⟩ := hv
    exact wpAny_pure ⟨k, rfl, hq⟩
  unfold richCompare
  simp only [oneThing_ref]
  refine wpAny_holding (wpAny_bind (wpAny_cRoomFor (Nat.lt_of_succ_lt hu) ?_))
  refine wpAny_bind (I.type.here (wpAny_bind (hb.here ?_)))
  split
  · rename_i q
    have e : PySem.W.subIn K tb (.ref C) = some false := by
      rcases Bool.or_eq_true_iff.mp hn with e | e
      · rw [beq_iff_eq.mp e] at q; simp at q
      · exact beq_iff_eq.mp e
    refine wpAny_bind ((PySem.W.looks_subIn X e).here ?_)
    simp only [Bool.false_eq_true, if_false]
    refine wpAny_bind (wpAny_mono one (fun r s' z => ?_) fun _ _ e => e)
    obtain ⟨v, rfl, hq⟩ := z
    exact wpAny_pure hq
  · refine wpAny_bind (wpAny_pure ?_)
    simp only [Bool.false_eq_true, if_false]
    refine wpAny_bind (wpAny_mono one (fun r s' z => ?_) fun _ _ e => e)
    obtain ⟨v, rfl, hq⟩ := z
    exact wpAny_pure hq
def rNeO (K : PySem.W.Frag) (C : Addr) (sp : Sp) (E : XK) : R2 := fun x y H Q => ∃ a dx fs, x = .ref a ∧ H a = some (.ins C dx fs) ∧ Other K C H y ∧ sp [.ref a, y] H (fun v H' => ∃ k, v = .bl k ∧ Q (.bl (!k)) H') E
theorem op_neOwn {CX : CXT} {C f : Addr} {k : Nat} {fd : FuncData} {ps : List Str} {sp : Sp} {E : XK} (hm : Meth X.K C "__eq__" f) (hne : PySem.W.findIn X.K (.ref C) "__ne__" = some (some (.builtin "object.__ne__"))) (hob : PySem.W.mroIn X.K C (.type "object") = some true)
    (F : FnOk X.prog X.w X.K X.mg X.base CX k f fd ps sp) (hr : Room (k + 1) X.A) (hb : Binds X.K fd ps []) (hx : Passes CX X E) :
    OpR X (compareOp .NotEq) (rNeO X.K C sp E) := by
  intro pins s σ H x y v u Q I rx ry h
  obtain ⟨a, dx, fs, rfl, ha, oy, h⟩ := h
  cases (show v = Value.ref a from rx)
  obtain ⟨mA, J, _⟩ := ins_get I.hok ha
  obtain ⟨od, J, _⟩ := J.look
  obtain ⟨m, hF⟩ := I.fr
  obtain ⟨t, lt, nf⟩ := other_looks I ry oy
  show wpAny (model X.prog X.w) X.A (richCompare .NotEq (.ref a) u) (EP X pins σ Q) X.xe s
  refine ne_core (by have := hr.units; omega) hF I.ok.mod.kin J lt nf hne hm.at_ hm.fn hob (wpAny_mono (run_at F hr.in1 I.env0.in1 hb hx I (us := [.ref a, u]) (vs := [.ref a, y]) (.cons rfl (.cons ry .nil)) h) (fun w' s' hv => ?_) fun _ _ x => x)
  obtain ⟨v', H', I', rv, k', ev, q⟩ := hv
  subst ev
  cases (show w' = Value.bool k' from rv)
  exact ⟨k', rfl, .bl (!k'), H', I', rfl, q⟩
end
end RC
/-! ## Data as a whole: ints, lists, tuples; what == and < say of them -/
namespace RC
open PySem PySem.Spec PyProof.Rows L2
abbrev iv (ns : List Int) : List V := ns.map V.int
abbrev dI (ns : List Int) : PyData := .list (ns.map .int)
abbrev tI (ns : List Int) : PyData := .tuple (ns.map .int)
section
variable {K : PySem.W.Frag} {H : Hp} {a b : Addr} {ns ms : List Int}
theorem dpa_ints : ∀ ns : List Int, DpAll K H (iv ns) (ns.map .int)
  | [] => .nil
  | n :: ns => .cons (.int n) (dpa_ints ns)
theorem dp_ints (h : SqL K H a (iv ns)) : Dp K H (.ref a) (dI ns) := .lst h (dpa_ints ns)
theorem dp_tints (h : SqT K H a (iv ns)) : Dp K H (.ref a) (tI ns) := .tup h (dpa_ints ns)
theorem lay_ints : ∀ ns : List Int, PyData.canLayAll0 (ns.map .int) = true
  | [] => by simp [PyData.canLayAll0]
  | n :: ns => by simp [PyData.canLayAll0, PyData.canLay0, lay_ints ns]
theorem dep_ints : ∀ ns : List Int, PyData.depthAll (ns.map .int) = 0
  | [] => by simp [PyData.depthAll]
  | n :: ns => by simp [PyData.depthAll, PyData.depth, dep_ints ns]
theorem shaped_dI (ns : List Int) : SeqAt.shaped (dI ns) = true := by simp [SeqAt.shaped, PyData.canLay0, PyData.depth, lay_ints, dep_ints]
theorem shaped_tI (ns : List Int) : SeqAt.shaped (tI ns) = true := by simp [SeqAt.shaped, PyData.canLay0, PyData.depth, lay_ints, dep_ints]
theorem eqvAll_ints : ∀ ns ms : List Int, PyData.eqvAll (ns.map .int) (ms.map .int) = decide (ns = ms)
  | [], [] => by simp [PyData.eqvAll]
  | [], m :: ms => by simp [PyData.eqvAll]
  | n :: ns, [] => by simp [PyData.eqvAll]
  | n :: ns, m :: ms => by
    rw [List.map_cons, List.map_cons, PyData.eqvAll, eqvAll_ints ns ms, PyData.eqv]
    by_cases h : n = m
    · subst h
      simp
    · have e : (n == m) = false := by simpa using h
      rw [e, Bool.false_and, decide_eq_false]
      intro q
      exact h (List.cons.inj q).1
theorem eqv_dI (ns ms : List Int) : PyData.eqv (dI ns) (dI ms) = decide (ns = ms) := by rw [PyData.eqv, eqvAll_ints]
theorem eqv_tI (ns ms : List Int) : PyData.eqv (tI ns) (tI ms) = decide (ns = ms) := by rw [PyData.eqv, eqvAll_ints]
theorem r_eqD {x y : V} {d e : PyData} {Q : VK} (hx : Dp K H x d) (hy : Dp K H y e) (sd : SeqAt.shaped d = true) (se : SeqAt.shaped e = true) (h : Q (.bl (PyData.eqv d e)) H) : rEqD K x y H Q := ⟨d, e, hx, hy, sd, se, h⟩
theorem r_neD {x y : V} {d e : PyData} {Q : VK} (hx : Dp K H x d) (hy : Dp K H y e) (sd : SeqAt.shaped d = true) (se : SeqAt.shaped e = true) (h : Q (.bl (!PyData.eqv d e)) H) : rNeD K x y H Q := ⟨d, e, hx, hy, sd, se, h⟩
theorem r_eqI {Q : VK} (hx : SqL K H a (iv ns)) (hy : SqL K H b (iv ms)) (h : Q (.bl (decide (ns = ms))) H) : rEqD K (.ref a) (.ref b) H Q := r_eqD (dp_ints hx) (dp_ints hy) (shaped_dI _) (shaped_dI _) (by rw [eqv_dI]; exact h)
theorem r_neI {Q : VK} (hx : SqL K H a (iv ns)) (hy : SqL K H b (iv ms)) (h : Q (.bl (!decide (ns = ms))) H) : rNeD K (.ref a) (.ref b) H Q := r_neD (dp_ints hx) (dp_ints hy) (shaped_dI _) (shaped_dI _) (by rw [eqv_dI]; exact h)
theorem r_eqT {Q : VK} (hx : SqT K H a (iv ns)) (hy : SqT K H b (iv ms)) (h : Q (.bl (decide (ns = ms))) H) : rEqD K (.ref a) (.ref b) H Q := r_eqD (dp_tints hx) (dp_tints hy) (shaped_tI _) (shaped_tI _) (by rw [eqv_tI]; exact h)
theorem at_ints {j : Nat} {v : Int} (h : ns[j]? = some v) : atI (iv ns) (j : Int) = some (.int v) := atI_nat (by rw [List.getElem?_map, h]; rfl)
theorem at_ints_last {v : Int} (h : ns.getLast? = some v) : atI (iv ns) (-1) = some (.int v) := by
  have hne : ns ≠ [] := fun e => by rw [e] at h; cases h
  have e : iv ns = iv ns.dropLast ++ [V.int v] := by
    have h2 : ns.dropLast ++ [v] = ns := by
      have := List.dropLast_concat_getLast hne
      rw [List.getLast?_eq_some_getLast hne] at h
      rw [← Option.some.inj h]
      exact this
    show ns.map V.int = ns.dropLast.map V.int ++ [V.int v]
    rw [← h2]
    simp
  rw [e]
  exact atI_last _ _
end
end RC
/-! ## The head's facts, and what isinstance and != ask of own classes besides -/
namespace RC
open PySem PySem.Spec PyProof.Rows L2 He
/-- what isinstance and != ask of an own class -/
structure ClsX (K : PySem.W.Frag) (C : Addr) : Prop where
  ha : PySem.W.findIn K (.ref C) "__class__" = some (some (.builtin "object.__class__"))
  hn : PySem.W.specialIn K (.builtin "object.__class__") "__get__" = some (some (.builtin "getset_descriptor.__get__"))
  htk : PySem.W.takesIn K (.builtin "object.__class__") = some true
  hm : PySem.W.mroIn K C (.type "object") = some true
  ne : PySem.W.findIn K (.ref C) "__ne__" = some (some (.builtin "object.__ne__"))
def clsB (K : PySem.W.Frag) (x : Str) : Bool :=
  decide (PySem.W.findIn K (.ref (ga K x)) "__class__" = some (some (.builtin "object.__class__"))) && (decide (PySem.W.specialIn K (.builtin "object.__class__") "__get__" = some (some (.builtin "getset_descriptor.__get__"))) &&
    (decide (PySem.W.takesIn K (.builtin "object.__class__") = some true) && (decide (PySem.W.mroIn K (ga K x) (.type "object") = some true) && decide (PySem.W.findIn K (.ref (ga K x)) "__ne__" = some (some (.builtin "object.__ne__"))))))
theorem clsB_ok {K : PySem.W.Frag} {x : Str} (h : clsB K x = true) : ClsX K (ga K x) := by
  obtain ⟨h1, h⟩ := ba h
  obtain ⟨h2, h⟩ := ba h
  obtain ⟨h3, h⟩ := ba h
  obtain ⟨h4, h5⟩ := ba h
  exact ⟨of_decide_eq_true h1, of_decide_eq_true h2, of_decide_eq_true h3, of_decide_eq_true h4, of_decide_eq_true h5⟩
/-- a class by its name: a built-in, an own one -/
inductive Tn where
  | ty (n : String)
  | own (x : Str)
def Tn.v (K : PySem.W.Frag) : Tn → Value
  | .ty n => .type n
  | .own x => .ref (ga K x)
/-- isinstance's answer for a value of the class a, asked of b -/
structure Kq where
  a : Tn
  b : Tn
  r : Bool
def Kq.ok (K : PySem.W.Frag) (q : Kq) : Bool := decide (PySem.W.kitOne K (q.a.v K) (q.b.v K) = some q.r)
theorem kq_ok {K : PySem.W.Frag} {q : Kq} (h : q.ok K = true) : PySem.W.kitOne K (q.a.v K) (q.b.v K) = some q.r := of_decide_eq_true h
/-- is the class a told apart from, and no subclass of, the own class at x -/
structure Nf where
  x : Str
  t : Tn
def Nf.ok (K : PySem.W.Frag) (q : Nf) : Bool := PySem.W.notFirst K (ga K q.x) (q.t.v K)
abbrev AlR : Type := AlD × Bool
def obsR (fa : List Fa) (fn : List DefD) (cs : List Str) (ks : List Kq) (ns : List Nf) (K : PySem.W.Frag) : AlR := (obsD fa fn K, (cs.all fun x => clsB K x) && ((ks.all fun q => q.ok K) && ns.all fun q => q.ok K))
def valR (fn : List DefD) : AlR := (valD fn, true)
def SaysR (fa : List Fa) (fn : List DefD) (cs : List Str) (ks : List Kq) (ns : List Nf) (K : PySem.W.Frag) : Prop := obsR fa fn cs ks ns K = valR fn
def obsRG (n : Nat) (fa : List Fa) (fn : List DefD) (cs : List Str) (ks : List Kq) (ns : List Nf) (g : Addr → Option Obj) : AlR := obsR fa fn cs ks ns (frG g (asD g n))
def hookR (n : Nat) (fa : List Fa) (fn : List DefD) (cs : List Str) (ks : List Kq) (ns : List Nf) : PySem.W.Hook where
  α := AlR
  obs := fun s => obsRG n fa fn cs ks ns s.heap.get?
  val := fun _ => valR fn
  says := fun _ h => ∃ K : PySem.W.Frag, K.In h ∧ SaysR fa fn cs ks ns K
  of := fun _ _ e => ⟨_, frG_in, e⟩
  keeps := fun _ _ _ ⟨K, hK, c⟩ k => ⟨K, PySem.W.Frag.In.keeps hK k, c⟩
theorem obsRG_eq {n : Nat} {fa : List Fa} {fn : List DefD} {cs : List Str} {ks : List Kq} {ns : List Nf} {g : Addr → Option Obj} {s : Shared} (h : ∀ a, g a = s.heap.get? a) : obsRG n fa fn cs ks ns g = (hookR n fa fn cs ks ns).obs s := by
  have e : g = s.heap.get? := funext h
  rw [e] <;> rfl
section
variable {fa : List Fa} {fn : List DefD} {cs : List Str} {ks : List Kq} {ns : List Nf} {K : PySem.W.Frag}
theorem SaysR.d (c : SaysR fa fn cs ks ns K) : SaysD fa fn K := congrArg (fun z : AlR => z.1) c
theorem SaysR.ex (c : SaysR fa fn cs ks ns K) : ((cs.all fun x => clsB K x) && ((ks.all fun q => q.ok K) && ns.all fun q => q.ok K)) = true := congrArg (fun z : AlR => z.2) c
theorem SaysR.cls (c : SaysR fa fn cs ks ns K) (i : Nat) {x : Str} (h : cs[i]? = some x := by rfl) : ClsX K (ga K x) := clsB_ok (List.all_eq_true.mp (ba c.ex).1 x (List.mem_of_getElem? h))
theorem SaysR.kit (c : SaysR fa fn cs ks ns K) (i : Nat) {q : Kq} (h : ks[i]? = some q := by rfl) : PySem.W.kitOne K (q.a.v K) (q.b.v K) = some q.r := kq_ok (List.all_eq_true.mp (ba (ba c.ex).2).1 q (List.mem_of_getElem? h))
theorem SaysR.nf (c : SaysR fa fn cs ks ns K) (i : Nat) {q : Nf} (h : ns[i]? = some q := by rfl) : PySem.W.notFirst K (ga K q.x) (q.t.v K) = true := List.all_eq_true.mp (ba (ba c.ex).2).2 q (List.mem_of_getElem? h)
end
end RC
/-! ## Own errors: class X(ClerkError) with def __init__(self, value=None): super().__init__(value); self.value = value -/
namespace RC
open PySem PySem.Spec PyProof.Rows L2
open PySem.W PySem.Calls
abbrev vB : List Value := [.type "ValueError", .type "Exception", .type "BaseException", .type "object"]
def eAr (p1 p2 p3 : Pos) : Arguments := { posonlyargs := [], args := [{ arg := "self", annotation := none, pos := p1 }, { arg := "value", annotation := none, pos := p2 }], vararg := none, kwonlyargs := [], kw_defaults := [], kwarg := none, defaults := [.Constant .none 0 p3] }
def eBo (q1 q2 q3 q4 q5 q6 q7 q8 q9 q10 : Pos) : List Stmt := [.Expr (.Call (.Attribute (.Call (.Name "super" q1) [] [] q2) "__init__" q3) [.Name "value" q4] [] q5) q6, .Assign [.Attribute (.Name "self" q7) "value" q8] (.Name "value" q9) q10]
def eSc : Scope := { kind := .function, names := [(PySem.Str.ofString "self", .local), (PySem.Str.ofString "value", .local), (PySem.Str.ofString "__class__", .free), (PySem.Str.ofString "super", .globalImplicit)], isGenerator := false, isCoroutine := false, more := [] }
/-- what the written part says of the error class at C and its __init__ at fI -/
structure ErrC (P : Program) (K : Frag) (mg : Str → Option Value) (C fI : Addr) : Prop where
  ini : ∃ nm q N bs bm sn sub ab col dd k0 k1 k2 k3 k5, K.lookup C = some (excClassObj nm q C N bs bm true sn sub ab col dd k0 k1 k2 k3 k5 "ValueError.__new__") ∧ HandSPX.refsVE bm = true
  sa : findIn K (.ref C) "__setattr__" = some (some (.builtin "object.__setattr__"))
  ga : findIn K (.ref C) "__getattribute__" = some (some (.builtin "BaseException.__getattribute__"))
  gg : findIn K (.ref C) "__getattr__" = some none
  no : findIn K (.ref C) "value" = some none
  iC : findIn K (.ref C) "__init__" = some (some (.ref fI))
  tI : typeIn K (.ref fI) = some (.type "function")
  kC : keepIn K (.ref C) = true
  exC : subIn K (.ref C) (.type "BaseException") = some true
  veC : subIn K (.ref C) (.type "ValueError") = some true
  tyC : typeIn K (.ref C) = some (.type "type")
  hdC : hasDictIn K C = true
  mC : mroIn K C (.ref C) = some true
  eI : excInitIn K C vB "ValueError.__new__" = true
  sup : ks_superIn K C C "__init__" = some (some (.builtin "ValueError.__init__"))
  opq : nsIn K cStatics "thirdparty.any" = some none
  nsu : mg "super" = none
  top : (P.main.scope.names.lookup ("super" : Str)).isSome = false
  fn : ∃ (oc cl ccl : Value) (od cdd cld : Option Addr) (qual : Str) (dV kV doc pm ct : Value) (an : Option Addr) (osl ccs csl : Array (Option Value)) (cda cc : Addr) (vs : Array Value) (file : Str) (tf : Tok) (p1 p2 p3 q1 q2 q3 q4 q5 q6 q7 q8 q9 q10 : Pos),
    K.lookup fI = some ⟨oc, od, .func (ksFn "__init__" qual (eAr p1 p2 p3) (eBo q1 q2 q3 q4 q5 q6 q7 q8 q9 q10) eSc dV kV doc pm an (.ref cda) ct cc), osl⟩ ∧ codeIn K (.ref cda) qual = true ∧
      K.lookup cda = some ⟨ccl, cdd, .fields vs, ccs⟩ ∧ vs[2]? = some (.str file tf) ∧ ((P.main.file : Str) == file) = true ∧ K.lookup cc = some ⟨cl, cld, .cell (some (.ref C)), csl⟩ ∧
      (q3.endLine == q5.line) = true ∧ (∃ (Td : Addr) (o : Obj) (n : Nat), dV = .ref Td ∧ K.lookup Td = some o ∧ o.data = .seq #[.none] n)
/-- what stands beside the class table -/
structure Beside (mg : Str → Option Value) (h : Heap) : Prop where
  g : h.Ns mainGlobals mg
  b : ∃ mb, h.Ns builtinsNs mb ∧ ∀ x : Str, x ≠ "__name__" → mb x = bootBuiltins x
  lim : h.NoLimit
/-- an error made: at e, its dict at d -/
structure ErrMade (h h' : Heap) (e C d : Addr) (v : Value) : Prop where
  keep : ∀ b o, h.get? b = some o → h'.get? b = some o
  new : h.objs.size ≤ e
  obj : ∃ oe vs, h'.get? e = some oe ∧ oe.cls = .ref C ∧ oe.dict = some d ∧ oe.data = .fields vs ∧ vs[1]? = some .none
  dbig : h.objs.size ≤ d
  dne : d ≠ e
  ns : h'.Ns1 d (fun y => if y = "value" then some v else none)
theorem ld_loc {M : Model} {A : Around} {E : Value → Shared → Prop} {s : Shared} {env : Env} {m : Str → Option Value} {x : Str} {pos : Pos} {v : Value} {Q : Value → Shared → Prop} (hn : s.heap.Ns env.locals m) (hv : m x = some v) (h : Q v s)
    (hk : env.scope.kind = .function := by rfl) (hl : env.kindOf x = some .local := by rfl) (hd : (x == ("__debug__" : Str)) = false := by decide) : wpAny M A (eval (.Name x pos) env) Q E s :=
  wpAny_Name (wpAny_loadName_local hk hl hn hv h) hd
theorem meth_pos {o : Expr} {env : Env} {apos pos : Pos} (h : (apos.endLine == pos.line) = true) : methodCallPos true o env apos pos = pure pos := by
  unfold methodCallPos
  rw [if_pos (by rw [h]; rfl)]
theorem meth_eval {o e : Expr} {name : Str} {apos pos : Pos} {env : Env} (h : (apos.endLine == pos.line) = true) (hst : starEach [e] env = [(false, eval e env)]) : eval (.Call (.Attribute o name apos) [e] [] pos) env = (do
    let ov ← attributeBase o name env (eval o env)
    standAt apos.atName
    let (f, first) ← holding [ov] (getMethod ov name (do return (← importBound o env).getD true))
    callWith pos f first (backTo pos (starEach [e] env)) []) := by
  rw [arm_eval_Call]
  congr 1
  funext ov
  congr 1
  funext _
  unfold methodCall
  have hf : methodCallForm ([e].length + ([] : List Keyword).length) (backTo pos (starEach [e] env)) (backToKw pos (keywordEach [] env)) = true := by
    rw [hst]
    rfl
  rw [hf]
  unfold calleeOf
  rw [if_pos rfl]
  simp only [meth_pos h, pure_bind]
  rfl
section
variable {prog : Program} {w : World} {A : Around} {E : Value → Shared → Prop} {R : Result → Shared → Prop} {s : Shared} {K : Frag} {mg : Str → Option Value} {C fI : Addr}
/-- the body of __init__, behind the entry: x the new error -/
theorem err_init (T : ErrC prog K mg C fI) {h0 : Heap} {x t0 : Addr} {v : Value} (X : K.In h0) (G : Beside mg h0) (k0 : ∀ b o, h0.get? b = some o → s.heap.get? b = some o) (hx : s.heap.get? x = some (excObj C t0 none .none)) (nx : h0.get? x = none) (hz : h0.objs.size ≤ s.heap.objs.size) (hroom : A.depth < recursionLimit)
    (hq : ∀ h' tk dx t1, (∀ b o, h0.get? b = some o → h'.get? b = some o) → h'.get? x = some { cls := .ref C, dict := some dx, data := .fields #[.ref t1, .none, .none, .none, .bool false, .none] } → h0.objs.size ≤ dx → dx ≠ x → h'.Ns1 dx (fun y => if y = "value" then some v else none) → R (.ok (.ret .none)) { s with heap := h', toks := tk }) :
    codeAny (model prog w) A (.call (.ref fI) ⟨[.ref x, v], []⟩) R s := by
  obtain ⟨oc, cl, ccl, od, cdd, cld, qual, dV, kV, doc, pm, ct, an, osl, ccs, csl, cda, cc, vs, file, tf, p1, p2, p3, q1, q2, q3, q4, q5, q6, q7, q8, q9, q10, ho, hcd, hcode, hvs, hfile, hcell, hpos, Td, oT, nT, rfl, hT, hTd⟩ := T.fn
  obtain ⟨nm, q, N, bs, bm, sn, sub, ab, col, dd, k0', k1, k2, k3, k5, hC, hbm⟩ := T.ini
  have hcl : clsIn K C = some { name := nm, bases := bs, mro := .ref C :: bm, ns := N, qualname := q, hasDict := true, slotNames := sn, subclasses := sub, abstract := ab, collection := col, hasDel := false } := by unfold clsIn; rw [hC] <;> rfl
  have Xs : K.In s.heap := X.keeps k0
  have hbd : BindsTo s (ksFn "__init__" qual (eAr p1 p2 p3) (eBo q1 q2 q3 q4 q5 q6 q7 q8 q9 q10) eSc (.ref Td) kV doc pm an (.ref cda) ct cc) ⟨[.ref x, v], []⟩ [("self", .ref x), ("value", v)] := BindsTo.of_defaults (T := Td) rfl (Xs _ _ hT) hTd rfl rfl
  have hcells : ∀ y ∈ eSc.names, y.2 ≠ .cell := by decide
  have hlocs : ∀ y ∈ [(("self" : Str), Value.ref x), (("value" : Str), v)], eSc.names.lookup y.1 = some .local := fun y hy => by
    rcases List.mem_cons.mp hy with rfl | hy
    · rfl
    · obtain rfl := List.mem_singleton.mp hy
      rfl
  refine ks_codeAny_call_defAt (body := eBo q1 q2 q3 q4 q5 q6 q7 q8 q9 q10) (binds := [("self", .ref x), ("value", v)]) hroom (Xs _ _ ho) rfl (G.lim.keeps k0) (codeRec_of Xs hcd) rfl hbd hcells hlocs (fun h1 hn1 kk => ?_)
  have hxL : s.heap.objs.size ≠ x := Nat.ne_of_gt (Heap.lt_size hx)
  have F1 : Fr h0 s.heap.objs.size h1 (fun y => List.lookup y [(("value" : Str), v), (("self" : Str), .ref x)]) := ⟨hn1, fun b o e => kk b o (k0 b o e), hz⟩
  have N1 : News h0 s.heap.objs.size h1 [(x, excObj C t0 none .none)] := fun p hp => by
    obtain rfl := List.mem_singleton.mp hp
    exact ⟨kk _ _ hx, hxL.symm, nx⟩
  generalize hL : s.heap.objs.size = L at F1 N1 hxL ⊢
  show _root_.PySem.wpAt (model prog w) (A.deeper (ksEnv qual eSc L fI (.ref cda) cc)) (.func (eBo q1 q2 q3 q4 q5 q6 q7 q8 q9 q10) (ksEnv qual eSc L fI (.ref cda) cc)) (execs (eBo q1 q2 q3 q4 q5 q6 q7 q8 q9 q10) (ksEnv qual eSc L fI (.ref cda) cc)) _ _ _
  refine ks_wpAt_execs_cons (ks_wpAt_Expr_any (ks_wpAt_MethodCall (he := meth_eval hpos rfl) ?_))
  have X1 : K.In h1 := X.keeps F1.keep
  obtain ⟨mb, hb1, hb2⟩ := G.b
  obtain ⟨oD, hD1, hD2⟩ : ∃ oD, h1.get? C = some oD ∧ ∃ cd, oD.data = .cls cd := ⟨_, X1 _ _ hC, _, rfl⟩
  obtain ⟨cdD, hD2⟩ := hD2
  refine ks_wpAt_super_base (env := ksEnv qual eSc L fI (.ref cda) cc) (f := fI) (cc := cda) rfl rfl (by decide) rfl (X1 _ _ ho) rfl rfl rfl (X1 _ _ hcode) rfl hvs hfile T.top ?_
  refine ks_loadName_global rfl rfl (loadGlobal_builtin (env := ksEnv qual eSc L fI (.ref cda) cc) (G.g.keeps F1.keep) T.nsu (hb1.keeps F1.keep) ((hb2 _ (by decide +kernel)).trans (by first | boot_by_name | rfl | kernel_rfl)) ⟨rfl, ?_⟩)
  refine wpAny_loadName_free rfl rfl rfl ⟨_, X1 _ _ hcell, rfl⟩ ?_
  refine wpAny_loadName_local (v := .ref x) rfl rfl F1.ns (by first | rfl | with_unfolding_all rfl | kernel_rfl) ?_
  refine ks_wpAny_isType_cls hD1 hD2 ⟨rfl, ?_⟩
  refine ks_wpAny_call_super hD1 hD2 (N1 _ List.mem_cons_self).1 rfl (fun c e => by cases e) (looks_mroIn X1 T.mC) (fun h2 e2 k2 => ?_)
  obtain ⟨F2, N2, l2⟩ := ks_newsPush (s := ⟨h1, s.gens, s.drawn, s.toks + 2, s.os⟩) F1 N1 rfl e2 k2
  refine kxs_method kxs_ValueError F2 X N2 (D := C) (x := x) (C := C) List.mem_cons_self (InstAt.of_exc0 N2 (List.mem_cons_of_mem _ List.mem_cons_self)) T.opq T.sup T.veC (by decide) (fun u h3 F3 N3 l3 => ?_)
  refine kxs_callWith1 (i := "ValueError.__init__") (x := x) N3 List.mem_cons_self ?_
  refine spliced_cons (ld_loc (v := v) F3.ns (by first | rfl | with_unfolding_all rfl | kernel_rfl) (spliced_nil ⟨kxs_at N3 List.mem_cons_self, ?_⟩))
  have ux : u ≠ x := fun z => by
    have := l3 (x, excObj C t0 none .none) (List.mem_cons_of_mem _ List.mem_cons_self)
    rw [z] at this
    exact absurd this (Nat.lt_irrefl _)
  have sx : h1.objs.size ≠ x := Nat.ne_of_gt (Heap.lt_size (N1 _ List.mem_cons_self).1)
  refine kxs_call (dv := none) (c2 := .none) F3 X N3 PySem.F.excBase_ValueError T.eI List.mem_cons_self (.tail ux (.tail sx (.head fun _ z => (nomatch z)))) (by show 1 ≤ sizeLine; decide) (fun t1 h4 F4 N4 l4 => ?_)
  show _root_.PySem.wpAt _ _ _ (execs _ _) _ _ _
  refine wpAt_of_wpAny (wpAny_execs_cons (plainObj_wpAny_Assign_Attribute ?_))
  refine ld_loc (v := v) F4.ns (by first | rfl | with_unfolding_all rfl | kernel_rfl) (ld_loc (v := .ref x) F4.ns (by first | rfl | with_unfolding_all rfl | kernel_rfl) ?_)
  have hx4 : h4.get? x = some (excObj C t1 none .none) := (N4 (x, excObj C t1 none .none) (.tail _ (.tail _ (.tail _ (.head _))))).1
  have X4 : K.In h4 := X.keeps F4.keep
  refine set_plain X4 (ox := excObj C t1 none .none) (od := none) ⟨hx4, rfl, rfl, trivial⟩ T.sa ?_
  refine HandSPX.exc_osa X4 hx4 hcl (show HandSPX.refsVE (.ref C :: bm) = true from hbm) rfl T.no (fun h5 tk5 dx k5 dn dne hx5 hn5 => ?_)
  show wpAny _ _ (execs _ _) _ _ _
  have z : L < h4.objs.size := F4.ns.lt
  have hz' : h0.objs.size ≤ dx := Nat.le_trans F4.above (Nat.le_trans (Nat.le_of_lt z) dn)
  exact wpAny_execs_nil (hq h5 tk5 dx t1 (fun b o e => k5 b o (fun y => by rw [y, nx] at e; cases e) (F4.keep b o e)) hx5 hz' dne hn5)
/-- X(v): the error made -/
theorem err_made (T : ErrC prog K mg C fI) {v : Value} (X : K.In s.heap) (G : Beside mg s.heap) (hroom : A.depth + 1 < recursionLimit)
    (hq : ∀ h' tk e d, ErrMade s.heap h' e C d v → R (.ok (.ret (.ref e))) { s with heap := h', toks := tk }) :
    codeAny (model prog w) A (.call (.ref C) ⟨[v], []⟩) R s := by
  obtain ⟨nm, q, N, bs, bm, sn, sub, ab, col, dd, k0, k1, k2, k3, k5, hC, hbm⟩ := T.ini
  obtain ⟨hp, g, dr, tk, os⟩ := s
  have k : ∀ b o, hp.get? b = some o → ((hp.push (kdv_tup [v])).push (HandSPX.excO C hp.objs.size)).get? b = some o := fun b o e => Heap.get?_push_of_some _ (Heap.get?_push_of_some _ e)
  have hget : ((hp.push (kdv_tup [v])).push (HandSPX.excO C hp.objs.size)).get? (hp.objs.size + 1) = some (HandSPX.excO C hp.objs.size) := by heap_get
  have hnx : hp.get? (hp.objs.size + 1) = none := by
    cases e : hp.get? (hp.objs.size + 1) with
    | none => rfl
    | some o => exact absurd (Nat.lt_of_succ_lt (Heap.lt_size e)) (Nat.lt_irrefl _)
  refine HandSPX.call_own F.excBase_ValueError (fun Y => HandSPX.refsVE_contains Y bm hbm) (X _ _ hC) (looks_findIn X T.iC) (fun self => bind_fn X self T.tI) (by show 1 ≤ sizeLine; decide) ?_
  refine err_init (s := ⟨(hp.push (kdv_tup [v])).push (HandSPX.excO C hp.objs.size), g, dr, tk, os⟩) (h0 := hp) T X G k hget hnx (by rw [Heap.size_push, Heap.size_push]; omega) (by show A.depth + 1 < recursionLimit; exact hroom) fun h' tk' dx t1 k' hx dn dne hns => ?_
  exact ⟨rfl, hq h' tk' (hp.objs.size + 1) dx ⟨k', Nat.le_succ _, ⟨_, _, hx, rfl, rfl, rfl, rfl⟩, dn, dne, hns⟩⟩
end
end RC
/-! ## Errors raised, caught, kept under another name; their field; isinstance of them -/
namespace RC
open PySem PySem.Spec PyProof.Rows L2
open PySem.W (Frag)
abbrev valS : Str := "value"
theorem rel_val {v : V} {v' : Value} (r : RelV v v') (f : Str) : RelO (List.lookup f [(valS, v)]) (if f = "value" then some v' else none) := by
  by_cases hw : f = "value"
  · subst hw
    rw [if_pos rfl]
    have q : List.lookup valS [(valS, v)] = some v := by simp [List.lookup]
    rw [q]
    exact r
  · rw [if_neg hw]
    have qw : (f == valS) = false := by simpa using hw
    have q2 : List.lookup f [(valS, v)] = none := by simp [List.lookup, qw]
    rw [q2]
    trivial
theorem Beside.of {X : Cx} {pins : List (Addr × Obj)} {σ : L2.St} {H : Hp} {s : Shared} (I : Inv X pins σ H s) : Beside X.mg s.heap := by
  obtain ⟨mb, h1, h2⟩ := I.ok.mod.blt
  exact ⟨I.ok.mod.glob.keeps I.bk, ⟨mb, h1.keeps I.bk, h2⟩, I.nolimit⟩
section
variable {X : Cx} {C fI : Addr}
/-- X(e), to be raised -/
def tMkErr (C : Addr) (ta : TA) : L2.St → Hp → XK → Prop := fun σ H Q => ta σ H fun vs H1 => ∃ v, vs = [v] ∧ ∀ d, H1 d = none → Q (.ref C) (some d) (upd H1 d (.xd [(valS, v)]))
theorem pmk_err {x : Str} {a : Expr} {ta : TA} {p pos : Pos} {k : Nat} (T : ErrC X.prog X.K X.mg C fI) (hm : X.mg x = some (.ref C)) (hr : Room k X.A) (ha : PA X [a] ta) (hg : Gl X x := by rfl) (hdb : (x == ("__debug__" : Str)) = false := by decide)
    (he : starEach (a :: []) X.env = (false, eval a X.env) :: starEach [] X.env := by rfl) (hpl : (backTo pos (starEach [] X.env)).any (·.1) = false := by rfl) : PMk X (.Call (.Name x p) [a] [] pos) (tMkErr C ta) := by
  intro pins s σ H Q I h
  refine wpAny_Call_Name_kw (ld_glob I hg hm ?_ hdb)
  refine PySem.W.callWith_K (h₀ := X.base) I.ok.mod.kin T.kC (thn (ha.run pos pins s σ H _ I h) fun us s1 hh => ?_) he hpl
  obtain ⟨vs, H1, I1, r1, v, ev, q1⟩ := hh
  subst ev
  refine ⟨I1.kIn, ?_⟩
  cases r1 with
  | cons rv rn =>
    rename_i v' us'
    cases rn
    show wpAny _ _ (call (.ref C) [v']) _ _ _
    have B1 := Beside.of I1
    obtain ⟨hp, g, dr, tk, os⟩ := s1
    refine wpAny_call (err_made T I1.kIn B1 (by have := hr.dp; omega) fun h' tk' e d M => ?_)
    show MkP X pins σ Q (.ref e) ⟨h', g, dr, tk', os⟩
    obtain ⟨oe, fv, hoe, hc, hd, hdat, h1⟩ := M.obj
    have hns := M.ns
    obtain ⟨G', g1, g2⟩ := restrict h' fun b => decide (b ≠ e)
    have gk : ∀ b, b ≠ e → G'.get? b = h'.get? b := fun b hb => g1 b (decide_eq_true hb)
    have ge : G'.get? e = none := g2 e (by simp)
    have old : ∀ b o, hp.get? b = some o → G'.get? b = some o := fun b o q => (gk b (Nat.ne_of_lt (Nat.lt_of_lt_of_le (Heap.lt_size q) M.new))).trans (M.keep b o q)
    have ob : ObjOk X.prog X.w (upd H1 d (.xd [(valS, v)])) G' d (.xd [(valS, v)]) := ⟨_, hns.at (fun o q => (gk d M.dne).trans q), fun f => rel_val rv f⟩
    have J : Inv X pins σ (upd H1 d (.xd [(valS, v)])) ⟨G', g, dr, tk', os⟩ := I1.laid (t' := tk') old M.dbig ob
    refine ⟨e, oe, fv, ⟨G', g, dr, tk', os⟩, _, .ref C, some d, rfl, J, fun b o q => ?_, ge, hoe, ⟨hc, hd⟩, hdat, h1, ?_, rfl, I1.bare, raises_own T.exC T.tyC, q1 d (I1.hok.fresh M.dbig)⟩
    · by_cases hb : b = e
      · have q' : G'.get? b = some o := q
        rw [hb, ge] at q'
        cases q'
      · exact (gk b hb).symm.trans q
    · rw [upd_ne (Ne.symm M.dne)]
      exact I1.hok.fresh M.new
def tRaiseE (C : Addr) (W : WX) (ta : TA) : TS := fun _ σ H => tMkErr C ta σ H fun cls d H' => W cls d σ H'
theorem ps_raiseE {x : Str} {a : Expr} {ta : TA} {W : WX} {p pos pos2 : Pos} {k : Nat} (hc : X.calm = true) (T : ErrC X.prog X.K X.mg C fI) (hm : X.mg x = some (.ref C)) (hr : Room k X.A) (tk : Takes X W) (ha : PA X [a] ta) (hg : Gl X x := by rfl) (hdb : (x == ("__debug__" : Str)) = false := by decide)
    (he : starEach (a :: []) X.env = (false, eval a X.env) :: starEach [] X.env := by rfl) (hpl : (backTo pos (starEach [] X.env)).any (·.1) = false := by rfl) :
    PS X (.Raise (some (.Call (.Name x p) [a] [] pos)) none pos2) (tRaiseE C W ta) := ps_raise hc tk (pmk_err T hm hr ha hg hdb he hpl)
/-! ### an error that is kept -/
/-- an exception's object of the class cls with the dict d, behind its flight, at a -/
def ErrO (cls : Value) (d : Option Addr) (a : Addr) : HO := .ext fun h => ∃ (oe : Obj) (vs : Array Value), h.get? a = some oe ∧ Zc cls d oe ∧ oe.data = .fields vs
theorem errO_ok {P : Program} {w : World} {H : Hp} {h : Heap} {a : Addr} {cls : Value} {d : Option Addr} {oe : Obj} {vs : Array Value} (e : h.get? a = some oe) (z : Zc cls d oe) (dt : oe.data = .fields vs) : ObjOk P w H h a (ErrO cls d a) :=
  ⟨⟨oe, vs, e, z, dt⟩, ⟨oe, e⟩, fun _ _ ⟨o, v, q, r⟩ k => ⟨o, v, k o q, r⟩⟩
/-- an object that isn't tracked yet, made behind the entry, is tracked from here on -/
theorem Inv.adopt {pins : List (Addr × Obj)} {σ : L2.St} {H : Hp} {s : Shared} {a : Addr} {o : HO} (I : Inv X pins σ H s) (hn : H a = none) (n0 : X.s_0.heap.get? a = none) (nL : a ≠ X.env.locals) (nC : ∀ x c, X.env.cells.lookup x = some c → c ≠ a) (nP : ∀ p ∈ X.pn ++ pins, p.1 ≠ a)
    (new : ObjOk X.prog X.w (upd H a o) s.heap a o) : Inv X pins σ (upd H a o) s := by
  have ne0 : ∀ {b : Addr} {u : Obj}, X.s_0.heap.get? b = some u → b ≠ a := fun {b u} e z => by
    rw [z, n0] at e
    cases e
  have neH : ∀ {b : Addr} {u : HO}, H b = some u → b ≠ a := fun {b u} e z => by
    rw [z, hn] at e
    cases e
  refine ⟨I.ok, I.os, I.bare, ⟨I.base.keep, I.base.slot, fun b u e n x => ?_, I.base.there, fun b xs e => ?_, fun b u v e => ?_, fun b ps e => ?_⟩, I.loc, I.cell, ?_, fun x c e => ?_, fun p hp => ?_, I.hok.laidN (fun _ _ q => q) hn new, I.len⟩
  · rw [upd_ne (ne0 e)]
    exact I.base.free b u e n x
  · have q := I.base.tups b xs e
    rw [upd_ne (neH q)]
    exact q
  · have q := I.base.frzs b u v e
    rw [upd_ne (neH q)]
    exact q
  · obtain ⟨m, q⟩ := I.base.tbls b ps e
    exact ⟨m, by rw [upd_ne (neH q)]; exact q⟩
  · rw [upd_ne nL.symm]
    exact I.free
  · rw [upd_ne (nC x c e)]
    exact I.freeC x c e
  · obtain ⟨q1, q2, q3⟩ := I.pin p hp
    exact ⟨q1, by rw [upd_ne (nP p hp)]; exact q2, q3⟩
/-- the wish: what is caught is of the clause's class, and kept in the slot j -/
def wKeep (K : Frag) (c : Value) (i j : Nat) (D : Ends) : WX := fun cls d σ H => PySem.W.exmOne K cls c = some true ∧ ∀ a, H a = none → D.nx (((σ.set i (some (.ref a))).set j (some (.ref a))).set i none) (upd H a (ErrO cls d a))
/-- try: body, except x as n: y = n -/
theorem ps_keep {x n y : Str} {c : Value} {i j : Nat} {body : List Stmt} {np p1 p2 p3 pos pos' : Pos} {tb : WX → TS} (hs : X.stack = X.env :: X.outer) (hf : X.env.frame = some X.env.locals) (hx : X.ex = []) (hN : X.N.Nodup) (hi : X.N[i]? = some n) (hj : X.N[j]? = some y) (hij : i ≠ j) (hln : X.env.kindOf n = some .local) (hly : X.env.kindOf y = some .local)
    (hc : Names X x c) (hd1 : (n == ("__debug__" : Str)) = false) (hd2 : (n == ("__classdict__" : Str)) = false) (hsw : swapsWith (.Name n p2) (some (.Name y p1)) p3.line X.env = pure false)
    (hb : ∀ (W : WX) (pn : List (Addr × Obj)) (xe : Value → Shared → Prop), Takes (X.tr pn xe) W → PassesOwn (model X.prog X.w) X.A X.env xe → PSs (X.tr pn xe) body (tb W)) :
    PS X (.Try body [.ExceptHandler (some (.Name x np)) (some n) [.Assign [.Name y p1] (.Name n p2) p3] pos'] [] [] pos) (fun D σ H => tb (wKeep X.K c i j D) D σ H) := by
  refine ⟨fun pins s σ H D I h => wpAny_Try_except ?_⟩
  have ok := I.ok
  have fr : X.A.frames = some (X.env :: X.outer) := by rw [ok.frames, hs]
  -- the body, its ways out
  refine wpAny_mono ((hb (wKeep X.K c i j D) (X.pn ++ pins) _ (fun u st air => ?_) PassesOwn.looking).run [] s σ H D (I.toTry _) h) (fun fl st hfl => ?_) (fun _ _ z => z)
  · obtain ⟨a, B, sA, ps, σA, HA, cls, d, rfl, JA, gB, upA, sky, nA, osA, bareA, hm, hk⟩ := air
    have JB : Inv X pins σA HA sA := JA.ofTry ok
    rw [hs] at sky
    refine Sky.land Zc.steady fr hf sky fun hL fly upL => ?_
    obtain ⟨oL, vL, eL, zL, dL⟩ := fly.there
    have away : a ∉ frs (X.env :: X.outer) := fun q => by
      obtain ⟨_, o', e', nd⟩ := fly.2.2.1.mem q
      rw [eL] at e'
      cases e'
      exact nd _ dL
    have nL : a ≠ X.env.locals := fun z => away (List.mem_filterMap.mpr ⟨X.env, List.mem_cons_self, by rw [hf, z]⟩)
    have nF : a ∉ X.fs := fun q => by
      obtain ⟨e, he, q⟩ := List.mem_filterMap.mp q
      exact away (List.mem_filterMap.mpr ⟨e, List.mem_cons_of_mem _ he, q⟩)
    have gone : sA.heap.get? a = none := by
      cases e : sA.heap.get? a with
      | none => rfl
      | some o =>
        have z := gB a o e (by rw [hs]; exact away)
        rw [fly.2.1] at z
        cases z
    have n0 : X.s_0.heap.get? a = none := by
      cases e : X.s_0.heap.get? a with
      | none => rfl
      | some o =>
        obtain ⟨o', z⟩ := JB.base.there a o e (by rw [hx]; exact fun z => nomatch z)
        rw [gone] at z
        cases z
    have nC : ∀ x c, X.env.cells.lookup x = some c → c ≠ a := fun x c e z => by
      obtain ⟨v, o, q, _⟩ := JB.cell x c e
      rw [z, gone] at q
      cases q
    have nP : ∀ p ∈ X.pn ++ pins, p.1 ≠ a := fun p hp z => by
      have q := (JB.pin p hp).1
      rw [z, gone] at q
      cases q
    have JL : Inv X pins σA HA { st with heap := hL } := JB.landed gB fly.1 (upA.trans upL) osA bareA
    have SL := JL.suite eL dL nA nL nF
    refine wpAny_handleBy_cons (codeAny_handlers_test ?_) (by intro q; cases q)
    have ask : ∀ {Q : Value → Shared → Prop} {E : Value → Shared → Prop}, Q c { st with heap := hL } → wpAny (model X.prog X.w) (X.A.mark (some (.ref a))) (eval (.Name x np) X.env) Q E { st with heap := hL } := fun {Q E} q => by
      obtain ⟨hg, hdb, e | ⟨e, hv, hne⟩⟩ := hc
      · exact ld_glob (X := X.suite a ((a, oL) :: (X.pn ++ pins))) SL hg e q hdb
      · exact ld_blt (X := X.suite a ((a, oL) :: (X.pn ++ pins))) SL hg e hv q hne hdb
    have isC : PySem.W.Looks (model X.prog X.w) hL (typeOf (.ref a)) cls := fun A Q E s k q => wpAny_typeOf_ref (k _ _ eL) (by rw [zL.1]; exact q)
    refine ask ((PySem.W.exm_one (M := model X.prog X.w) JL.kIn isC hm).here ?_)
    refine codeAny_handlers_suite_as ?_
    refine HandSPX.lands_againZ fly fun hM flyM upM => ?_
    have JM : Inv X pins σA HA { st with heap := hM } := JB.landed gB flyM.1 ((upA.trans upL).trans upM) osA bareA
    obtain ⟨oM, vM, eM, zM, dM⟩ := flyM.there
    refine store_ok (X := X.suite a ((a, oM) :: (X.pn ++ pins))) (v := .ref a) (JM.suite eM dM nA nL nF) hN hi (.inl hln) rfl (fun s5 S5 => ?_) (.inr hln)
    have one : PSs (X.suite a ((a, oM) :: (X.pn ++ pins))) [.Assign [.Name y p1] (.Name n p2) p3] (tAsg (tVar i) (gName j)) := pss_one (ps_set (X := X.suite a ((a, oM) :: (X.pn ++ pins))) hN hj (.inl hly) (pe_var hi (.inl hln) hd1 hd2) hsw (.inr hly))
    have li : i < σA.length := by
      rw [JM.len]
      exact (List.getElem?_eq_some_iff.mp hi).1
    refine wpAny_mono (one.run [] s5 _ HA { nx := fun σ' H' => σ' = (σA.set i (some (.ref a))).set j (some (.ref a)) ∧ H' = HA, rt := fun _ _ => False } S5 ⟨.ref a, by rw [List.getElem?_set_self li], rfl, rfl⟩) (fun fl s6 hfl => ?_) fun _ _ z => False.elim z
    cases fl with
    | next =>
      obtain ⟨σ6, H6, S6, e1, e2⟩ := hfl
      subst e1 e2
      obtain ⟨q1, _⟩ := S6.pin (a, oM) (List.mem_append_left _ List.mem_cons_self)
      have K6 : Inv X pins _ (upd H6 a (ErrO cls d a)) s6 := Inv.adopt (S6.unsuite ok) nA n0 nL nC nP (errO_ok q1 zM dM)
      exact gone_ok K6 hN hi hln fun s7 J7 => ⟨_, _, J7, hk a nA⟩
    | brk =>
      obtain ⟨_, _, _, z⟩ := hfl
      exact z.elim
    | cont =>
      obtain ⟨_, _, _, z⟩ := hfl
      exact z.elim
    | ret u =>
      obtain ⟨_, _, _, _, _, z⟩ := hfl
      exact z.elim
  · cases fl with
    | next =>
      obtain ⟨σ', H', J', q⟩ := hfl
      exact wpAny_execs_nil ⟨σ', H', J'.ofTry ok, q⟩
    | brk =>
      obtain ⟨σ', H', J', q⟩ := hfl
      exact ⟨σ', H', J'.ofTry ok, q⟩
    | cont =>
      obtain ⟨σ', H', J', q⟩ := hfl
      exact ⟨σ', H', J'.ofTry ok, q⟩
    | ret u =>
      obtain ⟨v, σ', H', J', r, q⟩ := hfl
      exact ⟨v, σ', H', J'.ofTry ok, r, q⟩
/-! ### err.value of a kept error -/
def FldE (P : Program) (K : Frag) (mg : Str → Option Value) (x : V) (H : Hp) (Q : VK) : Prop := ∃ (a C fI d : Addr) (v : V), x = .ref a ∧ H a = some (ErrO (.ref C) (some d) a) ∧ ErrC P K mg C fI ∧ H d = some (.xd [(valS, v)]) ∧ Q v H
def tFldE (P : Program) (K : Frag) (mg : Str → Option Value) (te : TE) : TE := fun σ H Q => te σ H fun x H1 => FldE P K mg x H1 Q
theorem r_fldE {P : Program} {K : Frag} {mg : Str → Option Value} {te : TE} {σ : L2.St} {H : Hp} {Q : VK} (h : te σ H fun x H1 => FldE P K mg x H1 Q) : tFldE P K mg te σ H Q := h
theorem pe_fldE {e : Expr} {te : TE} {pos : Pos} (he : PE X e te) (hb : attributeBase e "value" X.env (eval e X.env) = eval e X.env := by rfl) : PE X (.Attribute e "value" pos) (tFldE X.prog X.K X.mg te) := by
  refine ⟨fun pins s σ H Q I h => attr_of hb (thn (he.run pins s σ H _ I h) fun u s1 ⟨x, H1, I1, rx, a, C, fI, d, v, ex, ea, T, ed, q⟩ => ?_)⟩
  subst ex
  have eu : u = Value.ref a := rx
  subst eu
  obtain ⟨⟨oe, vs, ho, hz, hd⟩, _, _⟩ := I1.hok a _ ea
  obtain ⟨mA, hns, hr⟩ := (show ObjOk X.prog X.w H1 s1.heap d (.xd [(valS, v)]) from I1.hok d _ ed)
  obtain ⟨od, hod, hl⟩ := lookIn_ns hns
  have l : List.lookup valS [(valS, v)] = some v := by simp [List.lookup]
  obtain ⟨u, hu, ru⟩ := RelO.some_of (v := v) (o := mA valS) (by rw [← l]; exact hr valS)
  have J : PySem.W.InstAt s1.heap a oe C (some od) := ⟨ho, hz.1, by unfold PySem.W.notCls; rw [hd] <;> rfl, by rw [hz.2]; exact hod⟩
  exact HandSPX.exc_get I1.kIn J T.ga T.gg T.exC (PySem.W.findObj_own T.hdC T.no rfl (by rw [hl, hu])) (handed_of ru) ⟨v, H1, I1.tok _, ru, q⟩
end
/-! ### o.m(e, ..) in a try -/
section
variable {X : Cx} {k : Nat} {f C : Addr} {fd : FuncData} {ps : List Str} {sp : Sp} {W : WX} {m : Str} {pos apos : Pos} {e o : Expr} {es : List Expr} {ta : TE} {t : TA}
def tMethW (C : Addr) (m : Str) (sp : Sp) (W : WX) (ta : TE) (t : TA) : TE := fun σ H Q => tMeth C m sp [] (WE W σ) ta t σ H Q
theorem pe_methW {pl : Sem Bool} (he : PE X o ta) (c : Cls X.K C) (hm : Meth X.K C m f) (F : FnOk X.prog X.w X.K X.mg X.base (L2.CX X.prog X.w) k f fd ps sp) (hr : Room k X.A) (hb : Binds X.K fd ps []) (tk : Takes X W) (ha : PA X (e :: es) t)
    (hst : starEach (e :: es) X.env = (false, eval e X.env) :: starEach es X.env := by rfl) (hpl : (backTo pos (starEach es X.env)).any (·.1) = false := by rfl)
    (ht : eval (.Call (.Attribute o m apos) (e :: es) [] pos) X.env = (do
      let r ← eval o X.env
      standAt apos.atName
      let (f, first) ← holding [r] (getMethod r m pl)
      callWith pos f first (backTo pos (starEach (e :: es) X.env)) (backToKw pos (keywordEach [] X.env))) := by rfl) : PE X (.Call (.Attribute o m apos) (e :: es) [] pos) (tMethW C m sp W ta t) := by
  refine ⟨fun pins s σ H Q I h => PySem.W.methodCall_KW (pl := pl) (thn (he.run pins s σ H _ I h) fun u s1 ⟨x, H1, I1, rx, a, dx, fs, ex, ea, l, q⟩ => ?_) ht⟩
  subst ex
  have eu : u = Value.ref a := rx
  subst eu
  refine getmeth_ok I1 ea c hm l (PySem.W.callWith_K (first := [.ref a]) (h₀ := X.base) I.ok.mod.kin hm.kp (thn (ha.run pos pins s1 σ H1 _ I1 q) fun us s2 ⟨vs, H2, I2, r, q2⟩ => ⟨I2.kIn, ?_⟩) hst hpl)
  exact run_fnS (us := .ref a :: us) (vs := .ref a :: vs) F hr hb (passAt tk σ) I2 (.cons rfl r) (by simpa using q2)
end
theorem exm_self {P : Program} {K : Frag} {mg : Str → Option Value} {C fI : Addr} (T : ErrC P K mg C fI) (h : PySem.W.subIn K (.ref C) (.ref C) = some true) : PySem.W.exmOne K (.ref C) (.ref C) = some true := PySem.W.exm_ref T.exC T.hdC T.tyC h
end RC
/-! ## Defs that may say repr(..): promised where no repr is under way -/
namespace RC
open PySem PySem.Spec PyProof.Rows L2
open PySem.W (Frag)
/-- as FnOk, in surroundings in which no repr is under way -/
structure FnOkG (P : Program) (w : World) (K : Frag) (mg : Str → Option Value) (base : Heap) (CX : CXT) (k : Nat) (f : Addr) (fd : FuncData) (ps : List Str) (sp : Sp) : Prop where
  len : ∀ vs H Q E, sp vs H Q E → vs.length = ps.length
  run : ∀ (A : Around) (outer : List Env) (s : Shared) (H : Hp) (args : Args) (us : List Value) (vs : List V) (Q : VK) (E : XK), A.guards = some [] → Room k A → Env0 P w K mg base A outer s H → BindsTo s fd args (ps.zip us) → Vals vs us → sp vs H Q E →
    codeAny (model P w) A (.call (.ref f) args) (CR CX outer P w H s Q E) s
section
variable {P : Program} {w : World} {K : Frag} {mg : Str → Option Value} {base : Heap} {x qual : Str} {params : Arguments} {body : List Stmt} {scope : Scope} {dvs : List V} {kws : List (Str × V)} {f : Addr} {fd : FuncData}
theorem okG {CX : CXT} {N ps : List Str} {k : Nat} {sp : Sp} (F : FunD K x qual params body scope dvs kws f fd) (S : FnScope N ps scope) (len : ∀ vs H Q E, sp vs H Q E → vs.length = ps.length)
    (hbody : ∀ (cdv : Value) (A : Around) (outer : List Env) (s : Shared) (H : Hp) (vs : List V) (Q : VK) (E : XK), (A.deeper (envOfC qual scope s.heap.objs.size f cdv)).guards = some [] → Room k (A.deeper (envOfC qual scope s.heap.objs.size f cdv)) → sp vs H Q E →
      ∃ t, PSs (cxOf CX P w K mg base N qual scope f cdv A outer s H E) body t ∧ t { nx := fun _ H' => Q .non H', rt := Q } (start N vs) H) : FnOkG P w K mg base CX (k + 1) f fd ps sp := by
  obtain ⟨oc, od, dV, kV, doc, pm, an, cdv, ct, osl, rfl, lk, hcd, _, _⟩ := F.ex
  refine ⟨len, fun A outer s H args us vs Q E hg hr e0 hb r hsp => ?_⟩
  have Kin : K.In s.heap := e0.mod.kin.keeps fun b o e => (e0.bs b o e).1
  have names : ∀ y ∈ ps.zip us, scope.names.lookup y.1 = some .local ∨ (scope.names.lookup y.1 = some .cell ∧ ((cellsFrom (s.heap.objs.size + 1) scope.names []).lookup y.1).isSome = true) := fun ⟨n, v⟩ hy =>
    (S.par n (List.of_mem_zip hy).1).elim .inl fun q => .inr ⟨q, PySem.W.cellsFrom_some _ _ _ (.inl q)⟩
  refine codeAny_call_function hr.depth (Kin _ _ lk) rfl S.co S.gen rfl (PySem.W.codeRec_of Kin hcd) (hb _ _ _ _ (wpAny_newFunctionEnv_cells S.kind names fun env he s1 y => ?_))
  subst he
  refine ⟨(e0.mod.nolimit.keeps fun b o e => (e0.bs b o e).1).keeps y.toInCall.keep, codeAny_func ?_⟩
  obtain ⟨t, ht, hq⟩ := hbody cdv A outer s H vs Q E hg (hr.deeper _) hsp
  refine wpAny_mono (ht.run [] s1 (start N vs) H _ (inv_start S hr.hd e0 (len _ _ _ _ hsp) r y) hq) (fun fl s' hs => ?_) fun _ _ z => z
  match fl, hs with
  | .ret u, ⟨v, σ', H', J, rv, q⟩ => exact ⟨v, H', J.os, J.bare, J.base, J.hok, rv, q⟩
  | .next, ⟨σ', H', J, q⟩ => exact ⟨V.non, H', J.os, J.bare, J.base, J.hok, rfl, q⟩
  | .brk, ⟨_, _, _, q⟩ => exact q.elim
  | .cont, ⟨_, _, _, q⟩ => exact q.elim
end
section
variable {X : Cx} {CX : CXT} {k : Nat} {f : Addr} {fd : FuncData} {ps : List Str} {sp : Sp} {E : XK} {x : Str} {p pos : Pos} {e : Expr} {es : List Expr} {t : TA} {ds : List Value} {dvs : List V}
theorem runG {pins : List (Addr × Obj)} {σ : L2.St} {H : Hp} {s : Shared} {Q : VK} {us : List Value} {vs : List V} (F : FnOkG X.prog X.w X.K X.mg X.base CX k f fd ps sp) (hg : X.A.guards = some []) (hr : Room k X.A) (hb : Binds X.K fd ps ds) (hd : Vals dvs ds) (hx : Passes CX X E)
    (I : Inv X pins σ H s) (r : Vals vs us) (h : sp (vs ++ dvs) H Q E) : wpAny (model X.prog X.w) X.A (call (.ref f) us) (EP X pins σ Q) X.xe s := by
  have r2 := r.append hd
  have hl : (us ++ ds).length = ps.length := r2.length.symm.trans (F.len _ _ _ _ h)
  refine wpAny_call (codeAny_mono (F.run X.A X.stack s H ⟨us, []⟩ (us ++ ds) (vs ++ dvs) Q E hg hr I.env0 (hb s us I.kIn hl) r2 h) fun r s' hq => ?_)
  match r, hq with
  | .error e, hq => exact hx _ _ _ _ e s' I hq
  | .ok (.ret u), hq => exact I.after hq
theorem pe_callG (F : FnOkG X.prog X.w X.K X.mg X.base CX k f fd ps sp) (hgu : X.A.guards = some []) (hr : Room k X.A) (hg : Gl X x) (hm : X.mg x = some (.ref f)) (hk : PySem.W.keepIn X.K (.ref f) = true) (hb : Binds X.K fd ps ds) (hd : Vals dvs ds) (hx : Passes CX X E)
    (ha : PA X (e :: es) t) (hdb : (x == ("__debug__" : Str)) = false := by decide) (he : starEach (e :: es) X.env = (false, eval e X.env) :: starEach es X.env := by rfl) (hpl : (backTo pos (starEach es X.env)).any (·.1) = false := by rfl) :
    PE X (.Call (.Name x p) (e :: es) [] pos) (tCall sp dvs E t) :=
  ⟨fun pins s σ H Q I h => wpAny_Call_Name_kw (ld_glob I hg hm (PySem.W.callWith_K (h₀ := X.base) I.ok.mod.kin hk (thn (ha.run pos pins s σ H _ I h) fun us s1 ⟨vs, H1, I1, r, q⟩ => ⟨I1.kIn, runG F hgu hr hb hd hx I1 r q⟩) he hpl) hdb)⟩
theorem pe_callG0 (F : FnOkG X.prog X.w X.K X.mg X.base CX k f fd ps sp) (hgu : X.A.guards = some []) (hr : Room k X.A) (hg : Gl X x) (hm : X.mg x = some (.ref f)) (hk : PySem.W.keepIn X.K (.ref f) = true) (hb : Binds X.K fd ps ds) (hd : Vals dvs ds) (hx : Passes CX X E)
    (hdb : (x == ("__debug__" : Str)) = false := by decide) : PE X (.Call (.Name x p) [] [] pos) (tCall sp dvs E tNil) :=
  ⟨fun pins s σ H Q I h => wpAny_Call_Name_kw (ld_glob I hg hm (PySem.W.callWith_K0 I.kIn hk (runG (us := []) F hgu hr hb hd hx I .nil h)) hdb)⟩
/-! ### repr of data -/
def rReprD (K : Frag) : List V → Hp → VK → Prop := fun xs H Q => ∃ v d, xs = [v] ∧ Dp K H v d ∧ d.showable = true ∧ d.canLay0 = true ∧ d.depth ≤ 40 ∧ d.shown.length ≤ sizeLine ∧ Q (.str d.shown) H
theorem call_reprD (hg : X.A.guards = some []) (hr : Room 0 X.A) : CallR X (.builtin "repr") (rReprD X.K) := by
  intro pins s σ H xs us Q I r h
  obtain ⟨v, d, rfl, hd, hs, hcl, hdep, hlen, q⟩ := h
  obtain ⟨u, rfl, ru⟩ := vals1 r
  have hu := hr.units
  cases hd with
  | non =>
    cases ru
    exact PySem.P.repr_of_none ⟨.str _, H, I.tok _, ⟨_, rfl⟩, q⟩
  | bl b =>
    cases ru
    exact PySem.P.repr_of_bool ⟨.str _, H, I.tok _, ⟨_, rfl⟩, q⟩
  | int i =>
    obtain ⟨t, rfl⟩ := ru
    exact PySem.P.repr_of_int (of_decide_eq_true (by simpa [PyData.showable] using hs)) ⟨.str _, H, I.tok _, ⟨_, rfl⟩, q⟩
  | str x =>
    obtain ⟨t, rfl⟩ := ru
    exact PySem.P.repr_of_str ⟨.str _, H, I.tok _, ⟨_, rfl⟩, q⟩ hlen
  | lst hx ha =>
    obtain ⟨as, rd⟩ := Dp.reads I _ _ u (.lst hx ha) ru
    cases ru
    exact repr_of_reads' rd hs (PyData.noDict_hsm (PyData.hasDict_of_canLay _ hcl)) hg (by omega) (fun _ _ z => z) (fun h' t tk k => ⟨.str _, H, I.kept k, ⟨_, rfl⟩, q⟩) hlen
  | tup hx ha =>
    obtain ⟨as, rd⟩ := Dp.reads I _ _ u (.tup hx ha) ru
    cases ru
    exact repr_of_reads' rd hs (PyData.noDict_hsm (PyData.hasDict_of_canLay _ hcl)) hg (by omega) (fun _ _ z => z) (fun h' t tk k => ⟨.str _, H, I.kept k, ⟨_, rfl⟩, q⟩) hlen
/-- v's repr is t -/
inductive ShowV (K : Frag) (H : Hp) : V → Str → Prop where
  | data {v : V} {d : PyData} (h : Dp K H v d) (s : d.showable = true) (c : d.canLay0 = true) (dp : d.depth ≤ 40) (l : d.shown.length ≤ sizeLine) : ShowV K H v d.shown
  | edict {a : Addr} (h : Rd H a (.dK [])) : ShowV K H (.ref a) (PyData.dict []).shown
def rReprX (K : Frag) : List V → Hp → VK → Prop := fun xs H Q => ∃ v t, xs = [v] ∧ ShowV K H v t ∧ Q (.str t) H
theorem call_reprX (hg : X.A.guards = some []) (hr : Room 0 X.A) : CallR X (.builtin "repr") (rReprX X.K) := by
  intro pins s σ H xs us Q I r h
  obtain ⟨v, t, rfl, hv, q⟩ := h
  cases hv with
  | data h1 h2 h3 h4 h5 => exact call_reprD hg hr pins s σ H [v] us Q I r ⟨v, _, rfl, h1, h2, h3, h4, h5, q⟩
  | @edict a ha =>
    obtain ⟨u, rfl, ru⟩ := vals1 r
    have eu : u = Value.ref a := ru
    subst eu
    have hu := hr.units
    obtain ⟨_, ns, vs, kv, ob, es, ep, e1, e2, e3, _, e5, _⟩ := (show ObjOk X.prog X.w H s.heap a (.dK []) from ha.elim (fun q => I.hok a _ q) fun ⟨o, q⟩ => (I.hok a _ q).2)
    have z : vs = [] := by
      cases kv
      rfl
    subst z
    have ez : es.toList = [] := by
      generalize es.toList = l at e5
      cases e5
      rfl
    have rd : Reads s.heap (.ref a) (.dict []) ((a :: []) ++ []) := Reads.dict e1 e2.1 e3 (by rw [ez]; exact .nil) (by rw [ez]; exact .nil)
    refine repr_of_reads' rd (by simp [PyData.showable, PyData.showableKv]) (fun _ hm => ?_) hg ?_ (fun _ _ z => z) (fun h' t tk k => ⟨.str _, H, I.kept k, ⟨_, rfl⟩, q⟩) (by decide +kernel)
    · have hm' : sysModules ∈ [a] := by simpa using hm
      rw [List.mem_singleton.mp hm'] at ns
      simp at ns
    · simp only [PyData.depth, PyData.depthKv]
      omega
end
/-! ### the law's end -/
theorem law_callG {P : Program} {w : World} {K : Frag} {mg mb : Str → Option Value} {k : Nat} {fa a : Addr} {fd : FuncData} {x : Str} {sp : Sp} {s1 : Shared} {vs : List Value} {ns : List Int}
    (KX : K.In s1.heap) (hns : s1.heap.Ns mainGlobals mg) (hb : s1.heap.Ns builtinsNs mb) (hbb : ∀ x : Str, x ≠ "__name__" → mb x = bootBuiltins x) (hlim : s1.heap.NoLimit) (hg : s1.gens = #[])
    (ha : s1.heap.get? a = some { cls := .type "list", data := .seq vs.toArray }) (hi : IntsAre vs ns) (hl : ns.length ≤ sizeLine) (hr : Room k callerA)
    (F : ∀ base : Heap, K.In base → base.Ns mainGlobals mg → FnOkG P w K mg base CX0 k fa fd [x] sp) (hbind : ∀ (s : Shared) (u : Value), BindsTo s fd ⟨[u], []⟩ [(x, u)])
    (hsp : ∀ H : Hp, Only H → SqL K H a (ns.map V.int) → sp [.ref a] H (fun v _ => v = .bl true) fun _ _ _ => False) :
    codeAny (model P w) callerA (.call (.ref fa) ⟨[.ref a], []⟩) (fun r s' => r = .ok (.ret (.bool true)) ∧ OldK s1.heap s'.heap ∧ s'.os = s1.os ∧ AllBare s'.gens) s1 := by
  have rv := vals_ints hi
  have go : ∀ H : Hp, Only H → SqL K H a (ns.map V.int) → HOk P w H s1.heap → (∀ b, H b ≠ none → b = a) → (H a ≠ none → K.lookup a = none) →
      codeAny (model P w) callerA (.call (.ref fa) ⟨[.ref a], []⟩) (fun r s' => r = .ok (.ret (.bool true)) ∧ OldK s1.heap s'.heap ∧ s'.os = s1.os ∧ AllBare s'.gens) s1 := by
    intro H only hS ok own lacks
    have other : ∀ {b : Addr}, b ≠ a → H b = none := fun {b} h => by
      cases q : H b with
      | none => rfl
      | some u => exact absurd (own b (by rw [q]; simp)) h
    have below : ∀ {b : Addr} {m : Str → Option Value}, s1.heap.Ns b m → (hidT s1.heap H).Ns b m := fun {b m} ⟨o, es, ep, e, d, r⟩ => by
      refine ⟨o, es, ep, hidT_get e (other fun z => ?_), d, r⟩
      rw [z, ha] at e
      cases e
      cases d
    have kin : K.In (hidT s1.heap H) := fun b o e => by
      refine hidT_get (KX b o e) ?_
      cases q : H b with
      | none => rfl
      | some u =>
        have z := own b (by rw [q]; simp)
        subst z
        rw [lacks (by rw [q]; simp)] at e
        cases e
    have md : Mod K mg (hidT s1.heap H) := ⟨kin, below hns, ⟨mb, below hb, hbb⟩, by
      obtain ⟨mc, h1, h2⟩ := hlim
      exact ⟨mc, below h1, h2⟩⟩
    have e0 : Env0 P w K mg (hidT s1.heap H) callerA [] s1 H := ⟨rfl, md, fun b o e => of_hidT e, Nat.le_of_eq (hidT_size _ _), trivial, fun b z => absurd (show b ∈ ([] : List Addr) from z) List.not_mem_nil, ok, .of_eq hg⟩
    refine codeAny_mono ((F _ kin (below hns)).run callerA [] s1 H ⟨[.ref a], []⟩ [.ref a] [.ref a] _ _ rfl hr e0 (hbind s1 (.ref a)) (.cons rfl .nil) (hsp H only hS)) fun r s' h => ?_
    match r, h with
    | .ok (.ret u), ⟨v, H', os, bare, un, ok', r', q⟩ =>
      have q' : v = .bl true := q
      subst q'
      have r2 : u = Value.bool true := r'
      subst r2
      refine ⟨rfl, OldK.of_keep fun b o e => ?_, os, bare⟩
      rcases only b with z | ⟨ob, xs, z⟩
      · exact un.keep b o e z (fun y => absurd (show b ∈ ([] : List Addr) from y) List.not_mem_nil) List.not_mem_nil
      · have z2 := un.frzs b ob _ z
        obtain ⟨e1, _⟩ := ok b _ z
        obtain ⟨e2, _⟩ := ok' b _ z2
        rw [e] at e1
        cases e1
        exact e2
  cases hk : K.lookup a with
  | some o =>
    have e := KX a o hk
    rw [ha] at e
    cases e
    exact go (fun _ => none) (fun _ => .inl rfl) (.inr ⟨_, vs.toArray, _, hk, rfl, rfl, rfl, by rw [List.size_toArray, hi.length]; exact hl, by simpa using rv⟩) (fun b u z => by cases z) (fun b z => absurd rfl z) fun z => absurd rfl z
  | none =>
    have at_ : ∀ b, (b = a ∧ (fun b => if b = a then some (HO.frz { cls := .type "list", data := .seq vs.toArray } (.lst (ns.map V.int))) else none) b = some (HO.frz { cls := .type "list", data := .seq vs.toArray } (.lst (ns.map V.int)))) ∨ (b ≠ a ∧ (fun b => if b = a then some (HO.frz { cls := .type "list", data := .seq vs.toArray } (.lst (ns.map V.int))) else none) b = none) := fun b => by
      by_cases hb : b = a
      · exact .inl ⟨hb, if_pos hb⟩
      · exact .inr ⟨hb, if_neg hb⟩
    refine go (fun b => if b = a then some (.frz { cls := .type "list", data := .seq vs.toArray } (.lst (ns.map V.int))) else none) (fun b => ?_) (.inl (.inr ⟨{ cls := .type "list", data := .seq vs.toArray }, if_pos rfl⟩)) (fun b u z => ?_) (fun b z => ?_) fun _ => hk
    · rcases at_ b with ⟨_, e⟩ | ⟨_, e⟩
      · exact .inr ⟨_, _, e⟩
      · exact .inl e
    · rcases at_ b with ⟨e1, e⟩ | ⟨_, e⟩
      · rw [e] at z
        cases z
        subst e1
        exact ⟨ha, by rw [List.length_map]; exact hl, vs, _, rv, ha⟩
      · rw [e] at z
        cases z
    · rcases at_ b with ⟨e1, _⟩ | ⟨_, e⟩
      · exact e1
      · exact absurd e z
theorem walk_ofG {l : PySem.W.OpenLaw} {n k : Nat} {q : Program} {loose : List Str} {XP : (Str → Option Value) → Heap → Prop} {YP : World → Heap → Prop} {d : DefRec} {x : Str}
    (hn : l.most = some n) (hn2 : n ≤ sizeLine) (hdf : d.params.defaults = []) (hr : Room k callerA)
    (F : ∀ (w : World) (mg : Str → Option Value) (fa : Addr) (h : Heap), YP w h → h.Ns mainGlobals mg → mg d.name = some (.ref fa) →
      ∃ (K : Frag) (fd : FuncData) (sp : Sp), K.In h ∧ (∀ (s : Shared) (u : Value), BindsTo s fd ⟨[u], []⟩ [(x, u)]) ∧ (∀ (H : Hp) (a : Addr) (ns : List Int), ns.length ≤ n → Only H → SqL K H a (ns.map V.int) → sp [.ref a] H (fun v _ => v = .bl true) fun _ _ _ => False) ∧
        ∀ base : Heap, K.In base → base.Ns mainGlobals mg → FnOkG l.prog w K mg base CX0 k fa fd [x] sp) : PySem.W.WalkO q loose XP YP l.row.toRowW d [] (fun f vs => PySem.call f vs) := by
  refine Att.attach_call hn hdf fun w s0 s1 mg mb fa o pm cd doc a vs ns G Y ho hd hcd hmg hobj hints hlen hg => ?_
  obtain ⟨K, fd, sp, KX, hb, hsp, hF⟩ := F w mg fa _ Y G.T.g hmg
  exact law_callG KX G.T.g G.T.b G.T.builtins G.T.nolimit hg hobj hints (Nat.le_trans hlen hn2) hr hF hb fun H hO hS => hsp H a ns hlen hO hS
end RC
/-! ## The head's facts of own errors besides -/
namespace RC
open PySem PySem.Spec PyProof.Rows L2 He
open PySem.W (Frag findIn keepIn subIn typeIn hasDictIn mroIn nsIn codeIn)
/-- an error class, its __init__ as the text has it -/
structure ErrD where
  x : Str
  st : Stmt
abbrev EfW : Type := Option (Str × Arguments × FuncBody × Scope × Addr × List Str × Addr)
def efW (K : Frag) (e : ErrD) : EfW := match K.lookup (ma K (ga K e.x) "__init__") with
  | some ⟨_, _, .func fd, _⟩ => some (fd.name, fd.params, fd.body, fd.scope, fd.globals, fd.closure.map (·.1), fd.builtins)
  | _ => none
def ErrD.val (e : ErrD) : EfW := some ("__init__", defArgs e.st, .stmts (defBody e.st), defScope e.st, mainGlobals, ["__class__"], builtinsNs)
/-- the class's object -/
def eClsB (K : Frag) (C : Addr) : Bool := match K.lookup C with
  | some ⟨.type t, _, .cls cd, sl⟩ => t == "type" && (match cd.mro, sl.toList with
    | .ref C' :: bm, [_, _, _, _, some (.builtin n), _] => C' == C && (n == "ValueError.__new__" && (!cd.hasDel && (cd.hasDict && HandSPX.refsVE bm)))
    | _, _ => false)
  | _ => false
theorem eClsB_ok {K : Frag} {C : Addr} (h : eClsB K C = true) : ∃ nm q N bs bm sn sub ab col dd k0 k1 k2 k3 k5, K.lookup C = some (excClassObj nm q C N bs bm true sn sub ab col dd k0 k1 k2 k3 k5 "ValueError.__new__") ∧ HandSPX.refsVE bm = true := by
  unfold eClsB at h
  split at h
  · rename_i t dd cd sl ho
    obtain ⟨h0, h⟩ := ba h
    split at h
    · rename_i C' bm k0 k1 k2 k3 n k5 hm hs
      obtain ⟨h1, h⟩ := ba h
      obtain ⟨h2, h⟩ := ba h
      obtain ⟨h3, h⟩ := ba h
      obtain ⟨h4, h5⟩ := ba h
      have e0 := beq_iff_eq.mp h0
      have e1 := beq_iff_eq.mp h1
      have e2 := beq_iff_eq.mp h2
      have e3 : cd.hasDel = false := by simpa using h3
      subst e0 e1 e2
      obtain ⟨nm, bs, mro, ns, qn, hd, sn, sub, ab, col, del⟩ := cd
      dsimp only at hm e3 h4
      subst hm e3 h4
      have hsl : sl = #[k0, k1, k2, k3, some (.builtin "ValueError.__new__"), k5] := by
        obtain ⟨l⟩ := sl
        have z : l = [k0, k1, k2, k3, some (.builtin "ValueError.__new__"), k5] := hs
        rw [z]
      subst hsl
      exact ⟨nm, qn, ns, bs, bm, sn, sub, ab, col, dd, k0, k1, k2, k3, k5, ho, h5⟩
    · cases h
  · cases h
/-- the cell of __class__ -/
def celB (K : Frag) (cl : List (Str × Addr)) (C : Addr) : Bool := match cl with
  | [(_, cc)] => (match K.lookup cc with
    | some ⟨_, _, .cell (some (.ref D)), _⟩ => D == C
    | _ => false)
  | _ => false
theorem celB_ok {K : Frag} {cl : List (Str × Addr)} {C : Addr} (h : celB K cl C = true) : ∃ y cc v d s, cl = [(y, cc)] ∧ K.lookup cc = some ⟨v, d, .cell (some (.ref C)), s⟩ := by
  unfold celB at h
  split at h
  · split at h
    · rename_i cc _ v d D s q
      have e := beq_iff_eq.mp h
      subst e
      exact ⟨_, _, _, _, _, rfl, q⟩
    · cases h
  · cases h
/-- the code's file -/
def filB (K : Frag) (cd : Value) (file : Str) : Bool := match cd with
  | .ref c => (match K.lookup c with
    | some ⟨_, _, .fields vs, _⟩ => (match (vs[2]? : Option Value) with
      | some (Value.str f _) => file == f
      | _ => false)
    | _ => false)
  | _ => false
theorem filB_ok {K : Frag} {cd : Value} {file : Str} (h : filB K cd file = true) : ∃ c v d vs s f t, cd = .ref c ∧ K.lookup c = some ⟨v, d, .fields vs, s⟩ ∧ vs[2]? = some (.str f t) ∧ (file == f) = true := by
  unfold filB at h
  split at h
  · split at h
    · rename_i q
      split at h
      · rename_i q2
        exact ⟨_, _, _, _, _, _, _, rfl, q, q2, h⟩
      · cases h
    · cases h
  · cases h
/-- the defaults: None -/
def dnoB (K : Frag) (d : Value) : Bool := match d with
  | .ref t => (match K.lookup t with
    | some ⟨_, _, .seq its _, _⟩ => its.toList.length == 1 && its.toList.all fun v => v == Value.none
    | _ => false)
  | _ => false
theorem one_none {its : Array Value} (h1 : (its.toList.length == 1) = true) (h2 : (its.toList.all fun v => v == Value.none) = true) : its = #[.none] := by
  obtain ⟨l⟩ := its
  match l, h1, h2 with
  | [v], _, h2 =>
    have e : v = .none := by simpa using h2
    rw [e]
theorem dnoB_ok {K : Frag} {d : Value} (h : dnoB K d = true) : ∃ (t : Addr) (o : Obj) (n : Nat), d = .ref t ∧ K.lookup t = some o ∧ o.data = .seq #[.none] n := by
  unfold dnoB at h
  split at h
  · split at h
    · rename_i its n _ q
      obtain ⟨h1, h2⟩ := ba h
      have e := one_none h1 h2
      subst e
      exact ⟨_, _, _, rfl, q, rfl⟩
    · cases h
  · cases h
def eFnB (K : Frag) (C f : Addr) (file : Str) : Bool := match K.lookup f with
  | some ⟨_, _, .func fd, _⟩ => codeIn K fd.code fd.qualname && (celB K fd.closure C && (filB K fd.code file && dnoB K fd.defaults))
  | _ => false
/-- the class's facts; file: the program's -/
def eFacB (K : Frag) (file : Str) (x : Str) : Bool :=
  eClsB K (ga K x) && (decide (findIn K (.ref (ga K x)) "__setattr__" = some (some (.builtin "object.__setattr__"))) && (decide (findIn K (.ref (ga K x)) "__getattribute__" = some (some (.builtin "BaseException.__getattribute__"))) && (decide (findIn K (.ref (ga K x)) "__getattr__" = some none) &&
    (decide (findIn K (.ref (ga K x)) "value" = some none) && (decide (findIn K (.ref (ga K x)) "__init__" = some (some (.ref (ma K (ga K x) "__init__")))) && (decide (typeIn K (.ref (ma K (ga K x) "__init__")) = some (.type "function")) && (keepIn K (.ref (ga K x)) &&
      (decide (subIn K (.ref (ga K x)) (.type "BaseException") = some true) && (decide (subIn K (.ref (ga K x)) (.type "ValueError") = some true) && (decide (typeIn K (.ref (ga K x)) = some (.type "type")) && (hasDictIn K (ga K x) && (decide (mroIn K (ga K x) (.ref (ga K x)) = some true) &&
        (PySem.W.excInitIn K (ga K x) vB "ValueError.__new__" && (decide (PySem.W.ks_superIn K (ga K x) (ga K x) "__init__" = some (some (.builtin "ValueError.__init__"))) && (decide (nsIn K cStatics "thirdparty.any" = some none) && (decide (subIn K (.ref (ga K x)) (.ref (ga K x)) = some true) &&
          eFnB K (ga K x) (ma K (ga K x) "__init__") file))))))))))))))))
/-- together: what the rules for the error ask -/
theorem err_of {P : Program} {K : Frag} {mg : Str → Option Value} {e : ErrD} {file : Str} (nsu : mg "super" = none) (top : (P.main.scope.names.lookup ("super" : Str)).isSome = false) (hfile : (P.main.file : Str) = file)
    (ha : ∃ p1 p2 p3, defArgs e.st = eAr p1 p2 p3) (hbo : ∃ q1 q2 q3 q4 q5 q6 q7 q8 q9 q10, defBody e.st = eBo q1 q2 q3 q4 q5 q6 q7 q8 q9 q10 ∧ (q3.endLine == q5.line) = true) (hsc : defScope e.st = eSc)
    (c : efW K e = e.val) (b : eFacB K file e.x = true) : ErrC P K mg (ga K e.x) (ma K (ga K e.x) "__init__") := by
  obtain ⟨b1, b⟩ := ba b
  obtain ⟨b2, b⟩ := ba b
  obtain ⟨b3, b⟩ := ba b
  obtain ⟨b4, b⟩ := ba b
  obtain ⟨b5, b⟩ := ba b
  obtain ⟨b6, b⟩ := ba b
  obtain ⟨b7, b⟩ := ba b
  obtain ⟨b8, b⟩ := ba b
  obtain ⟨b9, b⟩ := ba b
  obtain ⟨b10, b⟩ := ba b
  obtain ⟨b11, b⟩ := ba b
  obtain ⟨b12, b⟩ := ba b
  obtain ⟨b13, b⟩ := ba b
  obtain ⟨b14, b⟩ := ba b
  obtain ⟨b15, b⟩ := ba b
  obtain ⟨b16, b⟩ := ba b
  obtain ⟨b17, b18⟩ := ba b
  refine ⟨eClsB_ok b1, of_decide_eq_true b2, of_decide_eq_true b3, of_decide_eq_true b4, of_decide_eq_true b5, of_decide_eq_true b6, of_decide_eq_true b7, b8, of_decide_eq_true b9, of_decide_eq_true b10, of_decide_eq_true b11, b12, of_decide_eq_true b13, b14, of_decide_eq_true b15, of_decide_eq_true b16, nsu, top, ?_⟩
  clear b1 b2 b3 b4 b5 b6 b7 b8 b9 b10 b11 b12 b13 b14 b15 b16 b17
  obtain ⟨p1, p2, p3, ea⟩ := ha
  obtain ⟨q1, q2, q3, q4, q5, q6, q7, q8, q9, q10, eb, hpos⟩ := hbo
  unfold efW at c
  unfold eFnB at b18
  cases q : K.lookup (ma K (ga K e.x) "__init__") with
  | none =>
    rw [q] at b18
    cases b18
  | some o =>
    obtain ⟨oc, od, dt, osl⟩ := o
    rw [q] at b18 c
    cases dt with
    | func fd =>
      obtain ⟨n1, n2, n3, n4, n5, n6, n7, n8, n9, n10, n11, n12, n13, n14, n15⟩ := fd
      have c2 : (some (n1, n3, n4, n5, n6, n7.map (·.1), n15) : EfW) = some (("__init__" : Str), defArgs e.st, FuncBody.stmts (defBody e.st), defScope e.st, mainGlobals, [("__class__" : Str)], builtinsNs) := c
      rw [ea, eb, hsc] at c2
      simp only [Option.some.injEq, Prod.mk.injEq] at c2
      obtain ⟨h1, h3, h4, h5, h6, h7, h8⟩ := c2
      subst h1 h3 h4 h5 h6 h8
      have b19 : (codeIn K n13 n2 && (celB K n7 (ga K e.x) && (filB K n13 file && dnoB K n8))) = true := b18
      obtain ⟨d1, d⟩ := ba b19
      obtain ⟨d2, d⟩ := ba d
      obtain ⟨d3, d4⟩ := ba d
      obtain ⟨y, cc, cl, cld, csl, rfl, k1⟩ := celB_ok d2
      obtain ⟨cda, ccl, cdd, vs, ccs, f, tf, rfl, k2, k3, k4⟩ := filB_ok d3
      obtain ⟨Td, oT, nT, rfl, k5, k6⟩ := dnoB_ok d4
      have ey : y = "__class__" := by simpa using h7
      subst ey
      exact ⟨_, _, _, _, _, _, _, _, _, _, _, _, _, _, _, _, cda, cc, vs, f, tf, p1, p2, p3, q1, q2, q3, q4, q5, q6, q7, q8, q9, q10, rfl, d1, k2, k3, by rw [hfile]; exact k4, k1, hpos, Td, oT, nT, rfl, k5, k6⟩
    | _ => cases b18
/-! ### the hook: HookR's and the errors' -/
abbrev AlE : Type := AlR × (List EfW × Bool)
def obsE (fa : List Fa) (fn : List DefD) (cs : List Str) (ks : List Kq) (ns : List Nf) (es : List ErrD) (file : Str) (K : Frag) : AlE := (obsR fa fn cs ks ns K, (es.map (efW K), es.all fun e => eFacB K file e.x))
def valE (fn : List DefD) (es : List ErrD) : AlE := (valR fn, (es.map ErrD.val, true))
def SaysE (fa : List Fa) (fn : List DefD) (cs : List Str) (ks : List Kq) (ns : List Nf) (es : List ErrD) (file : Str) (K : Frag) : Prop := obsE fa fn cs ks ns es file K = valE fn es
/-! ### what the module's names reach, each object asked once -/
open HandSHeadRun (frNat) in
def newB : List Addr → Nat → List Addr → Nat × List Addr
  | [], m, acc => (m, acc)
  | a :: r, m, acc => frNat a fun a => match Nat.beq (Nat.land (Nat.shiftRight m a) 1) 1 with
    | true => newB r m acc
    | false => frNat (Nat.lor m (Nat.shiftLeft 1 a)) fun m => newB r m (a :: acc)
open HandSHeadRun (frNat) in
/-- n steps; m: the seen ones, as bits; last: those of the last step -/
def asB (g : Addr → Option Obj) : Nat → Nat → List Addr → List Addr → List Addr
  | 0, _, _, all => all
  | n + 1, m, last, all => match newB (last.flatMap fun a => match g a with
    | some o => refsD o
    | none => []) m [] with
    | (m, new) => frNat m fun m => asB g n m new (all ++ new.reverse)
def obsEG (n : Nat) (fa : List Fa) (fn : List DefD) (cs : List Str) (ks : List Kq) (ns : List Nf) (es : List ErrD) (file : Str) (g : Addr → Option Obj) : AlE := obsE fa fn cs ks ns es file (frG g (cStatics :: asB g n (Nat.shiftLeft 1 mainGlobals) [mainGlobals] [mainGlobals]))
def hookE (n : Nat) (fa : List Fa) (fn : List DefD) (cs : List Str) (ks : List Kq) (ns : List Nf) (es : List ErrD) (file : Str) : PySem.W.Hook where
  α := AlE
  obs := fun s => obsEG n fa fn cs ks ns es file s.heap.get?
  val := fun _ => valE fn es
  says := fun _ h => ∃ K : Frag, K.In h ∧ SaysE fa fn cs ks ns es file K
  of := fun _ _ e => ⟨_, frG_in, e⟩
  keeps := fun _ _ _ ⟨K, hK, c⟩ k => ⟨K, PySem.W.Frag.In.keeps hK k, c⟩
theorem obsEG_eq {n : Nat} {fa : List Fa} {fn : List DefD} {cs : List Str} {ks : List Kq} {ns : List Nf} {es : List ErrD} {file : Str} {g : Addr → Option Obj} {s : Shared} (h : ∀ a, g a = s.heap.get? a) : obsEG n fa fn cs ks ns es file g = (hookE n fa fn cs ks ns es file).obs s := by
  have e : g = s.heap.get? := funext h
  rw [e] <;> rfl
section
variable {fa : List Fa} {fn : List DefD} {cs : List Str} {ks : List Kq} {ns : List Nf} {es : List ErrD} {file : Str} {K : Frag}
theorem SaysE.r (c : SaysE fa fn cs ks ns es file K) : SaysR fa fn cs ks ns K := congrArg (fun z : AlE => z.1) c
theorem SaysE.err (c : SaysE fa fn cs ks ns es file K) (i : Nat) {e : ErrD} (h : es[i]? = some e := by rfl) : efW K e = e.val ∧ eFacB K file e.x = true := by
  have c1 : es.map (efW K) = es.map ErrD.val := congrArg (fun z : AlE => z.2.1) c
  have c2 : (es.all fun e => eFacB K file e.x) = true := congrArg (fun z : AlE => z.2.2) c
  refine ⟨?_, List.all_eq_true.mp c2 e (List.mem_of_getElem? h)⟩
  have z : (es.map (efW K))[i]? = (es.map ErrD.val)[i]? := by rw [c1]
  rw [List.getElem?_map, List.getElem?_map, h] at z
  exact Option.some.inj z
theorem sub_self {x : Str} (b : eFacB K file x = true) : subIn K (.ref (ga K x)) (.ref (ga K x)) = some true := by
  unfold eFacB at b
  exact of_decide_eq_true (ba (ba (ba (ba (ba (ba (ba (ba (ba (ba (ba (ba (ba (ba (ba (ba (ba b).2).2).2).2).2).2).2).2).2).2).2).2).2).2).2).2).1
end
end RC
/-! ## for i in range(a, b), a and b of any size -/
namespace RC
open PySem PySem.Spec PyProof.Rows L2
theorem turn_long {P : Program} {w : World} {K : PySem.W.Frag} {tg : Expr} (it : Addr) (lo : Int) (n : Nat) : Turn P w K tg (Itr lo n) [it] it (fun i h => IsLongIter h it (lo + (i : Nat) * 1) ((n : Int) - (i : Nat)) 1) where
  mem := List.mem_cons_self
  obj := fun i h st b hb => by
    obtain rfl := List.mem_singleton.mp hb
    exact ⟨_, st, fun v z => by
      have z2 : Data.fields _ = Data.cell v := z
      cases z2⟩
  keep := fun i h h' st k => k it List.mem_cons_self _ st
  item := fun X hP hw hK hc i pins s σ H E I hf st hg => by
    subst hP hw hK
    obtain ⟨f0, f1, f2, f3, f4, f5⟩ := hf it List.mem_cons_self
    refine (Walks.longrange (prog := X.prog) (w := X.w) (A := X.A) (I.ok.hd hc) it lo 1 n).item i s _ _ hg st fun v h' tk ⟨t, e⟩ st' kk => ?_
    subst e
    have I1 : Inv X pins σ H { s with heap := h', toks := tk } := I.turned (fun b o hb e => kk b o (fun z => hb (List.mem_singleton.mp z)) e) f0 f1 f3 f4 f5
    exact ⟨_, rfl, go_of (s := { s with heap := h', toks := tk }) (n := "longrange_iterator") st' rfl rfl (by decide) ⟨.int (lo + i), H, I1, ⟨t, by rw [Int.mul_one]⟩, ⟨rfl, rfl⟩, st', fun b hb => (hf b hb).1⟩⟩
  done := fun X hP hw hK hc i pins s σ H E I hf st hg => by
    subst hP hw hK
    obtain ⟨f0, f1, f2, f3, f4, f5⟩ := hf it List.mem_cons_self
    have le : n ≤ i := hg
    exact wpAny_pyNext_long_end (I.ok.hd hc) st (by omega) fun h' eb => ⟨rfl, I.turned (t' := s.toks) (fun b o hb e => eb b o hb e) f0 f1 f3 f4 f5⟩
  self := fun _ _ _ _ _ st h => wpAny_pyIter_longiter st h
section
variable {X : Cx} {tg : Expr}
def iRngL (ta : TA) : TI := fun σ H R => ta σ H fun vs H1 => ∃ i j : Int, vs = [.int i, .int j] ∧ R (Itr i (j - i).toNat) H1
theorem pi_rangeL {a b : Expr} {ta : TA} {p pos : Pos} (hg : Gl X "range") (hm : X.mg "range" = none) (ha : PA X [a, b] ta) (hs : starEach [a, b] X.env = [(false, eval a X.env), (false, eval b X.env)] := by rfl) (hs2 : starEach [b] X.env = [(false, eval b X.env)] := by rfl) : PI X tg (.Call (.Name "range" p) [a, b] [] pos) (iRngL ta) := by
  refine ⟨fun pins s σ H R I h => Call_ (ld_blt I hg hm boot_range (PyProof.Rows.callWith_type1 (thn (ha.run pos pins s σ H _ I h) fun us s1 ⟨vs, H1, I1, r1, i, j, e, q⟩ => ?_) (by rw [hs, hs2]) (by rw [hs2]; rfl)))⟩
  subst e
  cases r1 with
  | cons r rr =>
    cases rr with
    | cons r' rr =>
      cases rr
      obtain ⟨t, rfl⟩ := r
      obtain ⟨t', rfl⟩ := r'
      refine call_range_2 ?_
      have size : (((j - i).toNat : Nat) : Int) - ((0 : Nat) : Int) = Builtin.Range.rangeSize i j 1 := by
        rw [rangeSize_one]
        split <;> omega
      have first : i + ((0 : Nat) : Int) * 1 = i := by simp
      have new : ∀ {o o' : Obj} {tk : Nat}, Inv X pins σ H1 { s1 with heap := (s1.heap.push o).push o', toks := tk } := fun {o o' tk} => I1.kept fun b u e => Heap.get?_push_of_some _ (Heap.get?_push_of_some _ e)
      have fp : ∀ {o : Obj} {tk : Nat} {b : Addr}, b ∈ [(s1.heap.push o).objs.size] → FpOk X pins H1 b := fun {o tk b} hb => by
        obtain rfl := List.mem_singleton.mp hb
        have J : Inv X pins σ H1 { s1 with heap := s1.heap.push o, toks := tk } := I1.kept fun b u e => Heap.get?_push_of_some _ e
        exact J.fpOk (Nat.le_refl _) (J.hok.fresh (Nat.le_refl _))
      cases hb : Builtin.Range.small i j 1 with
      | true =>
        refine wpAny_pyIter_range (IsRange.new ..) hb ⟨_, [_], _, _, H1, rfl, new, turn_range _ i (j - i).toNat, ?_, fun b hb => fp (tk := 0) hb, q⟩
        show IsRangeIter _ _ (i + ((0 : Nat) : Int) * 1) ((((j - i).toNat : Nat) : Int) - ((0 : Nat) : Int)) 1
        rw [first, size]
        exact Heap.get?_push_size _ rfl
      | false =>
        refine wpAny_pyIter_longrange (IsRange.new ..) hb ⟨_, [_], _, _, H1, rfl, new, turn_long _ i (j - i).toNat, ?_, fun b hb => fp (tk := 0) hb, q⟩
        show IsLongIter _ _ (i + ((0 : Nat) : Int) * 1) ((((j - i).toNat : Nat) : Int) - ((0 : Nat) : Int)) 1
        rw [first, size]
        exact Heap.get?_push_size _ rfl
def RnL (vs : List V) (H : Hp) (R : It → Hp → Prop) : Prop := ∃ i j : Int, vs = [.int i, .int j] ∧ R (Itr i (j - i).toNat) H
theorem r_rngL {tA : TA} {σ : L2.St} {H : Hp} {R : It → Hp → Prop} (h : tA σ H fun vs H1 => RnL vs H1 R) : iRngL tA σ H R := h
theorem r_rngL' {H : Hp} {i j : Int} {n : Nat} {R : It → Hp → Prop} (e : (j - i).toNat = n) (h : R (Itr i n) H) : RnL [.int i, .int j] H R := ⟨i, j, rfl, by rw [e]; exact h⟩
end
end RC
/-! ## isinstance of a kept error; C(e, ..) in a try -/
namespace RC
open PySem PySem.Spec PyProof.Rows L2
open PySem.W (Frag)
section
variable {X : Cx}
/-- isinstance(err, c), err a kept error -/
def rIsErr (P : Program) (K : Frag) (mg : Str → Option Value) : List V → Hp → VK → Prop := fun xs H Q => ∃ (a C fI d : Addr) (v c : V) (cv : Value) (b : Bool), xs = [.ref a, c] ∧ H a = some (ErrO (.ref C) (some d) a) ∧ H d = some (.xd [(valS, v)]) ∧ ErrC P K mg C fI ∧ ClsX K C ∧ ClsV c cv ∧ PySem.W.kitOne K (.ref C) cv = some b ∧ Q (.bl b) H
theorem call_isErr : CallR X (.builtin "isinstance") (rIsErr X.prog X.K X.mg) := by
  intro pins s σ H xs us Q I r h
  obtain ⟨a, C, fI, d, v, c, cv, b, rfl, ea, ed, T, x, k, e, q⟩ := h
  obtain ⟨u1, u2, rfl, r1, r2⟩ := vals2 r
  have e2 := k.eq r2
  subst e2
  have e1 : u1 = Value.ref a := r1
  subst e1
  obtain ⟨⟨oe, vs, ho, hz, hd⟩, _, _⟩ := I.hok a _ ea
  obtain ⟨mA, hns, hr⟩ := (show ObjOk X.prog X.w H s.heap d (.xd [(valS, v)]) from I.hok d _ ed)
  obtain ⟨od, hod, _⟩ := lookIn_ns hns
  have J : PySem.W.InstAt s.heap a oe C (some od) := ⟨ho, hz.1, by unfold PySem.W.notCls; rw [hd] <;> rfl, by rw [hz.2]; exact hod⟩
  have hcl : (PySem.W.clsIn X.K C).isSome = true := by
    obtain ⟨nm, q, N, bs, bm, sn, sub, ab, col, dd, k0, k1, k2, k3, k5, hC, _⟩ := T.ini
    unfold PySem.W.clsIn
    rw [hC]
    rfl
  exact PySem.W.kia_one (PySem.W.kitx_exc hcl T.ga T.gg T.exC x.ha x.hn x.htk x.hm) I.kIn J e (fun z => nomatch z) fun tk => ⟨.bl b, H, I.tok tk, rfl, q⟩
end
section
variable {X : Cx} {k : Nat} {f C : Addr} {fd : FuncData} {ps : List Str} {sp : Sp} {W : WX} {x : Str} {p pos : Pos} {e : Expr} {es : List Expr} {t : TA}
def tMakeW (C : Addr) (sp : Sp) (W : WX) (t : TA) : TE := fun σ H Q => tMake C sp [] (WE W σ) t σ H Q
theorem r_makeW {σ : L2.St} {H : Hp} {Q : VK} (h : t σ H fun vs H1 => MakeV C sp (vs ++ []) H1 Q (WE W σ)) : tMakeW C sp W t σ H Q := h
theorem pe_makeW (M : Mk X.K C f) (F : FnOk X.prog X.w X.K X.mg X.base (L2.CX X.prog X.w) k f fd ps sp) (hr : Room (k + 1) X.A) (hg : Gl X x) (hm : X.mg x = some (.ref C)) (hb : Binds X.K fd ps []) (tk : Takes X W)
    (ha : PA X (e :: es) t) (hdb : (x == ("__debug__" : Str)) = false := by decide) (he : starEach (e :: es) X.env = (false, eval e X.env) :: starEach es X.env := by rfl) (hpl : (backTo pos (starEach es X.env)).any (·.1) = false := by rfl) :
    PE X (.Call (.Name x p) (e :: es) [] pos) (tMakeW C sp W t) := by
  refine ⟨fun pins s σ H Q I h => wpAny_Call_Name_kw (ld_glob I hg hm (PySem.W.callWith_K (h₀ := X.base) I.ok.mod.kin M.kp (thn (ha.run pos pins s σ H _ I h) fun us s1 ⟨vs, H1, I1, r, q⟩ => ⟨I1.kIn, ?_⟩) he hpl) hdb)⟩
  have hq := q (s1.heap.objs.size + 1) s1.heap.objs.size (I1.hok.fresh (Nat.le_succ _)) (I1.hok.fresh (Nat.le_refl _)) (Nat.ne_of_lt (Nat.lt_succ_self _))
  rw [List.append_nil] at hq
  have I2 := Inv.made (C := C) I1
  have r2 : Vals (V.ref (s1.heap.objs.size + 1) :: vs) (Value.ref (s1.heap.objs.size + 1) :: us) := .cons rfl r
  have hl : (Value.ref (s1.heap.objs.size + 1) :: us ++ []).length = ps.length := by
    rw [List.append_nil, ← r2.length]
    exact F.len _ _ _ _ hq
  have bind := hb _ (Value.ref (s1.heap.objs.size + 1) :: us) I2.kIn hl
  rw [List.append_nil] at bind
  refine wpAny_call (make_map (f := f) I1.kIn M.makes M.init (beq_iff_eq.mp M.fn) (codeAny_mono (F.run _ X.stack _ _ ⟨Value.ref (s1.heap.objs.size + 1) :: us, []⟩ (Value.ref (s1.heap.objs.size + 1) :: us) _ _ (WE W σ) (hr.make C us []) (I2.env0.make C us []) bind r2 hq) fun r s' hq' => ?_))
  match r, hq' with
  | .error er, hq' => exact passAt tk σ pins _ _ er s' I2 hq'
  | .ok (.ret u), hq' =>
    obtain ⟨v, H', I3, rv, ev, q3⟩ := I2.after hq'
    subst ev
    exact ⟨rv, ⟨V.ref (s1.heap.objs.size + 1), H', I3, rfl, q3⟩⟩
end
end RC
namespace RC
open PySem PySem.Spec PyProof.Rows L2 He
abbrev PR : Program := (PySem.W.OpenLaw.row PySem.Challenge.rw_rollclerk_k61_texts_of_no_counter).prog
def top (i : Nat) : Stmt := PySem.Challenge.pw_rollclerk_k61_texts_of_no_counter.main.body.getD i (.Pass ⟨0, 0, 0, 0⟩)
abbrev s_is_whole : Stmt := (top 9)
abbrev N_is_whole : List Str := ["value"]
theorem sc_is_whole : FnScope N_is_whole ["value"] (defScope s_is_whole) := ⟨rfl, rfl, rfl, by decide +kernel, rfl, by decide +kernel, by decide +kernel⟩
abbrev s_check_number : Stmt := (top 10)
abbrev N_check_number : List Str := ["value", "least"]
theorem sc_check_number : FnScope N_check_number ["value", "least"] (defScope s_check_number) := ⟨rfl, rfl, rfl, by decide +kernel, rfl, by decide +kernel, by decide +kernel⟩
abbrev s_Roll_init : Stmt := (inClass (top 12) 0)
abbrev N_Roll_init : List Str := ["self", "worths", "worth", "firsts"]
theorem sc_Roll_init : FnScope N_Roll_init ["self", "worths"] (defScope s_Roll_init) := ⟨rfl, rfl, rfl, by decide +kernel, rfl, by decide +kernel, by decide +kernel⟩
abbrev s_Roll_worths : Stmt := (inClass (top 12) 1)
abbrev N_Roll_worths : List Str := ["self"]
theorem sc_Roll_worths : FnScope N_Roll_worths ["self"] (defScope s_Roll_worths) := ⟨rfl, rfl, rfl, by decide +kernel, rfl, by decide +kernel, by decide +kernel⟩
abbrev s_Roll_len : Stmt := (inClass (top 12) 2)
abbrev N_Roll_len : List Str := ["self"]
theorem sc_Roll_len : FnScope N_Roll_len ["self"] (defScope s_Roll_len) := ⟨rfl, rfl, rfl, by decide +kernel, rfl, by decide +kernel, by decide +kernel⟩
abbrev s_Roll_worth : Stmt := (inClass (top 12) 4)
abbrev N_Roll_worth : List Str := ["self", "at"]
theorem sc_Roll_worth : FnScope N_Roll_worth ["self", "at"] (defScope s_Roll_worth) := ⟨rfl, rfl, rfl, by decide +kernel, rfl, by decide +kernel, by decide +kernel⟩
abbrev s_Roll_eq : Stmt := (inClass (top 12) 9)
abbrev N_Roll_eq : List Str := ["self", "other"]
theorem sc_Roll_eq : FnScope N_Roll_eq ["self", "other"] (defScope s_Roll_eq) := ⟨rfl, rfl, rfl, by decide +kernel, rfl, by decide +kernel, by decide +kernel⟩
abbrev s_Counter_init : Stmt := (inClass (top 15) 0)
abbrev N_Counter_init : List Str := ["self", "rolls", "roll"]
theorem sc_Counter_init : FnScope N_Counter_init ["self", "rolls"] (defScope s_Counter_init) := ⟨rfl, rfl, rfl, by decide +kernel, rfl, by decide +kernel, by decide +kernel⟩
abbrev s_Counter_rolls : Stmt := (inClass (top 15) 1)
abbrev N_Counter_rolls : List Str := ["self"]
theorem sc_Counter_rolls : FnScope N_Counter_rolls ["self"] (defScope s_Counter_rolls) := ⟨rfl, rfl, rfl, by decide +kernel, rfl, by decide +kernel, by decide +kernel⟩
abbrev s_Counter_len : Stmt := (inClass (top 15) 2)
abbrev N_Counter_len : List Str := ["self"]
theorem sc_Counter_len : FnScope N_Counter_len ["self"] (defScope s_Counter_len) := ⟨rfl, rfl, rfl, by decide +kernel, rfl, by decide +kernel, by decide +kernel⟩
abbrev s_Counter_eq : Stmt := (inClass (top 15) 3)
abbrev N_Counter_eq : List Str := ["self", "other"]
theorem sc_Counter_eq : FnScope N_Counter_eq ["self", "other"] (defScope s_Counter_eq) := ⟨rfl, rfl, rfl, by decide +kernel, rfl, by decide +kernel, by decide +kernel⟩
abbrev s_tokens_of : Stmt := (top 20)
abbrev N_tokens_of : List Str := ["text", "found", "last", "sign"]
theorem sc_tokens_of : FnScope N_tokens_of ["text"] (defScope s_tokens_of) := ⟨rfl, rfl, rfl, by decide +kernel, rfl, by decide +kernel, by decide +kernel⟩
abbrev s_is_number : Stmt := (top 21)
abbrev N_is_number : List Str := ["token"]
theorem sc_is_number : FnScope N_is_number ["token"] (defScope s_is_number) := ⟨rfl, rfl, rfl, by decide +kernel, rfl, by decide +kernel, by decide +kernel⟩
abbrev s_read_counter : Stmt := (top 22)
abbrev N_read_counter : List Str := ["text", "tokens", "rolls", "token", "worths"]
theorem sc_read_counter : FnScope N_read_counter ["text"] (defScope s_read_counter) := ⟨rfl, rfl, rfl, by decide +kernel, rfl, by decide +kernel, by decide +kernel⟩
abbrev s_l_cell : Stmt := (top 24)
abbrev N_l_cell : List Str := ["_law_script", "_law_index"]
theorem sc_l_cell : FnScope N_l_cell ["_law_script", "_law_index"] (defScope s_l_cell) := ⟨rfl, rfl, rfl, by decide +kernel, rfl, by decide +kernel, by decide +kernel⟩
abbrev s_l_hash : Stmt := (top 25)
abbrev N_l_hash : List Str := ["_law_seed", "_law_index", "_law_mixed"]
theorem sc_l_hash : FnScope N_l_hash ["_law_seed", "_law_index"] (defScope s_l_hash) := ⟨rfl, rfl, rfl, by decide +kernel, rfl, by decide +kernel, by decide +kernel⟩
abbrev s_l_generator : Stmt := (top 26)
abbrev N_l_generator : List Str := ["_law_script", "_law_index", "_law_seed"]
theorem sc_l_generator : FnScope N_l_generator ["_law_script", "_law_index"] (defScope s_l_generator) := ⟨rfl, rfl, rfl, by decide +kernel, rfl, by decide +kernel, by decide +kernel⟩
abbrev s_l_random : Stmt := (top 27)
abbrev N_l_random : List Str := ["_law_generator_here", "_law_bound", "_law_drawn", "_law_turn"]
theorem sc_l_random : FnScope N_l_random ["_law_generator_here", "_law_bound"] (defScope s_l_random) := ⟨rfl, rfl, rfl, by decide +kernel, rfl, by decide +kernel, by decide +kernel⟩
abbrev s_l_rows : Stmt := (top 28)
abbrev N_l_rows : List Str := ["_law_generator_here", "_law_most", "_law_many", "_law_found", "_law_turn", "_law_size", "_law_high", "_law_place"]
theorem sc_l_rows : FnScope N_l_rows ["_law_generator_here", "_law_most"] (defScope s_l_rows) := ⟨rfl, rfl, rfl, by decide +kernel, rfl, by decide +kernel, by decide +kernel⟩
abbrev s_l_counter : Stmt := (top 29)
abbrev N_l_counter : List Str := ["_law_rows_here", "_law_worths"]
theorem sc_l_counter : FnScope N_l_counter ["_law_rows_here"] (defScope s_l_counter) := ⟨rfl, rfl, rfl, by decide +kernel, rfl, by decide +kernel, by decide +kernel⟩
abbrev s_l_due : Stmt := (top 30)
abbrev N_l_due : List Str := ["_law_text", "_law_found", "_law_part", "_law_words", "_law_sign", "_law_word"]
theorem sc_l_due : FnScope N_l_due ["_law_text"] (defScope s_l_due) := ⟨rfl, rfl, rfl, by decide +kernel, rfl, by decide +kernel, by decide +kernel⟩
abbrev s_l_right : Stmt := (top 31)
abbrev N_l_right : List Str := ["_law_text", "_law_due_here", "_law_caught", "_law_told", "error", "_law_whole", "_law_worths"]
theorem sc_l_right : FnScope N_l_right ["_law_text"] (defScope s_l_right) := ⟨rfl, rfl, rfl, by decide +kernel, rfl, by decide +kernel, by decide +kernel⟩
abbrev s_l_bent : Stmt := (top 32)
abbrev N_l_bent : List Str := ["_law_generator_here", "_law_text", "_law_at", "_law_other", "_law_sign", "_law_some"]
theorem sc_l_bent : FnScope N_l_bent ["_law_generator_here", "_law_text"] (defScope s_l_bent) := ⟨rfl, rfl, rfl, by decide +kernel, rfl, by decide +kernel, by decide +kernel⟩
abbrev s_law : Stmt := (top 33)
abbrev N_law : List Str := ["_law_script", "_law_index", "_law_generator_here", "_law_rows_here", "_law_text", "_law_odd", "_law_bad", "_law_caught", "error", "_law_worths", "_law_some", "_law_worth"]
theorem sc_law : FnScope N_law ["_law_script"] (defScope s_law) := ⟨rfl, rfl, rfl, by decide +kernel, rfl, by decide +kernel, by decide +kernel⟩
def e_InvalidTextD : ErrD := ⟨"InvalidText", inClass (top 7) 0⟩
abbrev FnP (K : PySem.W.Frag) (x q : Str) (st : Stmt) (dv : List V) (f : Addr) (fd : FuncData) : Prop := FunD K x q (defArgs st) (defBody st) (defScope st) dv [] f fd
/-- what the walk asks of the top -/
structure Txt (K : PySem.W.Frag) (mg : Str → Option Value) : Type where
  g_is_whole : mg "is_whole" = some (.ref (ga K "is_whole"))
  g_check_number : mg "check_number" = some (.ref (ga K "check_number"))
  g_tokens_of : mg "tokens_of" = some (.ref (ga K "tokens_of"))
  g_is_number : mg "is_number" = some (.ref (ga K "is_number"))
  g_read_counter : mg "read_counter" = some (.ref (ga K "read_counter"))
  g_l_cell : mg "_law_cell" = some (.ref (ga K "_law_cell"))
  g_l_hash : mg "_law_hash" = some (.ref (ga K "_law_hash"))
  g_l_generator : mg "_law_generator" = some (.ref (ga K "_law_generator"))
  g_l_random : mg "_law_random" = some (.ref (ga K "_law_random"))
  g_l_rows : mg "_law_rows" = some (.ref (ga K "_law_rows"))
  g_l_counter : mg "_law_counter" = some (.ref (ga K "_law_counter"))
  g_l_due : mg "_law_due" = some (.ref (ga K "_law_due"))
  g_l_right : mg "_law_right" = some (.ref (ga K "_law_right"))
  g_l_bent : mg "_law_bent" = some (.ref (ga K "_law_bent"))
  g_law : mg "law" = some (.ref (ga K "law"))
  g_ClerkError : mg "ClerkError" = some (.ref (ga K "ClerkError"))
  g_InvalidNumber : mg "InvalidNumber" = some (.ref (ga K "InvalidNumber"))
  g_InvalidList : mg "InvalidList" = some (.ref (ga K "InvalidList"))
  g_InvalidWorth : mg "InvalidWorth" = some (.ref (ga K "InvalidWorth"))
  g_InvalidRoll : mg "InvalidRoll" = some (.ref (ga K "InvalidRoll"))
  g_InvalidText : mg "InvalidText" = some (.ref (ga K "InvalidText"))
  g_Roll : mg "Roll" = some (.ref (ga K "Roll"))
  g_Counter : mg "Counter" = some (.ref (ga K "Counter"))
  c_MOST_ROLLS : ∃ t, mg "MOST_ROLLS" = some (.int 3 t)
  c_BLANKS : ∃ t, mg "BLANKS" = some (.str " 
" t)
  c_DIGITS : ∃ t, mg "DIGITS" = some (.str "0123456789" t)
  c_MOST_DIGITS : ∃ t, mg "MOST_DIGITS" = some (.int 30 t)
  fr_bool : mg "bool" = none
  fr_int : mg "int" = none
  fr_isinstance : mg "isinstance" = none
  fr_len : mg "len" = none
  fr_list : mg "list" = none
  fr_max : mg "max" = none
  fr_range : mg "range" = none
  fr_repr : mg "repr" = none
  fr_str : mg "str" = none
  fr_sum : mg "sum" = none
  fr_tuple : mg "tuple" = none
  cl_Roll : Cls K (ga K "Roll")
  mk_Roll : Mk K (ga K "Roll") (ma K (ga K "Roll") "__init__")
  m_Roll_init : Meth K (ga K "Roll") "__init__" (ma K (ga K "Roll") "__init__")
  m_Roll_worths : Meth K (ga K "Roll") "worths" (ma K (ga K "Roll") "worths")
  m_Roll_len : Meth K (ga K "Roll") "__len__" (ma K (ga K "Roll") "__len__")
  m_Roll_worth : Meth K (ga K "Roll") "worth" (ma K (ga K "Roll") "worth")
  m_Roll_eq : Meth K (ga K "Roll") "__eq__" (ma K (ga K "Roll") "__eq__")
  na_Roll_row : NoAttr K (ga K "Roll") "row"
  na_Roll_firsts : NoAttr K (ga K "Roll") "firsts"
  cl_Counter : Cls K (ga K "Counter")
  mk_Counter : Mk K (ga K "Counter") (ma K (ga K "Counter") "__init__")
  m_Counter_init : Meth K (ga K "Counter") "__init__" (ma K (ga K "Counter") "__init__")
  m_Counter_rolls : Meth K (ga K "Counter") "rolls" (ma K (ga K "Counter") "rolls")
  m_Counter_len : Meth K (ga K "Counter") "__len__" (ma K (ga K "Counter") "__len__")
  m_Counter_eq : Meth K (ga K "Counter") "__eq__" (ma K (ga K "Counter") "__eq__")
  na_Counter_held : NoAttr K (ga K "Counter") "held"
  na_Counter_found : NoAttr K (ga K "Counter") "found"
  xm_InvalidText : PySem.W.exmOne K (.ref (ga K "InvalidText")) (.ref (ga K "ClerkError")) = some true
  fr_super : mg "super" = none
  x_Roll : ClsX K (ga K "Roll")
  k_int_Roll : PySem.W.kitOne K (.type "int") (.ref (ga K "Roll")) = some false
  n_Roll_int : PySem.W.notFirst K (ga K "Roll") (.type "int") = true
  k_Roll_int : PySem.W.kitOne K (.ref (ga K "Roll")) (.type "int") = some false
  k_bool_Roll : PySem.W.kitOne K (.type "bool") (.ref (ga K "Roll")) = some false
  n_Roll_bool : PySem.W.notFirst K (ga K "Roll") (.type "bool") = true
  k_Roll_bool : PySem.W.kitOne K (.ref (ga K "Roll")) (.type "bool") = some false
  k_str_Roll : PySem.W.kitOne K (.type "str") (.ref (ga K "Roll")) = some false
  n_Roll_str : PySem.W.notFirst K (ga K "Roll") (.type "str") = true
  k_Roll_str : PySem.W.kitOne K (.ref (ga K "Roll")) (.type "str") = some false
  k_NoneType_Roll : PySem.W.kitOne K (.type "NoneType") (.ref (ga K "Roll")) = some false
  n_Roll_NoneType : PySem.W.notFirst K (ga K "Roll") (.type "NoneType") = true
  k_list_Roll : PySem.W.kitOne K (.type "list") (.ref (ga K "Roll")) = some false
  n_Roll_list : PySem.W.notFirst K (ga K "Roll") (.type "list") = true
  k_Roll_list : PySem.W.kitOne K (.ref (ga K "Roll")) (.type "list") = some false
  k_tuple_Roll : PySem.W.kitOne K (.type "tuple") (.ref (ga K "Roll")) = some false
  n_Roll_tuple : PySem.W.notFirst K (ga K "Roll") (.type "tuple") = true
  k_Roll_tuple : PySem.W.kitOne K (.ref (ga K "Roll")) (.type "tuple") = some false
  k_dict_Roll : PySem.W.kitOne K (.type "dict") (.ref (ga K "Roll")) = some false
  n_Roll_dict : PySem.W.notFirst K (ga K "Roll") (.type "dict") = true
  k_Roll_dict : PySem.W.kitOne K (.ref (ga K "Roll")) (.type "dict") = some false
  k_Roll_Roll : PySem.W.kitOne K (.ref (ga K "Roll")) (.ref (ga K "Roll")) = some true
  n_Roll_Roll : PySem.W.notFirst K (ga K "Roll") (.ref (ga K "Roll")) = true
  k_Roll_Counter : PySem.W.kitOne K (.ref (ga K "Roll")) (.ref (ga K "Counter")) = some false
  n_Counter_Roll : PySem.W.notFirst K (ga K "Counter") (.ref (ga K "Roll")) = true
  x_Counter : ClsX K (ga K "Counter")
  k_int_Counter : PySem.W.kitOne K (.type "int") (.ref (ga K "Counter")) = some false
  n_Counter_int : PySem.W.notFirst K (ga K "Counter") (.type "int") = true
  k_Counter_int : PySem.W.kitOne K (.ref (ga K "Counter")) (.type "int") = some false
  k_bool_Counter : PySem.W.kitOne K (.type "bool") (.ref (ga K "Counter")) = some false
  n_Counter_bool : PySem.W.notFirst K (ga K "Counter") (.type "bool") = true
  k_Counter_bool : PySem.W.kitOne K (.ref (ga K "Counter")) (.type "bool") = some false
  k_str_Counter : PySem.W.kitOne K (.type "str") (.ref (ga K "Counter")) = some false
  n_Counter_str : PySem.W.notFirst K (ga K "Counter") (.type "str") = true
  k_Counter_str : PySem.W.kitOne K (.ref (ga K "Counter")) (.type "str") = some false
  k_NoneType_Counter : PySem.W.kitOne K (.type "NoneType") (.ref (ga K "Counter")) = some false
  n_Counter_NoneType : PySem.W.notFirst K (ga K "Counter") (.type "NoneType") = true
  k_list_Counter : PySem.W.kitOne K (.type "list") (.ref (ga K "Counter")) = some false
  n_Counter_list : PySem.W.notFirst K (ga K "Counter") (.type "list") = true
  k_Counter_list : PySem.W.kitOne K (.ref (ga K "Counter")) (.type "list") = some false
  k_tuple_Counter : PySem.W.kitOne K (.type "tuple") (.ref (ga K "Counter")) = some false
  n_Counter_tuple : PySem.W.notFirst K (ga K "Counter") (.type "tuple") = true
  k_Counter_tuple : PySem.W.kitOne K (.ref (ga K "Counter")) (.type "tuple") = some false
  k_dict_Counter : PySem.W.kitOne K (.type "dict") (.ref (ga K "Counter")) = some false
  n_Counter_dict : PySem.W.notFirst K (ga K "Counter") (.type "dict") = true
  k_Counter_dict : PySem.W.kitOne K (.ref (ga K "Counter")) (.type "dict") = some false
  k_Counter_Roll : PySem.W.kitOne K (.ref (ga K "Counter")) (.ref (ga K "Roll")) = some false
  n_Roll_Counter : PySem.W.notFirst K (ga K "Roll") (.ref (ga K "Counter")) = true
  k_Counter_Counter : PySem.W.kitOne K (.ref (ga K "Counter")) (.ref (ga K "Counter")) = some true
  n_Counter_Counter : PySem.W.notFirst K (ga K "Counter") (.ref (ga K "Counter")) = true
  x_InvalidText : ClsX K (ga K "InvalidText")
  k_InvalidText_InvalidText : PySem.W.kitOne K (.ref (ga K "InvalidText")) (.ref (ga K "InvalidText")) = some true
  k_NoneType_InvalidText : PySem.W.kitOne K (.type "NoneType") (.ref (ga K "InvalidText")) = some false
  k_InvalidText_ClerkError : PySem.W.kitOne K (.ref (ga K "InvalidText")) (.ref (ga K "ClerkError")) = some true
  e_InvalidText : ErrC PR K mg (ga K "InvalidText") (ma K (ga K "InvalidText") "__init__")
  es_InvalidText : PySem.W.subIn K (.ref (ga K "InvalidText")) (.ref (ga K "InvalidText")) = some true
  fd_is_whole : FuncData
  F_is_whole : FnP K "is_whole" "is_whole" s_is_whole [] (He.fAd K ("is_whole", none)) fd_is_whole
  fd_check_number : FuncData
  F_check_number : FnP K "check_number" "check_number" s_check_number [] (He.fAd K ("check_number", none)) fd_check_number
  fd_Roll_init : FuncData
  F_Roll_init : FnP K "__init__" "Roll.__init__" s_Roll_init [] (He.fAd K ("Roll", some "__init__")) fd_Roll_init
  fd_Roll_worths : FuncData
  F_Roll_worths : FnP K "worths" "Roll.worths" s_Roll_worths [] (He.fAd K ("Roll", some "worths")) fd_Roll_worths
  fd_Roll_len : FuncData
  F_Roll_len : FnP K "__len__" "Roll.__len__" s_Roll_len [] (He.fAd K ("Roll", some "__len__")) fd_Roll_len
  fd_Roll_worth : FuncData
  F_Roll_worth : FnP K "worth" "Roll.worth" s_Roll_worth [] (He.fAd K ("Roll", some "worth")) fd_Roll_worth
  fd_Roll_eq : FuncData
  F_Roll_eq : FnP K "__eq__" "Roll.__eq__" s_Roll_eq [] (He.fAd K ("Roll", some "__eq__")) fd_Roll_eq
  fd_Counter_init : FuncData
  F_Counter_init : FnP K "__init__" "Counter.__init__" s_Counter_init [] (He.fAd K ("Counter", some "__init__")) fd_Counter_init
  fd_Counter_rolls : FuncData
  F_Counter_rolls : FnP K "rolls" "Counter.rolls" s_Counter_rolls [] (He.fAd K ("Counter", some "rolls")) fd_Counter_rolls
  fd_Counter_len : FuncData
  F_Counter_len : FnP K "__len__" "Counter.__len__" s_Counter_len [] (He.fAd K ("Counter", some "__len__")) fd_Counter_len
  fd_Counter_eq : FuncData
  F_Counter_eq : FnP K "__eq__" "Counter.__eq__" s_Counter_eq [] (He.fAd K ("Counter", some "__eq__")) fd_Counter_eq
  fd_tokens_of : FuncData
  F_tokens_of : FnP K "tokens_of" "tokens_of" s_tokens_of [] (He.fAd K ("tokens_of", none)) fd_tokens_of
  fd_is_number : FuncData
  F_is_number : FnP K "is_number" "is_number" s_is_number [] (He.fAd K ("is_number", none)) fd_is_number
  fd_read_counter : FuncData
  F_read_counter : FnP K "read_counter" "read_counter" s_read_counter [] (He.fAd K ("read_counter", none)) fd_read_counter
  fd_l_cell : FuncData
  F_l_cell : FnP K "_law_cell" "_law_cell" s_l_cell [] (He.fAd K ("_law_cell", none)) fd_l_cell
  fd_l_hash : FuncData
  F_l_hash : FnP K "_law_hash" "_law_hash" s_l_hash [] (He.fAd K ("_law_hash", none)) fd_l_hash
  fd_l_generator : FuncData
  F_l_generator : FnP K "_law_generator" "_law_generator" s_l_generator [] (He.fAd K ("_law_generator", none)) fd_l_generator
  fd_l_random : FuncData
  F_l_random : FnP K "_law_random" "_law_random" s_l_random [] (He.fAd K ("_law_random", none)) fd_l_random
  fd_l_rows : FuncData
  F_l_rows : FnP K "_law_rows" "_law_rows" s_l_rows [] (He.fAd K ("_law_rows", none)) fd_l_rows
  fd_l_counter : FuncData
  F_l_counter : FnP K "_law_counter" "_law_counter" s_l_counter [] (He.fAd K ("_law_counter", none)) fd_l_counter
  fd_l_due : FuncData
  F_l_due : FnP K "_law_due" "_law_due" s_l_due [] (He.fAd K ("_law_due", none)) fd_l_due
  fd_l_right : FuncData
  F_l_right : FnP K "_law_right" "_law_right" s_l_right [] (He.fAd K ("_law_right", none)) fd_l_right
  fd_l_bent : FuncData
  F_l_bent : FnP K "_law_bent" "_law_bent" s_l_bent [] (He.fAd K ("_law_bent", none)) fd_l_bent
  fd_law : FuncData
  F_law : FnP K "law" "law" s_law [] (He.fAd K ("law", none)) fd_law
section
variable {K : PySem.W.Frag} {mg : Str → Option Value}
theorem b_is_whole (T : Txt K mg) : Binds K T.fd_is_whole ["value"] [] := T.F_is_whole.bindsN fun _ _ _ _ _ _ us hl => match us, hl with | [_], _ => rfl
theorem b_check_number (T : Txt K mg) : Binds K T.fd_check_number ["value", "least"] [] := T.F_check_number.bindsN fun _ _ _ _ _ _ us hl => match us, hl with | [_, _], _ => rfl
theorem b_Roll_init (T : Txt K mg) : Binds K T.fd_Roll_init ["self", "worths"] [] := T.F_Roll_init.bindsN fun _ _ _ _ _ _ us hl => match us, hl with | [_, _], _ => rfl
theorem b_Roll_worths (T : Txt K mg) : Binds K T.fd_Roll_worths ["self"] [] := T.F_Roll_worths.bindsN fun _ _ _ _ _ _ us hl => match us, hl with | [_], _ => rfl
theorem b_Roll_len (T : Txt K mg) : Binds K T.fd_Roll_len ["self"] [] := T.F_Roll_len.bindsN fun _ _ _ _ _ _ us hl => match us, hl with | [_], _ => rfl
theorem b_Roll_worth (T : Txt K mg) : Binds K T.fd_Roll_worth ["self", "at"] [] := T.F_Roll_worth.bindsN fun _ _ _ _ _ _ us hl => match us, hl with | [_, _], _ => rfl
theorem b_Roll_eq (T : Txt K mg) : Binds K T.fd_Roll_eq ["self", "other"] [] := T.F_Roll_eq.bindsN fun _ _ _ _ _ _ us hl => match us, hl with | [_, _], _ => rfl
theorem b_Counter_init (T : Txt K mg) : Binds K T.fd_Counter_init ["self", "rolls"] [] := T.F_Counter_init.bindsN fun _ _ _ _ _ _ us hl => match us, hl with | [_, _], _ => rfl
theorem b_Counter_rolls (T : Txt K mg) : Binds K T.fd_Counter_rolls ["self"] [] := T.F_Counter_rolls.bindsN fun _ _ _ _ _ _ us hl => match us, hl with | [_], _ => rfl
theorem b_Counter_len (T : Txt K mg) : Binds K T.fd_Counter_len ["self"] [] := T.F_Counter_len.bindsN fun _ _ _ _ _ _ us hl => match us, hl with | [_], _ => rfl
theorem b_Counter_eq (T : Txt K mg) : Binds K T.fd_Counter_eq ["self", "other"] [] := T.F_Counter_eq.bindsN fun _ _ _ _ _ _ us hl => match us, hl with | [_, _], _ => rfl
theorem b_tokens_of (T : Txt K mg) : Binds K T.fd_tokens_of ["text"] [] := T.F_tokens_of.bindsN fun _ _ _ _ _ _ us hl => match us, hl with | [_], _ => rfl
theorem b_is_number (T : Txt K mg) : Binds K T.fd_is_number ["token"] [] := T.F_is_number.bindsN fun _ _ _ _ _ _ us hl => match us, hl with | [_], _ => rfl
theorem b_read_counter (T : Txt K mg) : Binds K T.fd_read_counter ["text"] [] := T.F_read_counter.bindsN fun _ _ _ _ _ _ us hl => match us, hl with | [_], _ => rfl
theorem b_l_cell (T : Txt K mg) : Binds K T.fd_l_cell ["_law_script", "_law_index"] [] := T.F_l_cell.bindsN fun _ _ _ _ _ _ us hl => match us, hl with | [_, _], _ => rfl
theorem b_l_hash (T : Txt K mg) : Binds K T.fd_l_hash ["_law_seed", "_law_index"] [] := T.F_l_hash.bindsN fun _ _ _ _ _ _ us hl => match us, hl with | [_, _], _ => rfl
theorem b_l_generator (T : Txt K mg) : Binds K T.fd_l_generator ["_law_script", "_law_index"] [] := T.F_l_generator.bindsN fun _ _ _ _ _ _ us hl => match us, hl with | [_, _], _ => rfl
theorem b_l_random (T : Txt K mg) : Binds K T.fd_l_random ["_law_generator_here", "_law_bound"] [] := T.F_l_random.bindsN fun _ _ _ _ _ _ us hl => match us, hl with | [_, _], _ => rfl
theorem b_l_rows (T : Txt K mg) : Binds K T.fd_l_rows ["_law_generator_here", "_law_most"] [] := T.F_l_rows.bindsN fun _ _ _ _ _ _ us hl => match us, hl with | [_, _], _ => rfl
theorem b_l_counter (T : Txt K mg) : Binds K T.fd_l_counter ["_law_rows_here"] [] := T.F_l_counter.bindsN fun _ _ _ _ _ _ us hl => match us, hl with | [_], _ => rfl
theorem b_l_due (T : Txt K mg) : Binds K T.fd_l_due ["_law_text"] [] := T.F_l_due.bindsN fun _ _ _ _ _ _ us hl => match us, hl with | [_], _ => rfl
theorem b_l_right (T : Txt K mg) : Binds K T.fd_l_right ["_law_text"] [] := T.F_l_right.bindsN fun _ _ _ _ _ _ us hl => match us, hl with | [_], _ => rfl
theorem b_l_bent (T : Txt K mg) : Binds K T.fd_l_bent ["_law_generator_here", "_law_text"] [] := T.F_l_bent.bindsN fun _ _ _ _ _ _ us hl => match us, hl with | [_, _], _ => rfl
theorem b_law (T : Txt K mg) : Binds K T.fd_law ["_law_script"] [] := T.F_law.bindsN fun _ _ _ _ _ _ us hl => match us, hl with | [_], _ => rfl
end
end RC
namespace RC
open PySem PySem.Spec PyProof.Rows L2 He
def d_is_whole : He.DefD := ⟨("is_whole", none), "is_whole", "is_whole", defArgs s_is_whole, defBody s_is_whole, defScope s_is_whole, [], []⟩
def d_check_number : He.DefD := ⟨("check_number", none), "check_number", "check_number", defArgs s_check_number, defBody s_check_number, defScope s_check_number, [], []⟩
def d_Roll_init : He.DefD := ⟨("Roll", some "__init__"), "__init__", "Roll.__init__", defArgs s_Roll_init, defBody s_Roll_init, defScope s_Roll_init, [], []⟩
def d_Roll_worths : He.DefD := ⟨("Roll", some "worths"), "worths", "Roll.worths", defArgs s_Roll_worths, defBody s_Roll_worths, defScope s_Roll_worths, [], []⟩
def d_Roll_len : He.DefD := ⟨("Roll", some "__len__"), "__len__", "Roll.__len__", defArgs s_Roll_len, defBody s_Roll_len, defScope s_Roll_len, [], []⟩
def d_Roll_worth : He.DefD := ⟨("Roll", some "worth"), "worth", "Roll.worth", defArgs s_Roll_worth, defBody s_Roll_worth, defScope s_Roll_worth, [], []⟩
def d_Roll_eq : He.DefD := ⟨("Roll", some "__eq__"), "__eq__", "Roll.__eq__", defArgs s_Roll_eq, defBody s_Roll_eq, defScope s_Roll_eq, [], []⟩
def d_Counter_init : He.DefD := ⟨("Counter", some "__init__"), "__init__", "Counter.__init__", defArgs s_Counter_init, defBody s_Counter_init, defScope s_Counter_init, [], []⟩
def d_Counter_rolls : He.DefD := ⟨("Counter", some "rolls"), "rolls", "Counter.rolls", defArgs s_Counter_rolls, defBody s_Counter_rolls, defScope s_Counter_rolls, [], []⟩
def d_Counter_len : He.DefD := ⟨("Counter", some "__len__"), "__len__", "Counter.__len__", defArgs s_Counter_len, defBody s_Counter_len, defScope s_Counter_len, [], []⟩
def d_Counter_eq : He.DefD := ⟨("Counter", some "__eq__"), "__eq__", "Counter.__eq__", defArgs s_Counter_eq, defBody s_Counter_eq, defScope s_Counter_eq, [], []⟩
def d_tokens_of : He.DefD := ⟨("tokens_of", none), "tokens_of", "tokens_of", defArgs s_tokens_of, defBody s_tokens_of, defScope s_tokens_of, [], []⟩
def d_is_number : He.DefD := ⟨("is_number", none), "is_number", "is_number", defArgs s_is_number, defBody s_is_number, defScope s_is_number, [], []⟩
def d_read_counter : He.DefD := ⟨("read_counter", none), "read_counter", "read_counter", defArgs s_read_counter, defBody s_read_counter, defScope s_read_counter, [], []⟩
def d_l_cell : He.DefD := ⟨("_law_cell", none), "_law_cell", "_law_cell", defArgs s_l_cell, defBody s_l_cell, defScope s_l_cell, [], []⟩
def d_l_hash : He.DefD := ⟨("_law_hash", none), "_law_hash", "_law_hash", defArgs s_l_hash, defBody s_l_hash, defScope s_l_hash, [], []⟩
def d_l_generator : He.DefD := ⟨("_law_generator", none), "_law_generator", "_law_generator", defArgs s_l_generator, defBody s_l_generator, defScope s_l_generator, [], []⟩
def d_l_random : He.DefD := ⟨("_law_random", none), "_law_random", "_law_random", defArgs s_l_random, defBody s_l_random, defScope s_l_random, [], []⟩
def d_l_rows : He.DefD := ⟨("_law_rows", none), "_law_rows", "_law_rows", defArgs s_l_rows, defBody s_l_rows, defScope s_l_rows, [], []⟩
def d_l_counter : He.DefD := ⟨("_law_counter", none), "_law_counter", "_law_counter", defArgs s_l_counter, defBody s_l_counter, defScope s_l_counter, [], []⟩
def d_l_due : He.DefD := ⟨("_law_due", none), "_law_due", "_law_due", defArgs s_l_due, defBody s_l_due, defScope s_l_due, [], []⟩
def d_l_right : He.DefD := ⟨("_law_right", none), "_law_right", "_law_right", defArgs s_l_right, defBody s_l_right, defScope s_l_right, [], []⟩
def d_l_bent : He.DefD := ⟨("_law_bent", none), "_law_bent", "_law_bent", defArgs s_l_bent, defBody s_l_bent, defScope s_l_bent, [], []⟩
def d_law : He.DefD := ⟨("law", none), "law", "law", defArgs s_law, defBody s_law, defScope s_law, [], []⟩
def fn0 : List He.DefD := [d_is_whole, d_check_number, d_Roll_init, d_Roll_worths, d_Roll_len, d_Roll_worth, d_Roll_eq, d_Counter_init, d_Counter_rolls, d_Counter_len, d_Counter_eq, d_tokens_of, d_is_number, d_read_counter, d_l_cell, d_l_hash, d_l_generator, d_l_random, d_l_rows, d_l_counter, d_l_due, d_l_right, d_l_bent, d_law]
def fn : List He.DefD := fn0
def fa0 : List He.Fa := [.glo "is_whole", .glo "check_number", .glo "tokens_of", .glo "is_number", .glo "read_counter", .glo "_law_cell", .glo "_law_hash", .glo "_law_generator", .glo "_law_random", .glo "_law_rows", .glo "_law_counter", .glo "_law_due", .glo "_law_right", .glo "_law_bent", .glo "law", .glo "ClerkError", .glo "InvalidNumber", .glo "InvalidList", .glo "InvalidWorth", .glo "InvalidRoll", .glo "InvalidText", .glo "Roll", .glo "Counter", .int "MOST_ROLLS" 3, .str "BLANKS" " 
", .str "DIGITS" "0123456789", .int "MOST_DIGITS" 30, .free "bool", .free "int", .free "isinstance"]
def fa1 : List He.Fa := [.free "len", .free "list", .free "max", .free "range", .free "repr", .free "str", .free "sum", .free "tuple", .cls "Roll", .mkr "Roll", .meth "Roll" "__init__", .meth "Roll" "worths", .meth "Roll" "__len__", .meth "Roll" "worth", .meth "Roll" "__eq__", .noat "Roll" "row", .noat "Roll" "firsts", .cls "Counter", .mkr "Counter", .meth "Counter" "__init__", .meth "Counter" "rolls", .meth "Counter" "__len__", .meth "Counter" "__eq__", .noat "Counter" "held", .noat "Counter" "found", .exm "InvalidText" "ClerkError" true, .free "super"]
def fa : List He.Fa := fa0 ++ (fa1)
def cs0 : List Str := ["Roll", "Counter", "InvalidText"]
def cs : List Str := cs0
def ks0 : List Kq := [⟨.ty "int", .own "Roll", false⟩, ⟨.own "Roll", .ty "int", false⟩, ⟨.ty "bool", .own "Roll", false⟩, ⟨.own "Roll", .ty "bool", false⟩, ⟨.ty "str", .own "Roll", false⟩, ⟨.own "Roll", .ty "str", false⟩, ⟨.ty "NoneType", .own "Roll", false⟩, ⟨.ty "list", .own "Roll", false⟩, ⟨.own "Roll", .ty "list", false⟩, ⟨.ty "tuple", .own "Roll", false⟩, ⟨.own "Roll", .ty "tuple", false⟩, ⟨.ty "dict", .own "Roll", false⟩, ⟨.own "Roll", .ty "dict", false⟩, ⟨.own "Roll", .own "Roll", true⟩, ⟨.own "Roll", .own "Counter", false⟩, ⟨.ty "int", .own "Counter", false⟩, ⟨.own "Counter", .ty "int", false⟩, ⟨.ty "bool", .own "Counter", false⟩, ⟨.own "Counter", .ty "bool", false⟩, ⟨.ty "str", .own "Counter", false⟩, ⟨.own "Counter", .ty "str", false⟩, ⟨.ty "NoneType", .own "Counter", false⟩, ⟨.ty "list", .own "Counter", false⟩, ⟨.own "Counter", .ty "list", false⟩, ⟨.ty "tuple", .own "Counter", false⟩, ⟨.own "Counter", .ty "tuple", false⟩, ⟨.ty "dict", .own "Counter", false⟩, ⟨.own "Counter", .ty "dict", false⟩, ⟨.own "Counter", .own "Roll", false⟩, ⟨.own "Counter", .own "Counter", true⟩]
def ks1 : List Kq := [⟨.own "InvalidText", .own "InvalidText", true⟩, ⟨.ty "NoneType", .own "InvalidText", false⟩, ⟨.own "InvalidText", .own "ClerkError", true⟩]
def ks : List Kq := ks0 ++ (ks1)
def ns0 : List Nf := [⟨"Roll", .ty "int"⟩, ⟨"Roll", .ty "bool"⟩, ⟨"Roll", .ty "str"⟩, ⟨"Roll", .ty "NoneType"⟩, ⟨"Roll", .ty "list"⟩, ⟨"Roll", .ty "tuple"⟩, ⟨"Roll", .ty "dict"⟩, ⟨"Roll", .own "Roll"⟩, ⟨"Counter", .own "Roll"⟩, ⟨"Counter", .ty "int"⟩, ⟨"Counter", .ty "bool"⟩, ⟨"Counter", .ty "str"⟩, ⟨"Counter", .ty "NoneType"⟩, ⟨"Counter", .ty "list"⟩, ⟨"Counter", .ty "tuple"⟩, ⟨"Counter", .ty "dict"⟩, ⟨"Roll", .own "Counter"⟩, ⟨"Counter", .own "Counter"⟩]
def ns : List Nf := ns0
def loose0 : List Str := ["_wall", "is_whole", "check_number", "tokens_of", "is_number", "read_counter", "_law_cell", "_law_hash", "_law_generator", "_law_random", "_law_rows", "_law_counter", "_law_due", "_law_right", "_law_bent", "ClerkError", "InvalidNumber", "InvalidList", "InvalidWorth", "InvalidRoll", "InvalidText", "Roll", "Counter", "MOST_ROLLS", "BLANKS", "DIGITS", "MOST_DIGITS"]
def loose : List Str := loose0
abbrev R : PySem.W.OpenRow := PySem.W.OpenLaw.row PySem.Challenge.rw_rollclerk_k61_texts_of_no_counter
def es : List ErrD := [e_InvalidTextD]
abbrev hk : PySem.W.Hook := RC.hookE 6 fa fn cs ks ns es PR.main.file
def ob (s : PySem.W.SharedT) : RC.AlE := RC.obsEG 6 fa fn cs ks ns es PR.main.file (HandSHeadRun.getT s)
theorem ob_eq (s : PySem.W.SharedT) : ob s = hk.obs s.abs := RC.obsEG_eq (HandSHeadRun.getT_eq s)
theorem run (w : World) : HandSHeadRun.RunEq R (PySem.W.view R.prog [33]) hk ob 8000 loose w := by
  intro os
  kernel_rfl
theorem txt_of {K : PySem.W.Frag} {h : Heap} {mg : Str → Option Value} (X : K.In h) (G : h.Ns mainGlobals mg) (c : RC.SaysE fa fn cs ks ns es PR.main.file K) : Nonempty (Txt K mg) := by
  obtain ⟨fd_is_whole, F_is_whole⟩ := c.r.d.def_ 0 (d := d_is_whole) rfl
  obtain ⟨fd_check_number, F_check_number⟩ := c.r.d.def_ 1 (d := d_check_number) rfl
  obtain ⟨fd_Roll_init, F_Roll_init⟩ := c.r.d.def_ 2 (d := d_Roll_init) rfl
  obtain ⟨fd_Roll_worths, F_Roll_worths⟩ := c.r.d.def_ 3 (d := d_Roll_worths) rfl
  obtain ⟨fd_Roll_len, F_Roll_len⟩ := c.r.d.def_ 4 (d := d_Roll_len) rfl
  obtain ⟨fd_Roll_worth, F_Roll_worth⟩ := c.r.d.def_ 5 (d := d_Roll_worth) rfl
  obtain ⟨fd_Roll_eq, F_Roll_eq⟩ := c.r.d.def_ 6 (d := d_Roll_eq) rfl
  obtain ⟨fd_Counter_init, F_Counter_init⟩ := c.r.d.def_ 7 (d := d_Counter_init) rfl
  obtain ⟨fd_Counter_rolls, F_Counter_rolls⟩ := c.r.d.def_ 8 (d := d_Counter_rolls) rfl
  obtain ⟨fd_Counter_len, F_Counter_len⟩ := c.r.d.def_ 9 (d := d_Counter_len) rfl
  obtain ⟨fd_Counter_eq, F_Counter_eq⟩ := c.r.d.def_ 10 (d := d_Counter_eq) rfl
  obtain ⟨fd_tokens_of, F_tokens_of⟩ := c.r.d.def_ 11 (d := d_tokens_of) rfl
  obtain ⟨fd_is_number, F_is_number⟩ := c.r.d.def_ 12 (d := d_is_number) rfl
  obtain ⟨fd_read_counter, F_read_counter⟩ := c.r.d.def_ 13 (d := d_read_counter) rfl
  obtain ⟨fd_l_cell, F_l_cell⟩ := c.r.d.def_ 14 (d := d_l_cell) rfl
  obtain ⟨fd_l_hash, F_l_hash⟩ := c.r.d.def_ 15 (d := d_l_hash) rfl
  obtain ⟨fd_l_generator, F_l_generator⟩ := c.r.d.def_ 16 (d := d_l_generator) rfl
  obtain ⟨fd_l_random, F_l_random⟩ := c.r.d.def_ 17 (d := d_l_random) rfl
  obtain ⟨fd_l_rows, F_l_rows⟩ := c.r.d.def_ 18 (d := d_l_rows) rfl
  obtain ⟨fd_l_counter, F_l_counter⟩ := c.r.d.def_ 19 (d := d_l_counter) rfl
  obtain ⟨fd_l_due, F_l_due⟩ := c.r.d.def_ 20 (d := d_l_due) rfl
  obtain ⟨fd_l_right, F_l_right⟩ := c.r.d.def_ 21 (d := d_l_right) rfl
  obtain ⟨fd_l_bent, F_l_bent⟩ := c.r.d.def_ 22 (d := d_l_bent) rfl
  obtain ⟨fd_law, F_law⟩ := c.r.d.def_ 23 (d := d_law) rfl
  exact ⟨{
    g_is_whole := He.glo_ok X G (c.r.d.fact 0 (f := .glo "is_whole") rfl),
    g_check_number := He.glo_ok X G (c.r.d.fact 1 (f := .glo "check_number") rfl),
    g_tokens_of := He.glo_ok X G (c.r.d.fact 2 (f := .glo "tokens_of") rfl),
    g_is_number := He.glo_ok X G (c.r.d.fact 3 (f := .glo "is_number") rfl),
    g_read_counter := He.glo_ok X G (c.r.d.fact 4 (f := .glo "read_counter") rfl),
    g_l_cell := He.glo_ok X G (c.r.d.fact 5 (f := .glo "_law_cell") rfl),
    g_l_hash := He.glo_ok X G (c.r.d.fact 6 (f := .glo "_law_hash") rfl),
    g_l_generator := He.glo_ok X G (c.r.d.fact 7 (f := .glo "_law_generator") rfl),
    g_l_random := He.glo_ok X G (c.r.d.fact 8 (f := .glo "_law_random") rfl),
    g_l_rows := He.glo_ok X G (c.r.d.fact 9 (f := .glo "_law_rows") rfl),
    g_l_counter := He.glo_ok X G (c.r.d.fact 10 (f := .glo "_law_counter") rfl),
    g_l_due := He.glo_ok X G (c.r.d.fact 11 (f := .glo "_law_due") rfl),
    g_l_right := He.glo_ok X G (c.r.d.fact 12 (f := .glo "_law_right") rfl),
    g_l_bent := He.glo_ok X G (c.r.d.fact 13 (f := .glo "_law_bent") rfl),
    g_law := He.glo_ok X G (c.r.d.fact 14 (f := .glo "law") rfl),
    g_ClerkError := He.glo_ok X G (c.r.d.fact 15 (f := .glo "ClerkError") rfl),
    g_InvalidNumber := He.glo_ok X G (c.r.d.fact 16 (f := .glo "InvalidNumber") rfl),
    g_InvalidList := He.glo_ok X G (c.r.d.fact 17 (f := .glo "InvalidList") rfl),
    g_InvalidWorth := He.glo_ok X G (c.r.d.fact 18 (f := .glo "InvalidWorth") rfl),
    g_InvalidRoll := He.glo_ok X G (c.r.d.fact 19 (f := .glo "InvalidRoll") rfl),
    g_InvalidText := He.glo_ok X G (c.r.d.fact 20 (f := .glo "InvalidText") rfl),
    g_Roll := He.glo_ok X G (c.r.d.fact 21 (f := .glo "Roll") rfl),
    g_Counter := He.glo_ok X G (c.r.d.fact 22 (f := .glo "Counter") rfl),
    c_MOST_ROLLS := He.int_ok X G (c.r.d.fact 23 (f := .int "MOST_ROLLS" 3) rfl),
    c_BLANKS := He.str_ok X G (c.r.d.fact 24 (f := .str "BLANKS" " 
") rfl),
    c_DIGITS := He.str_ok X G (c.r.d.fact 25 (f := .str "DIGITS" "0123456789") rfl),
    c_MOST_DIGITS := He.int_ok X G (c.r.d.fact 26 (f := .int "MOST_DIGITS" 30) rfl),
    fr_bool := He.free_ok X G (c.r.d.fact 27 (f := .free "bool") rfl),
    fr_int := He.free_ok X G (c.r.d.fact 28 (f := .free "int") rfl),
    fr_isinstance := He.free_ok X G (c.r.d.fact 29 (f := .free "isinstance") rfl),
    fr_len := He.free_ok X G (c.r.d.fact 30 (f := .free "len") rfl),
    fr_list := He.free_ok X G (c.r.d.fact 31 (f := .free "list") rfl),
    fr_max := He.free_ok X G (c.r.d.fact 32 (f := .free "max") rfl),
    fr_range := He.free_ok X G (c.r.d.fact 33 (f := .free "range") rfl),
    fr_repr := He.free_ok X G (c.r.d.fact 34 (f := .free "repr") rfl),
    fr_str := He.free_ok X G (c.r.d.fact 35 (f := .free "str") rfl),
    fr_sum := He.free_ok X G (c.r.d.fact 36 (f := .free "sum") rfl),
    fr_tuple := He.free_ok X G (c.r.d.fact 37 (f := .free "tuple") rfl),
    cl_Roll := He.cls_ok (c.r.d.fact 38 (f := .cls "Roll") rfl),
    mk_Roll := He.mkr_ok (c.r.d.fact 39 (f := .mkr "Roll") rfl),
    m_Roll_init := He.meth_ok (c.r.d.fact 40 (f := .meth "Roll" "__init__") rfl),
    m_Roll_worths := He.meth_ok (c.r.d.fact 41 (f := .meth "Roll" "worths") rfl),
    m_Roll_len := He.meth_ok (c.r.d.fact 42 (f := .meth "Roll" "__len__") rfl),
    m_Roll_worth := He.meth_ok (c.r.d.fact 43 (f := .meth "Roll" "worth") rfl),
    m_Roll_eq := He.meth_ok (c.r.d.fact 44 (f := .meth "Roll" "__eq__") rfl),
    na_Roll_row := He.noat_ok (c.r.d.fact 45 (f := .noat "Roll" "row") rfl),
    na_Roll_firsts := He.noat_ok (c.r.d.fact 46 (f := .noat "Roll" "firsts") rfl),
    cl_Counter := He.cls_ok (c.r.d.fact 47 (f := .cls "Counter") rfl),
    mk_Counter := He.mkr_ok (c.r.d.fact 48 (f := .mkr "Counter") rfl),
    m_Counter_init := He.meth_ok (c.r.d.fact 49 (f := .meth "Counter" "__init__") rfl),
    m_Counter_rolls := He.meth_ok (c.r.d.fact 50 (f := .meth "Counter" "rolls") rfl),
    m_Counter_len := He.meth_ok (c.r.d.fact 51 (f := .meth "Counter" "__len__") rfl),
    m_Counter_eq := He.meth_ok (c.r.d.fact 52 (f := .meth "Counter" "__eq__") rfl),
    na_Counter_held := He.noat_ok (c.r.d.fact 53 (f := .noat "Counter" "held") rfl),
    na_Counter_found := He.noat_ok (c.r.d.fact 54 (f := .noat "Counter" "found") rfl),
    xm_InvalidText := He.exm_ok (c.r.d.fact 55 (f := .exm "InvalidText" "ClerkError" true) rfl),
    fr_super := He.free_ok X G (c.r.d.fact 56 (f := .free "super") rfl),
    x_Roll := c.r.cls 0 (x := "Roll") rfl,
    k_int_Roll := c.r.kit 0 (q := ⟨.ty "int", .own "Roll", false⟩) rfl,
    n_Roll_int := c.r.nf 0 (q := ⟨"Roll", .ty "int"⟩) rfl,
    k_Roll_int := c.r.kit 1 (q := ⟨.own "Roll", .ty "int", false⟩) rfl,
    k_bool_Roll := c.r.kit 2 (q := ⟨.ty "bool", .own "Roll", false⟩) rfl,
    n_Roll_bool := c.r.nf 1 (q := ⟨"Roll", .ty "bool"⟩) rfl,
    k_Roll_bool := c.r.kit 3 (q := ⟨.own "Roll", .ty "bool", false⟩) rfl,
    k_str_Roll := c.r.kit 4 (q := ⟨.ty "str", .own "Roll", false⟩) rfl,
    n_Roll_str := c.r.nf 2 (q := ⟨"Roll", .ty "str"⟩) rfl,
    k_Roll_str := c.r.kit 5 (q := ⟨.own "Roll", .ty "str", false⟩) rfl,
    k_NoneType_Roll := c.r.kit 6 (q := ⟨.ty "NoneType", .own "Roll", false⟩) rfl,
    n_Roll_NoneType := c.r.nf 3 (q := ⟨"Roll", .ty "NoneType"⟩) rfl,
    k_list_Roll := c.r.kit 7 (q := ⟨.ty "list", .own "Roll", false⟩) rfl,
    n_Roll_list := c.r.nf 4 (q := ⟨"Roll", .ty "list"⟩) rfl,
    k_Roll_list := c.r.kit 8 (q := ⟨.own "Roll", .ty "list", false⟩) rfl,
    k_tuple_Roll := c.r.kit 9 (q := ⟨.ty "tuple", .own "Roll", false⟩) rfl,
    n_Roll_tuple := c.r.nf 5 (q := ⟨"Roll", .ty "tuple"⟩) rfl,
    k_Roll_tuple := c.r.kit 10 (q := ⟨.own "Roll", .ty "tuple", false⟩) rfl,
    k_dict_Roll := c.r.kit 11 (q := ⟨.ty "dict", .own "Roll", false⟩) rfl,
    n_Roll_dict := c.r.nf 6 (q := ⟨"Roll", .ty "dict"⟩) rfl,
    k_Roll_dict := c.r.kit 12 (q := ⟨.own "Roll", .ty "dict", false⟩) rfl,
    k_Roll_Roll := c.r.kit 13 (q := ⟨.own "Roll", .own "Roll", true⟩) rfl,
    n_Roll_Roll := c.r.nf 7 (q := ⟨"Roll", .own "Roll"⟩) rfl,
    k_Roll_Counter := c.r.kit 14 (q := ⟨.own "Roll", .own "Counter", false⟩) rfl,
    n_Counter_Roll := c.r.nf 8 (q := ⟨"Counter", .own "Roll"⟩) rfl,
    x_Counter := c.r.cls 1 (x := "Counter") rfl,
    k_int_Counter := c.r.kit 15 (q := ⟨.ty "int", .own "Counter", false⟩) rfl,
    n_Counter_int := c.r.nf 9 (q := ⟨"Counter", .ty "int"⟩) rfl,
    k_Counter_int := c.r.kit 16 (q := ⟨.own "Counter", .ty "int", false⟩) rfl,
    k_bool_Counter := c.r.kit 17 (q := ⟨.ty "bool", .own "Counter", false⟩) rfl,
    n_Counter_bool := c.r.nf 10 (q := ⟨"Counter", .ty "bool"⟩) rfl,
    k_Counter_bool := c.r.kit 18 (q := ⟨.own "Counter", .ty "bool", false⟩) rfl,
    k_str_Counter := c.r.kit 19 (q := ⟨.ty "str", .own "Counter", false⟩) rfl,
    n_Counter_str := c.r.nf 11 (q := ⟨"Counter", .ty "str"⟩) rfl,
    k_Counter_str := c.r.kit 20 (q := ⟨.own "Counter", .ty "str", false⟩) rfl,
    k_NoneType_Counter := c.r.kit 21 (q := ⟨.ty "NoneType", .own "Counter", false⟩) rfl,
    n_Counter_NoneType := c.r.nf 12 (q := ⟨"Counter", .ty "NoneType"⟩) rfl,
    k_list_Counter := c.r.kit 22 (q := ⟨.ty "list", .own "Counter", false⟩) rfl,
    n_Counter_list := c.r.nf 13 (q := ⟨"Counter", .ty "list"⟩) rfl,
    k_Counter_list := c.r.kit 23 (q := ⟨.own "Counter", .ty "list", false⟩) rfl,
    k_tuple_Counter := c.r.kit 24 (q := ⟨.ty "tuple", .own "Counter", false⟩) rfl,
    n_Counter_tuple := c.r.nf 14 (q := ⟨"Counter", .ty "tuple"⟩) rfl,
    k_Counter_tuple := c.r.kit 25 (q := ⟨.own "Counter", .ty "tuple", false⟩) rfl,
    k_dict_Counter := c.r.kit 26 (q := ⟨.ty "dict", .own "Counter", false⟩) rfl,
    n_Counter_dict := c.r.nf 15 (q := ⟨"Counter", .ty "dict"⟩) rfl,
    k_Counter_dict := c.r.kit 27 (q := ⟨.own "Counter", .ty "dict", false⟩) rfl,
    k_Counter_Roll := c.r.kit 28 (q := ⟨.own "Counter", .own "Roll", false⟩) rfl,
    n_Roll_Counter := c.r.nf 16 (q := ⟨"Roll", .own "Counter"⟩) rfl,
    k_Counter_Counter := c.r.kit 29 (q := ⟨.own "Counter", .own "Counter", true⟩) rfl,
    n_Counter_Counter := c.r.nf 17 (q := ⟨"Counter", .own "Counter"⟩) rfl,
    x_InvalidText := c.r.cls 2 (x := "InvalidText") rfl,
    k_InvalidText_InvalidText := c.r.kit 30 (q := ⟨.own "InvalidText", .own "InvalidText", true⟩) rfl,
    k_NoneType_InvalidText := c.r.kit 31 (q := ⟨.ty "NoneType", .own "InvalidText", false⟩) rfl,
    k_InvalidText_ClerkError := c.r.kit 32 (q := ⟨.own "InvalidText", .own "ClerkError", true⟩) rfl,
    e_InvalidText := err_of (e := e_InvalidTextD) (file := PR.main.file) (He.free_ok X G (c.r.d.fact 56 (f := .free "super") rfl)) (by decide +kernel) rfl ⟨_, _, _, rfl⟩ ⟨_, _, _, _, _, _, _, _, _, _, rfl, rfl⟩ rfl (c.err 0 (e := e_InvalidTextD) rfl).1 (c.err 0 (e := e_InvalidTextD) rfl).2,
    es_InvalidText := sub_self (c.err 0 (e := e_InvalidTextD) rfl).2,
    fd_is_whole := fd_is_whole,
    F_is_whole := F_is_whole,
    fd_check_number := fd_check_number,
    F_check_number := F_check_number,
    fd_Roll_init := fd_Roll_init,
    F_Roll_init := F_Roll_init,
    fd_Roll_worths := fd_Roll_worths,
    F_Roll_worths := F_Roll_worths,
    fd_Roll_len := fd_Roll_len,
    F_Roll_len := F_Roll_len,
    fd_Roll_worth := fd_Roll_worth,
    F_Roll_worth := F_Roll_worth,
    fd_Roll_eq := fd_Roll_eq,
    F_Roll_eq := F_Roll_eq,
    fd_Counter_init := fd_Counter_init,
    F_Counter_init := F_Counter_init,
    fd_Counter_rolls := fd_Counter_rolls,
    F_Counter_rolls := F_Counter_rolls,
    fd_Counter_len := fd_Counter_len,
    F_Counter_len := F_Counter_len,
    fd_Counter_eq := fd_Counter_eq,
    F_Counter_eq := F_Counter_eq,
    fd_tokens_of := fd_tokens_of,
    F_tokens_of := F_tokens_of,
    fd_is_number := fd_is_number,
    F_is_number := F_is_number,
    fd_read_counter := fd_read_counter,
    F_read_counter := F_read_counter,
    fd_l_cell := fd_l_cell,
    F_l_cell := F_l_cell,
    fd_l_hash := fd_l_hash,
    F_l_hash := F_l_hash,
    fd_l_generator := fd_l_generator,
    F_l_generator := F_l_generator,
    fd_l_random := fd_l_random,
    F_l_random := F_l_random,
    fd_l_rows := fd_l_rows,
    F_l_rows := F_l_rows,
    fd_l_counter := fd_l_counter,
    F_l_counter := F_l_counter,
    fd_l_due := fd_l_due,
    F_l_due := F_l_due,
    fd_l_right := fd_l_right,
    F_l_right := F_l_right,
    fd_l_bent := fd_l_bent,
    F_l_bent := F_l_bent,
    fd_law := fd_law,
    F_law := F_law }⟩
end RC
/-! ## Lifting: readings told by plain data -/
namespace Lf
open PySem PySem.Spec PyProof.Rows L2
open PySem.W (Frag)

/-! ### plain results -/
/-- a raised error: its class, what it was made with -/
inductive PV where
  | non | bl (b : Bool) | int (i : Int) | str (s : Str) | lst (xs : List PV) | tup (xs : List PV)
  /-- {}; a roll: its row, its first sums -/
  | edict | roll (row firsts : List Int)
/-- any value; the very value, if that is known -/
structure VP where
  x : PV
  g : Option V
instance : Coe PV VP := ⟨fun x => ⟨x, none⟩⟩
structure Exn where
  cls : Str
  val : VP
inductive Res (α : Type) where
  | ok (a : α) | err (e : Exn) | bad
/-- an undefined or too great step is bad -/
def Res.req {α β : Type} (o : Option α) (k : α → Res β) : Res β := match o with
  | some a => k a
  | none => .bad
def Res.bind {α β : Type} (m : Res α) (k : α → Res β) : Res β := match m with
  | .ok a => k a
  | .err e => .err e
  | .bad => .bad
def Res.val {α : Type} (m : Res α) : Option α := match m with
  | .ok a => some a
  | _ => none
/-- where a block leads: on, or out of the def -/
inductive Ctl (S R : Type) where
  | nx (s : S) | rt (r : R)
/-- a loop over these, one that is never left -/
def Res.fold {α S : Type} (f : S → α → Res S) : List α → S → Res S
  | [], s => .ok s
  | x :: xs, s => Res.bind (f s x) (Res.fold f xs)
/-- a loop that may be left by a return -/
def Res.loop {α S R : Type} (f : S → α → Res (Ctl S R)) : List α → S → Res (Ctl S R)
  | [], s => .ok (.nx s)
  | x :: xs, s => Res.bind (f s x) fun c => match c with
    | .nx s' => Res.loop f xs s'
    | .rt r => .ok (.rt r)
/-- a while: at most n turns; f tells none at the end -/
def Res.turns {S R : Type} (f : S → Res (Option (Ctl S R))) : Nat → S → Res (Ctl S R)
  | 0, _ => .bad
  | n + 1, s => Res.bind (f s) fun c => match c with
    | none => .ok (.nx s)
    | some (.nx s') => Res.turns f n s'
    | some (.rt r) => .ok (.rt r)
/-- behind a block that may have returned -/
def Res.after {S R X : Type} (m : Res (Ctl S R)) (k : S → Res X) (kr : R → Res X) : Res X := Res.bind m fun c => match c with
  | .nx s => k s
  | .rt r => kr r
/-- a comprehension's turns -/
def mapO {α β : Type} (f : α → Option (Option β)) : List α → Option (List β)
  | [] => some []
  | x :: xs => match f x with
    | none => none
    | some none => mapO f xs
    | some (some y) => match mapO f xs with
      | none => none
      | some ys => some (y :: ys)

/-- the same with a state -/
def mapS {α β S : Type} (f : S → α → Option (S × Option β)) : List α → S → Option (S × List β)
  | [], s => some (s, [])
  | x :: xs, s => match f s x with
    | none => none
    | some (s', none) => mapS f xs s'
    | some (s', some y) => match mapS f xs s' with
      | none => none
      | some (s'', ys) => some (s'', y :: ys)

/-! ### memos: a dict that is filled on the way -/
structure Tu (α : Type) where
  l : List α
structure Dic (κ α : Type) where
  l : List (κ × α)
/-- what a memo will hold once it is filled -/
structure Mm where
  D : Dic Int (Int × Tu Int)
  f : Int
def memoL (m : Mm) (b : Bool) : List (List Key × V) := ([.inl m.f], .bl b) :: m.D.l.map fun e => (.inl e.1 :: .inl e.2.1 :: e.2.2.l.map .inl, .non)
/-- the place of a memo, as it is known: b says that it is filled -/
def memo (m : Mm) (b : Bool) : HO := .dT (memoL m b)
theorem inl_inj : ∀ {a b : List Int}, (a.map Sum.inl : List Key) = b.map Sum.inl → a = b
  | [], [], _ => rfl
  | x :: a, y :: b, h => by
    rw [List.map_cons, List.map_cons] at h
    injection h with h1 h2
    rw [Sum.inl.inj h1, inl_inj h2]
theorem memoL_inj {m m' : Mm} {b b' : Bool} (h : memoL m b = memoL m' b') : m = m' ∧ b = b' := by
  unfold memoL at h
  injection h with h1 h2
  injection h1 with h1 h3
  injection h1 with h1
  injection h3 with h3
  have e : m.f = m'.f := Sum.inl.inj h1
  have l : ∀ (x y : List (Int × (Int × Tu Int))), (x.map fun e => ((.inl e.1 :: .inl e.2.1 :: e.2.2.l.map .inl, .non) : List Key × V)) = y.map (fun e => (.inl e.1 :: .inl e.2.1 :: e.2.2.l.map .inl, .non)) → x = y := fun x => by
    induction x with
    | nil =>
      intro y h
      cases y with
      | nil => rfl
      | cons y ys => cases h
    | cons x xs ih =>
      intro y h
      cases y with
      | nil => cases h
      | cons y ys =>
        rw [List.map_cons, List.map_cons] at h
        injection h with h1 h2
        injection h1 with h1 _
        injection h1 with h1 h4
        injection h4 with h4 h5
        obtain ⟨a, b, c⟩ := x
        obtain ⟨a', b', c'⟩ := y
        cases c
        cases c'
        have e1 : a = a' := Sum.inl.inj h1
        have e2 : b = b' := Sum.inl.inj h4
        have e3 := inl_inj h5
        have e4 := ih ys h2
        dsimp only at e3
        rw [e1, e2, e3, e4]
  obtain ⟨⟨x⟩, f⟩ := m
  obtain ⟨⟨y⟩, f'⟩ := m'
  have e2 := l x y h2
  dsimp only at e
  rw [e, e2]
  exact ⟨rfl, h3⟩
theorem memo_inj {m m' : Mm} {b b' : Bool} (h : memo m b = memo m' b') : m = m' ∧ b = b' := memoL_inj (HO.dT.inj h)
/-- what is told another way than it stands: memos; dicts whose keys are tuples, told as locked -/
def StH : HO → Prop
  | .dT _ => True
  | .frz _ (.dT _) => True
  | _ => False
theorem StH.frz {o : HO} (n : ¬ StH o) (od : Obj) : ¬ StH (.frz od o) := by
  cases o <;> first | exact fun z => z | exact absurd trivial n
/-- the lock of a dict with tuple keys that need not be locked -/
def z0 : Obj := { cls := .none, data := .seq #[] }
/-! ### heaps that grow; a dict may be locked on the way, a memo filled -/
def LockD : HO → Prop
  | .dK _ => True
  | _ => False
theorem LockD.st {o : HO} (h : LockD o) : ¬ StH o := by
  cases o <;> first | exact h.elim | exact fun z => z
/-- what an object may become -/
def Adv (o o' : HO) : Prop := (LockD o ∧ ∃ od, o' = .frz od o) ∨ (∃ m, o = memo m false ∧ o' = memo m true) ∨ ∃ t od, o = .frz z0 (.dT t) ∧ o' = .frz od (.dT t)
def Le (G G' : Hp) : Prop := ∀ a o, G a = some o → G' a = some o ∨ ∃ o', Adv o o' ∧ G' a = some o'
theorem Le.refl (G : Hp) : Le G G := fun _ _ e => .inl e
theorem Le.trans {G G1 G2 : Hp} (s : Le G G1) (t : Le G1 G2) : Le G G2 := fun a o e => by
  rcases s a o e with e | ⟨o', d, e⟩
  · exact t a o e
  · rcases t a _ e with e | ⟨o2, d2, e2⟩
    · exact .inr ⟨o', d, e⟩
    · rcases d with ⟨l, od, rfl⟩ | ⟨m, rfl, rfl⟩ | ⟨t', od, rfl, rfl⟩
      · rcases d2 with ⟨z, _⟩ | ⟨m, z, _⟩ | ⟨t', od', z, _⟩
        · exact z.elim
        · cases z
        · cases z
          exact l.elim
      · rcases d2 with ⟨z, _⟩ | ⟨m', z, _⟩ | ⟨t', od', z, _⟩
        · exact z.elim
        · cases (memo_inj z).2
        · cases z
      · rcases d2 with ⟨z, _⟩ | ⟨m', z, _⟩ | ⟨t2, od', z, rfl⟩
        · exact z.elim
        · cases z
        · cases z
          exact .inr ⟨_, .inr (.inr ⟨_, _, rfl, rfl⟩), e2⟩
theorem Le.at {G G' : Hp} (s : Le G G') {a : Addr} {o : HO} (e : G a = some o) (n : ¬ LockD o := by exact fun z => z) (n2 : ¬ StH o := by exact fun z => z) : G' a = some o := by
  rcases s a o e with e | ⟨o', ⟨d, _⟩ | ⟨m, rfl, _⟩ | ⟨t, od, rfl, _⟩, e⟩
  · exact e
  · exact absurd d n
  · exact absurd trivial n2
  · exact absurd trivial n2
/-- a dict with tuple keys stays one -/
theorem Le.dt {G G' : Hp} (s : Le G G') {a : Addr} {z : Obj} {t : List (List Key × V)} (e : G a = some (.frz z (.dT t))) : ∃ z', (z ≠ z0 → z' = z) ∧ G' a = some (.frz z' (.dT t)) := by
  rcases s a _ e with e | ⟨o', ⟨d, _⟩ | ⟨m, y, _⟩ | ⟨t', od, y, rfl⟩, e⟩
  · exact ⟨z, fun _ => rfl, e⟩
  · exact d.elim
  · cases y
  · cases y
    exact ⟨od, fun n => absurd rfl n, e⟩
theorem Le.rd {G G' : Hp} (s : Le G G') {a : Addr} {kvs : List (Key × V)} (e : Rd G a (.dK kvs)) : Rd G' a (.dK kvs) := by
  rcases e with e | ⟨od, e⟩
  · rcases s a _ e with e | ⟨o', ⟨_, od, rfl⟩ | ⟨m, z, _⟩ | ⟨t', od', z, _⟩, e⟩
    · exact .inl e
    · exact .inr ⟨od, e⟩
    · cases z
    · cases z
  · exact .inr ⟨od, s.at e⟩
/-- a memo stays one -/
theorem Le.memo {G G' : Hp} (s : Le G G') {a : Addr} {m : Mm} {b : Bool} (e : G a = some (memo m b)) : ∃ b', (b = true → b' = true) ∧ G' a = some (Lf.memo m b') := by
  rcases s a _ e with e2 | ⟨o', ⟨d, _⟩ | ⟨m', z, w⟩ | ⟨t', od', z, _⟩, e2⟩
  · exact ⟨b, fun h => h, e2⟩
  · exact d.elim
  rotate_left
  · cases z
  · obtain ⟨z1, _⟩ := memo_inj z
    rw [w, ← z1] at e2
    exact ⟨true, fun _ => rfl, e2⟩
theorem Le.sql {K : Frag} {G G' : Hp} (s : Le G G') {a : Addr} {xs : List V} (e : SqL K G a xs) : SqL K G' a xs := by
  rcases e with (e | ⟨o, e⟩) | e
  · exact .inl (.inl (s.at e))
  · exact .inl (.inr ⟨o, s.at e⟩)
  · exact .inr e
theorem Le.new {H : Hp} {p : Addr} {o : HO} (h : H p = none) : Le H (upd H p o) := fun b x e => .inl (by
  rw [upd_ne (ne_of_none e h)]
  exact e)
/-! ### what stands for what -/
class Rp (α : Type) where
  rep : Frag → Hp → V → α → Prop
  mono : ∀ {K : Frag} {H H' : Hp} {v : V} {x : α}, Le H H' → rep K H v x → rep K H' v x
instance : Rp Int := ⟨fun _ _ v x => v = .int x, fun _ h => h⟩
instance : Rp Bool := ⟨fun _ _ v x => v = .bl x, fun _ h => h⟩
instance : Rp Str := ⟨fun _ _ v x => v = .str x, fun _ h => h⟩
instance : Rp Unit := ⟨fun _ _ v _ => v = .non, fun _ h => h⟩
def repO {α : Type} [Rp α] (K : Frag) (H : Hp) (v : V) : Option α → Prop
  | none => v = .non
  | some x => Rp.rep K H v x ∧ v ≠ .non
instance {α : Type} [Rp α] : Rp (Option α) := ⟨repO, fun {K H H' v x} s h => match x, h with
  | none, h => h
  | some _, h => ⟨Rp.mono s h.1, h.2⟩⟩
theorem Paired.mono' {α β : Type} {F G : α → β → Prop} (f : ∀ a b, F a b → G a b) : ∀ {xs : List α} {ys : List β}, Paired F xs ys → Paired G xs ys
  | _, _, .nil => .nil
  | _, _, .cons r t => .cons (f _ _ r) (Paired.mono' f t)
abbrev All {α : Type} [Rp α] (K : Frag) (H : Hp) (vs : List V) (xs : List α) : Prop := Paired (fun v x => Rp.rep K H v x) vs xs
theorem All.mono {α : Type} [Rp α] {K : Frag} {H H' : Hp} {vs : List V} {xs : List α} (s : Le H H') (h : All K H vs xs) : All K H' vs xs := Paired.mono' (fun _ _ r => Rp.mono s r) h
def repL {α : Type} [Rp α] (K : Frag) (H : Hp) (v : V) (xs : List α) : Prop := ∃ a vs, v = .ref a ∧ H a = some (.lst vs) ∧ All K H vs xs ∧ xs.length ≤ sizeLine
instance {α : Type} [Rp α] : Rp (List α) := ⟨repL, fun s ⟨a, vs, e, q, p, l⟩ => ⟨a, vs, e, s.at q, All.mono s p, l⟩⟩
/-- the script -/
structure Sc where
  l : List Int
instance : Rp Sc := ⟨fun K H v t => ∃ a, v = .ref a ∧ SqL K H a (t.l.map V.int), fun s ⟨a, e, q⟩ => ⟨a, e, Le.sql s q⟩⟩
mutual
inductive AnyV (K : Frag) (H : Hp) : V → PV → Prop
  | non : AnyV K H .non .non
  | bl (b : Bool) : AnyV K H (.bl b) (.bl b)
  | int (i : Int) : AnyV K H (.int i) (.int i)
  | str (s : Str) : AnyV K H (.str s) (.str s)
  | lst {a : Addr} {vs : List V} {xs : List PV} (h : H a = some (.lst vs)) (p : AnyL K H vs xs) : AnyV K H (.ref a) (.lst xs)
  | tup {a : Addr} {vs : List V} {xs : List PV} (h : H a = some (.tup vs)) (p : AnyL K H vs xs) : AnyV K H (.ref a) (.tup xs)
  | edict {a : Addr} (h : Rd H a (.dK [])) : AnyV K H (.ref a) .edict
  | roll {p dx a b : Addr} {row firsts : List Int} (h : H p = some (.ins (He.ga K "Roll") dx [("row", .ref a), ("firsts", .ref b)])) (h1 : H a = some (.tup (row.map V.int))) (h2 : H b = some (.tup (firsts.map V.int))) (l1 : row.length ≤ sizeLine) (l2 : firsts.length ≤ sizeLine) : AnyV K H (.ref p) (.roll row firsts)
inductive AnyL (K : Frag) (H : Hp) : List V → List PV → Prop
  | nil : AnyL K H [] []
  | cons {v : V} {x : PV} {vs : List V} {xs : List PV} (h : AnyV K H v x) (t : AnyL K H vs xs) : AnyL K H (v :: vs) (x :: xs)
end
mutual
theorem AnyV.mono {K : Frag} {H H' : Hp} (s : Le H H') : ∀ {v : V} {x : PV}, AnyV K H v x → AnyV K H' v x
  | _, _, .non => .non
  | _, _, .bl b => .bl b
  | _, _, .int i => .int i
  | _, _, .str x => .str x
  | _, _, .lst h p => .lst (s.at h) (AnyL.mono s p)
  | _, _, .tup h p => .tup (s.at h) (AnyL.mono s p)
  | _, _, .edict h => .edict (s.rd h)
  | _, _, .roll h h1 h2 l1 l2 => .roll (s.at h) (s.at h1) (s.at h2) l1 l2
theorem AnyL.mono {K : Frag} {H H' : Hp} (s : Le H H') : ∀ {v : List V} {x : List PV}, AnyL K H v x → AnyL K H' v x
  | _, _, .nil => .nil
  | _, _, .cons h t => .cons (AnyV.mono s h) (AnyL.mono s t)
end
instance : Rp PV := ⟨fun K H v x => AnyV K H v x, fun s h => AnyV.mono s h⟩
instance : Rp VP := ⟨fun K G v x => AnyV K G v x.x ∧ ∀ u, x.g = some u → v = u, fun s h => ⟨AnyV.mono s h.1, h.2⟩⟩
/-! a tuple of any length, its items alike -/
instance {α : Type} [Rp α] : Rp (Tu α) := ⟨fun K H v t => ∃ a vs, v = .ref a ∧ H a = some (.tup vs) ∧ All K H vs t.l ∧ t.l.length ≤ sizeLine, fun s ⟨a, vs, e, q, p, l⟩ => ⟨a, vs, e, s.at q, All.mono s p, l⟩⟩
instance {α β : Type} [Rp α] [Rp β] : Rp (α × β) := ⟨fun K H v t => ∃ a x y, v = .ref a ∧ H a = some (.tup [x, y]) ∧ Rp.rep K H x t.1 ∧ Rp.rep K H y t.2, fun s ⟨a, x, y, e, q, p, r⟩ => ⟨a, x, y, e, s.at q, Rp.mono s p, Rp.mono s r⟩⟩
/-- keys of dicts -/
class Kp (κ : Type) where
  key : κ → Key
  inj : ∀ {a b : κ}, key a = key b → a = b
instance : Kp Int := ⟨Sum.inl, fun h => Sum.inl.inj h⟩
instance : Kp Str := ⟨Sum.inr, fun h => Sum.inr.inj h⟩
abbrev AllD {κ α : Type} [Kp κ] [Rp α] (K : Frag) (H : Hp) (kvs : List (Key × V)) (xs : List (κ × α)) : Prop := Paired (fun kv x => kv.1 = Kp.key x.1 ∧ Rp.rep K H kv.2 x.2) kvs xs
theorem AllD.mono {κ α : Type} [Kp κ] [Rp α] {K : Frag} {H H' : Hp} {vs : List (Key × V)} {xs : List (κ × α)} (s : Le H H') (h : AllD K H vs xs) : AllD K H' vs xs := Paired.mono' (fun _ _ r => ⟨r.1, Rp.mono s r.2⟩) h
instance {κ α : Type} [Kp κ] [Rp α] : Rp (Dic κ α) := ⟨fun K H v t => ∃ a kvs, v = .ref a ∧ Rd H a (.dK kvs) ∧ AllD K H kvs t.l ∧ t.l.length ≤ sizeLine, fun s ⟨a, vs, e, q, p, l⟩ => ⟨a, vs, e, s.rd q, AllD.mono s p, l⟩⟩

/-! ### what is known of a value, of an object -/
structure MP where
  p : Hp → V → Prop
  mono : ∀ {H H' : Hp} {v : V}, Le H H' → p H v → p H' v
def is {α : Type} [Rp α] (K : Frag) (x : α) : MP := ⟨fun H v => Rp.rep K H v x, fun s h => Rp.mono s h⟩
def adr (a : Addr) : MP := ⟨fun _ v => v = .ref a, fun _ h => h⟩
def TupH : HO → Prop
  | .tup _ => True
  | _ => False
structure OC where
  p : Hp → HO → Prop
  mono : ∀ {H H' : Hp} {o : HO}, Le H H' → p H o → p H' o
  nt : ∀ {H : Hp} {o : HO}, p H o → ¬ TupH o
/-- a list that is one's own -/
def olst {α : Type} [Rp α] (K : Frag) (xs : List α) : OC := ⟨fun G o => ∃ vs, o = .lst vs ∧ All K G vs xs ∧ xs.length ≤ sizeLine, fun s ⟨vs, e, h, l⟩ => ⟨vs, e, All.mono s h, l⟩, fun ⟨_, e, _⟩ => e ▸ fun z => z⟩
def odic {κ α : Type} [Kp κ] [Rp α] (K : Frag) (d : Dic κ α) : OC := ⟨fun G o => ∃ kvs, o = .dK kvs ∧ AllD K G kvs d.l ∧ d.l.length ≤ sizeLine, fun s ⟨vs, e, h, l⟩ => ⟨vs, e, AllD.mono s h, l⟩, fun ⟨_, e, _⟩ => e ▸ fun z => z⟩
/-- an object of one's own: its fields -/
def oins (C : Addr) (ms : List (Str × MP)) : OC := ⟨fun G o => ∃ dx fs, o = .ins C dx fs ∧ Paired (fun (f : Str × V) (m : Str × MP) => f.1 = m.1 ∧ m.2.p G f.2) fs ms, fun s ⟨dx, fs, e, h⟩ => ⟨dx, fs, e, Paired.mono' (fun _ _ r => ⟨r.1, MP.mono _ s r.2⟩) h⟩, fun ⟨_, _, e, _⟩ => e ▸ fun z => z⟩
inductive Ent where
  | own (p : Addr) (φ : OC)
def Ent.adr : Ent → Addr
  | .own p _ => p
/-- a memo: empty, or filled with what it is to hold -/
def Memo (G : Hp) (m : Mm) (b : Bool) (h : Option HO) : Prop := (b = false ∧ h = some (.dK [])) ∨ ∃ d : Addr, h = some (.dK [(.inr "rows", .ref d), (.inr "first", .int m.f)]) ∧ ∀ K : Frag, Rp.rep K G (.ref d) m.D
/-- how what is known to stand still is there -/
def ShO (G : Hp) (h : Option HO) : HO → Prop
  | .dT t => ∃ m b, t = memoL m b ∧ Memo G m b h
  | .frz z (.dT t) => h = some (.frz z (.dT t)) ∨ (z = z0 ∧ (h = some (.dT t) ∨ ∃ od, h = some (.frz od (.dT t))))
  | o => h = some o
theorem ShO.of {G : Hp} {h : Option HO} {o : HO} (e : h = some o) (n : ¬ StH o := by exact fun z => z) : ShO G h o := by
  cases o <;> first | exact e | exact absurd trivial n | (rename_i u; cases u <;> first | exact e | exact absurd trivial n)
theorem ShO.to {G : Hp} {h : Option HO} {o : HO} (e : ShO G h o) (n : ¬ StH o := by exact fun z => z) : h = some o := by
  cases o <;> first | exact e | exact absurd trivial n | (rename_i u; cases u <;> first | exact e | exact absurd trivial n)
theorem Memo.mono {G G' : Hp} {m : Mm} {b : Bool} {h : Option HO} (s : Le G G') (e : Memo G m b h) : Memo G' m b h := by
  rcases e with e | ⟨d, e, r⟩
  · exact .inl e
  · exact .inr ⟨d, e, fun K => Rp.mono s (r K)⟩
theorem ShO.mono {G G' : Hp} {h : Option HO} {o : HO} (s : Le G G') (e : ShO G h o) : ShO G' h o := by
  cases o <;> first | exact e | exact (let ⟨m, b, t, q⟩ := e; ⟨m, b, t, q.mono s⟩) | (rename_i u; cases u <;> exact e)
theorem ShO.there {G : Hp} {h : Option HO} {o : HO} (e : ShO G h o) : ∃ u, h = some u := by
  cases o with
  | dT t =>
    obtain ⟨m, b, _, ⟨_, e⟩ | ⟨d, e, _⟩⟩ := e
    · exact ⟨_, e⟩
    · exact ⟨_, e⟩
  | frz od u =>
    cases u with
    | dT t =>
      rcases e with e | ⟨_, e | ⟨_, e⟩⟩
      · exact ⟨_, e⟩
      · exact ⟨_, e⟩
      · exact ⟨_, e⟩
    | _ => exact ⟨_, e⟩
  | _ => exact ⟨_, e⟩
/-- G: what stands still; ω: what is one's own -/
structure At (G : Hp) (ω : List Ent) (H : Hp) : Prop where
  sh : ∀ a o, G a = some o → ShO G (H a) o
  own : ∀ (i : Nat) (p : Addr) (φ : OC), ω[i]? = some (Ent.own p φ) → G p = none ∧ ∃ o, H p = some o ∧ φ.p G o
  nd : ∀ (i j : Nat) (e e' : Ent), ω[i]? = some e → ω[j]? = some e' → e.adr = e'.adr → i = j
section
variable {G G2 H : Hp} {ω : List Ent} {p : Addr} {o o' : HO} {φ φ' : OC}
theorem At.there (h : At G ω H) {i : Nat} {e : Ent} (he : ω[i]? = some e) : ∃ o, H e.adr = some o := by
  cases e with
  | own p φ =>
    obtain ⟨_, o, q, _⟩ := h.own i p φ he
    exact ⟨o, q⟩
theorem At.get (h : At G ω H) {a : Addr} (e : G a = some o) (n : ¬ StH o := by exact fun z => z) : H a = some o := (h.sh a o e).to n
theorem At.rd (h : At G ω H) {a : Addr} (e : Rd G a o) (n : ¬ StH o := by exact fun z => z) : Rd H a o := by
  rcases e with e | ⟨od, e⟩
  · exact .inl (h.get e n)
  · exact .inr ⟨od, h.get e (StH.frz n od)⟩
/-- a dict that stands still is locked -/
theorem At.lock (h : At G ω H) {a : Addr} {od : Obj} (e : G a = some o) (d : LockD o) : At (upd G a (.frz od o)) ω (upd H a (.frz od o)) ∧ Le G (upd G a (.frz od o)) := by
  have s : Le G (upd G a (.frz od o)) := fun b u eb => by
    by_cases z : b = a
    · subst z
      rw [e] at eb
      cases eb
      exact .inr ⟨_, .inl ⟨d, od, rfl⟩, upd_same⟩
    · exact .inl (by rw [upd_ne z]; exact eb)
  refine ⟨⟨fun b u eb => ?_, fun i q φ hi => ?_, h.nd⟩, s⟩
  · by_cases z : b = a
    · subst z
      rw [upd_same] at eb
      cases eb
      exact ShO.of upd_same (StH.frz d.st od)
    · rw [upd_ne z] at eb
      rw [upd_ne z]
      exact (h.sh b u eb).mono s
  · obtain ⟨x, y, b, c⟩ := h.own i q φ hi
    have z : q ≠ a := fun z => by
      rw [z, e] at x
      cases x
    exact ⟨by rw [upd_ne z]; exact x, y, by rw [upd_ne z]; exact b, φ.mono s c⟩
theorem At.lst (h : At G ω H) {a : Addr} {xs : List V} (e : G a = some (.lst xs)) : H a = some (.lst xs) := h.get e
theorem At.tup (h : At G ω H) {a : Addr} {xs : List V} (e : G a = some (.tup xs)) : H a = some (.tup xs) := h.get e
theorem At.free (h : At G ω H) (n : H p = none) : G p = none := by
  cases e : G p with
  | none => rfl
  | some o =>
    obtain ⟨u, q⟩ := (h.sh p o e).there
    rw [q] at n
    cases n
theorem At.apart (h : At G ω H) (n : H p = none) {i : Nat} {e : Ent} (he : ω[i]? = some e) : e.adr ≠ p := fun z => by
  obtain ⟨o, q⟩ := h.there he
  rw [z, n] at q
  cases q
/-- something new that stands still -/
theorem At.new (h : At G ω H) (n : H p = none) (nm : ¬ StH o := by exact fun z => z) : At (upd G p o) ω (upd H p o) ∧ Le G (upd G p o) := by
  have s : Le G (upd G p o) := Le.new (h.free n)
  refine ⟨⟨fun a u e => ?_, fun i q φ e => ?_, h.nd⟩, s⟩
  · by_cases z : a = p
    · subst z
      rw [upd_same] at e
      cases e
      exact ShO.of upd_same nm
    · rw [upd_ne z] at e
      rw [upd_ne z]
      exact (h.sh a u e).mono s
  · obtain ⟨a, o, b, c⟩ := h.own i q φ e
    have z : q ≠ p := h.apart n e
    exact ⟨by rw [upd_ne z]; exact a, o, by rw [upd_ne z]; exact b, φ.mono s c⟩
/-- a tuple that is there stands still -/
theorem At.adopt (h : At G ω H) {q : Addr} {vs : List V} (e : H q = some (.tup vs)) : ∃ G', Le G G' ∧ At G' ω H ∧ G' q = some (.tup vs) := by
  cases c : G q with
  | some u =>
    have t := h.sh q u c
    rw [e] at t
    refine ⟨G, Le.refl _, h, ?_⟩
    rw [c]
    cases u with
    | dT t' =>
      obtain ⟨_, _, _, ⟨_, z⟩ | ⟨_, z, _⟩⟩ := t <;> cases z
    | frz od u' =>
      cases u' <;> first | exact t.symm | (rcases t with z | ⟨_, z | ⟨_, z⟩⟩ <;> cases z)
    | _ => exact t.symm
  | none =>
    have s : Le G (upd G q (.tup vs)) := Le.new c
    refine ⟨_, s, ⟨fun a u ea => ?_, fun i p φ ei => ?_, h.nd⟩, upd_same⟩
    · by_cases z : a = q
      · subst z
        rw [upd_same] at ea
        cases ea
        exact ShO.of e
      · rw [upd_ne z] at ea
        exact (h.sh a u ea).mono s
    · obtain ⟨a, o, b, d⟩ := h.own i p φ ei
      have ne : p ≠ q := fun z => by
        rw [z, e] at b
        cases b
        exact φ.nt d trivial
      exact ⟨by rw [upd_ne ne]; exact a, o, b, φ.mono s d⟩
/-- a dict with tuple keys that stands still is locked -/
theorem At.lockT (h : At G ω H) {a : Addr} {od z : Obj} {t : List (List Key × V)} (g : G a = some (.frz z (.dT t))) (e : (z = z0 ∧ H a = some (.dT t)) ∨ (z = od ∨ z = z0) ∧ H a = some (.frz od (.dT t))) : At (upd G a (.frz od (.dT t))) ω (upd H a (.frz od (.dT t))) ∧ Le G (upd G a (.frz od (.dT t))) := by
  have s : Le G (upd G a (.frz od (.dT t))) := fun b u eb => by
    by_cases y : b = a
    · subst y
      rw [g] at eb
      cases eb
      rw [upd_same]
      rcases e with ⟨rfl, _⟩ | ⟨rfl | rfl, _⟩
      · exact .inr ⟨_, .inr (.inr ⟨_, _, rfl, rfl⟩), rfl⟩
      · exact .inl rfl
      · exact .inr ⟨_, .inr (.inr ⟨_, _, rfl, rfl⟩), rfl⟩
    · exact .inl (by rw [upd_ne y]; exact eb)
  refine ⟨⟨fun b u eb => ?_, fun i q φ hi => ?_, h.nd⟩, s⟩
  · by_cases y : b = a
    · subst y
      rw [upd_same] at eb
      cases eb
      exact .inl upd_same
    · rw [upd_ne y] at eb
      rw [upd_ne y]
      exact (h.sh b u eb).mono s
  · obtain ⟨x, y, b, c⟩ := h.own i q φ hi
    have ne : q ≠ a := fun z => by
      rw [z, g] at x
      cases x
    exact ⟨by rw [upd_ne ne]; exact x, y, by rw [upd_ne ne]; exact b, φ.mono s c⟩
/-- something new of one's own -/
theorem At.newOwn (h : At G ω H) (n : H p = none) (q : φ.p G o) : At G (.own p φ :: ω) (upd H p o) := by
  have np := h.free n
  refine ⟨fun a u e => ?_, fun i r ψ e => ?_, fun i j e e' hi hj z => ?_⟩
  · have z : a ≠ p := ne_of_none e np
    rw [upd_ne z]
    exact h.sh a u e
  · cases i with
    | zero =>
      have e' : Ent.own p φ = Ent.own r ψ := Option.some.inj e
      cases e'
      exact ⟨np, o, upd_same, q⟩
    | succ i =>
      obtain ⟨a, u, b, c⟩ := h.own i r ψ e
      have z : r ≠ p := h.apart n (e := .own r ψ) e
      exact ⟨a, u, by rw [upd_ne z]; exact b, c⟩
  · cases i with
    | zero =>
      cases j with
      | zero => rfl
      | succ j =>
        have hi' : Ent.own p φ = e := Option.some.inj hi
        subst hi'
        exact absurd z.symm (h.apart n (e := e') hj)
    | succ i =>
      cases j with
      | zero =>
        have hj' : Ent.own p φ = e' := Option.some.inj hj
        subst hj'
        exact absurd z (h.apart n (e := e) hi)
      | succ j => rw [h.nd i j e e' hi hj z]
/-- what is one's own is changed -/
theorem At.put {k : Nat} (h : At G ω H) (e : ω[k]? = some (Ent.own p φ)) (q : φ'.p G o) : At G (ω.set k (.own p φ')) (upd H p o) := by
  have np := (h.own k p φ e).1
  have lk : k < ω.length := (List.getElem?_eq_some_iff.mp e).1
  have other : ∀ (i : Nat) (x : Ent), (ω.set k (.own p φ'))[i]? = some x → (i = k ∧ x = .own p φ') ∨ (i ≠ k ∧ ω[i]? = some x) := fun i x hx => by
    by_cases z : k = i
    · subst z
      rw [List.getElem?_set_self lk] at hx
      exact .inl ⟨rfl, (Option.some.inj hx).symm⟩
    · rw [List.getElem?_set_ne z] at hx
      exact .inr ⟨fun y => z y.symm, hx⟩
  refine ⟨fun a u ea => ?_, fun i r ψ hi => ?_, fun i j x x' hi hj z => ?_⟩
  · have z : a ≠ p := ne_of_none ea np
    rw [upd_ne z]
    exact h.sh a u ea
  · rcases other i _ hi with ⟨_, z⟩ | ⟨nk, hi⟩
    · cases z
      exact ⟨np, o, upd_same, q⟩
    · obtain ⟨a, u, b, c⟩ := h.own i r ψ hi
      have z : r ≠ p := fun z => nk (h.nd i k _ _ hi e z)
      exact ⟨a, u, by rw [upd_ne z]; exact b, c⟩
  · have adr : ∀ (i : Nat) (x : Ent), (ω.set k (.own p φ'))[i]? = some x → ∃ y, ω[i]? = some y ∧ y.adr = x.adr := fun i x hx => by
      rcases other i x hx with ⟨ei, ex⟩ | ⟨_, hi⟩
      · exact ⟨_, by rw [ei]; exact e, by rw [ex]; rfl⟩
      · exact ⟨x, hi, rfl⟩
    obtain ⟨y, hy, ey⟩ := adr i x hi
    obtain ⟨y', hy', ey'⟩ := adr j x' hj
    exact h.nd i j y y' hy hy' (by rw [ey, ey', z])
/-- some of it in another order -/
theorem At.sub {ω' : List Ent} (h : At G ω H) (f : Nat → Nat) (hf : ∀ (i : Nat) (e : Ent), ω'[i]? = some e → ω[f i]? = some e) (inj : ∀ (i j : Nat) (e e' : Ent), ω'[i]? = some e → ω'[j]? = some e' → f i = f j → i = j) : At G ω' H :=
  ⟨h.sh, fun i p φ e => h.own (f i) p φ (hf _ _ e), fun i j e e' hi hj z => inj i j e e' hi hj (h.nd (f i) (f j) e e' (hf _ _ hi) (hf _ _ hj) z)⟩
/-- the last made is let go -/
theorem At.drop (h : At G (.own p φ :: ω) H) : At G ω H := h.sub (fun i => i + 1) (fun i e q => q) (fun i j _ _ _ _ z => Nat.succ.inj z)
/-- how a dict whose keys are tuples is told where it stands still -/
def stl : HO → HO
  | .dT t => .frz z0 (.dT t)
  | .frz _ (.dT t) => .frz z0 (.dT t)
  | o => o
theorem ShO.stl {G : Hp} {h : Option HO} {o : HO} (e : h = some o) : ShO G h (Lf.stl o) := by
  cases o with
  | dT t => exact .inr ⟨rfl, .inl e⟩
  | frz od u =>
    cases u with
    | dT t => exact .inr ⟨rfl, .inr ⟨od, e⟩⟩
    | _ => exact e
  | _ => exact e
/-- the last made stands still from here on -/
theorem At.freeze (h : At G (.own p φ :: ω) H) : ∃ o, H p = some o ∧ φ.p G o ∧ At (upd G p (stl o)) ω H ∧ Le G (upd G p (stl o)) := by
  obtain ⟨np, o, e, q⟩ := h.own 0 p φ rfl
  have s : Le G (upd G p (stl o)) := Le.new np
  have d := h.drop
  have ap : ∀ (i : Nat) (x : Ent), ω[i]? = some x → x.adr ≠ p := fun i x hx z => by
    have := h.nd (i + 1) 0 x _ hx rfl z
    omega
  refine ⟨o, e, q, ⟨fun a u ea => ?_, fun i r ψ hi => ?_, d.nd⟩, s⟩
  · by_cases z : a = p
    · subst z
      rw [upd_same] at ea
      cases ea
      exact ShO.stl e
    · rw [upd_ne z] at ea
      exact (d.sh a u ea).mono s
  · obtain ⟨a, u, b, c⟩ := d.own i r ψ hi
    exact ⟨by rw [upd_ne (show r ≠ p from ap i _ hi)]; exact a, u, b, ψ.mono s c⟩
theorem eraseIdx_get (ω : List Ent) (k i : Nat) : (ω.eraseIdx k)[i]? = ω[if i < k then i else i + 1]? := by
  rw [List.getElem?_eraseIdx]
  split <;> rfl
/-- the k-th to the front, and back -/
theorem At.front {k : Nat} {e : Ent} (h : At G ω H) (he : ω[k]? = some e) : At G (e :: ω.eraseIdx k) H := by
  have lk : k < ω.length := (List.getElem?_eq_some_iff.mp he).1
  refine h.sub (fun i => match i with | 0 => k | i + 1 => if i < k then i else i + 1) (fun i x hx => ?_) (fun i j x x' hi hj z => ?_)
  · cases i with
    | zero => exact he.trans hx
    | succ i =>
      have hx' : (ω.eraseIdx k)[i]? = some x := hx
      rw [eraseIdx_get] at hx'
      exact hx'
  · cases i with
    | zero =>
      cases j with
      | zero => rfl
      | succ j =>
        have z' : k = if j < k then j else j + 1 := z
        split at z' <;> omega
    | succ i =>
      cases j with
      | zero =>
        have z' : (if i < k then i else i + 1) = k := z
        split at z' <;> omega
      | succ j =>
        have z' : (if i < k then i else i + 1) = if j < k then j else j + 1 := z
        split at z' <;> split at z' <;> omega
theorem At.back {k : Nat} (h : At G (.own p φ' :: ω.eraseIdx k) H) (he : ω[k]? = some (Ent.own p φ)) : At G (ω.set k (.own p φ')) H := by
  have lk : k < ω.length := (List.getElem?_eq_some_iff.mp he).1
  refine h.sub (fun i => if i = k then 0 else if i < k then i + 1 else i) (fun i x hx => ?_) (fun i j x x' hi hj z => ?_)
  · by_cases z : i = k
    · subst z
      rw [List.getElem?_set_self lk] at hx
      rw [if_pos rfl]
      exact hx
    · rw [List.getElem?_set_ne (fun y => z y.symm)] at hx
      rw [if_neg z]
      by_cases y : i < k
      · rw [if_pos y]
        show (ω.eraseIdx k)[i]? = _
        rw [eraseIdx_get, if_pos y]
        exact hx
      · rw [if_neg y]
        cases i with
        | zero => omega
        | succ i =>
          show (ω.eraseIdx k)[i]? = _
          rw [eraseIdx_get, if_neg (by omega)]
          exact hx
  · have z' : (if i = k then 0 else if i < k then i + 1 else i) = if j = k then 0 else if j < k then j + 1 else j := z
    split at z' <;> split at z' <;> (try split at z') <;> (try split at z') <;> omega
end
end Lf
/-! ## Readings told by plain data: expressions -/
namespace Lf
open PySem PySem.Spec PyProof.Rows L2
open PySem.W (Frag)
abbrev Gm := List (Option MP)
/-- the slots hold what Γ says -/
def Reps (G : Hp) (σ : L2.St) (Γ : Gm) : Prop := σ.length = Γ.length ∧ ∀ (i : Nat) (m : MP), Γ[i]? = some (some m) → ∃ v, σ[i]? = some (some v) ∧ m.p G v
theorem Reps.mono {G G' : Hp} {σ : L2.St} {Γ : Gm} (s : Le G G') (h : Reps G σ Γ) : Reps G' σ Γ := ⟨h.1, fun i m e => let ⟨v, a, b⟩ := h.2 i m e; ⟨v, a, m.mono s b⟩⟩
theorem Reps.set {G : Hp} {σ : L2.St} {Γ : Gm} {i : Nat} {v : V} {m : MP} (h : Reps G σ Γ) (q : m.p G v) : Reps G (σ.set i (some v)) (Γ.set i (some m)) := by
  refine ⟨by rw [List.length_set, List.length_set, h.1], fun j n e => ?_⟩
  by_cases z : i = j
  · subst z
    have l : i < Γ.length := by
      have := (List.getElem?_eq_some_iff.mp e).1
      rwa [List.length_set] at this
    rw [List.getElem?_set_self l] at e
    cases e
    exact ⟨v, by rw [List.getElem?_set_self (by rw [h.1]; exact l)], q⟩
  · rw [List.getElem?_set_ne z] at e
    rw [List.getElem?_set_ne z]
    exact h.2 j n e
/-- what is known may be forgotten -/
def Sub (Γ Γ' : Gm) : Prop := Γ.length = Γ'.length ∧ ∀ (i : Nat) (m : MP), Γ'[i]? = some (some m) → Γ[i]? = some (some m)
theorem Reps.sub {G : Hp} {σ : L2.St} {Γ Γ' : Gm} (h : Reps G σ Γ) (s : Sub Γ Γ') : Reps G σ Γ' := ⟨h.1.trans s.1, fun i m e => h.2 i m (s.2 i m e)⟩
theorem Sub.nil : Sub [] [] := ⟨rfl, fun _ _ e => e⟩
theorem Sub.keep {a : Option MP} {Γ Γ' : Gm} (s : Sub Γ Γ') : Sub (a :: Γ) (a :: Γ') := ⟨congrArg Nat.succ s.1, fun i m e => match i with
  | 0 => e
  | i + 1 => s.2 i m e⟩
theorem Sub.lose {a : Option MP} {Γ Γ' : Gm} (s : Sub Γ Γ') : Sub (a :: Γ) (none :: Γ') := ⟨congrArg Nat.succ s.1, fun i m e => match i with
  | 0 => by cases (Option.some.inj e)
  | i + 1 => s.2 i m e⟩
theorem Sub.refl (Γ : Gm) : Sub Γ Γ := ⟨rfl, fun _ _ e => e⟩

/-! ### expressions -/
def EvX (te : TE) (Γ : Gm) (ω ω' : List Ent) (m : MP) : Prop := ∀ (σ : L2.St) (G H : Hp) (Q : VK), Reps G σ Γ → At G ω H → (∀ v G2 H2, Le G G2 → At G2 ω' H2 → m.p G2 v → Q v H2) → te σ H Q
def EvT (tt : TT) (Γ : Gm) (ω ω' : List Ent) (b : Bool) : Prop := ∀ (σ : L2.St) (G H : Hp) (Q : Bool → Hp → Prop), Reps G σ Γ → At G ω H → (∀ G2 H2, Le G G2 → At G2 ω' H2 → Q b H2) → tt σ H Q
def PArgs (G : Hp) (vs : List V) (ms : List MP) : Prop := Paired (fun (v : V) (m : MP) => m.p G v) vs ms
theorem PArgs.mono {G G' : Hp} {vs : List V} {ms : List MP} (s : Le G G') (h : PArgs G vs ms) : PArgs G' vs ms := Paired.mono' (fun _ m r => m.mono s r) h
def EvA (ta : TA) (Γ : Gm) (ω ω' : List Ent) (ms : List MP) : Prop := ∀ (σ : L2.St) (G H : Hp) (Q : List V → Hp → Prop), Reps G σ Γ → At G ω H → (∀ vs G2 H2, Le G G2 → At G2 ω' H2 → PArgs G2 vs ms → Q vs H2) → ta σ H Q
def EvO (to : TO) (Γ : Gm) (ω ω' : List Ent) (o : Option Int) : Prop := ∀ (σ : L2.St) (G H : Hp) (Q : Option Int → Hp → Prop), Reps G σ Γ → At G ω H → (∀ G2 H2, Le G G2 → At G2 ω' H2 → Q o H2) → to σ H Q
/-- operations on values -/
def OpX (r : R2) (ω ω' : List Ent) (a b m : MP) : Prop := ∀ (G H : Hp) (x y : V) (Q : VK), At G ω H → a.p G x → b.p G y → (∀ v G2 H2, Le G G2 → At G2 ω' H2 → m.p G2 v → Q v H2) → r x y H Q
def CaX (r : List V → Hp → VK → Prop) (ω ω' : List Ent) (ms : List MP) (m : MP) : Prop := ∀ (G H : Hp) (vs : List V) (Q : VK), At G ω H → PArgs G vs ms → (∀ v G2 H2, Le G G2 → At G2 ω' H2 → m.p G2 v → Q v H2) → r vs H Q
section
variable {K : Frag} {Γ : Gm} {ω ω1 ω2 ω3 : List Ent} {ta tb te : TE} {a b m : MP} {tt uu : TT}
theorem EvX.var {i : Nat} (h : Γ[i]? = some (some m)) : EvX (tVar i) Γ ω ω m := fun σ G H Q r w q => let ⟨v, e, p⟩ := r.2 i m h; ⟨v, e, q v G H (Le.refl _) w p⟩
theorem EvX.int {i : Int} : EvX (tC (.int i)) Γ ω ω (is K i) := fun σ G H Q r w q => q _ G H (Le.refl _) w rfl
theorem EvX.bl {i : Bool} : EvX (tC (.bl i)) Γ ω ω (is K i) := fun σ G H Q r w q => q _ G H (Le.refl _) w rfl
theorem EvX.str {i : Str} : EvX (tC (.str i)) Γ ω ω (is K i) := fun σ G H Q r w q => q _ G H (Le.refl _) w rfl
theorem EvX.non {α : Type} [Rp α] : EvX (tC .non) Γ ω ω (is K (none : Option α)) := fun σ G H Q r w q => q _ G H (Le.refl _) w rfl
theorem EvX.unit : EvX (tC .non) Γ ω ω (is K ()) := fun σ G H Q r w q => q _ G H (Le.refl _) w rfl
/-- the value told in another way -/
theorem EvX.as {m' : MP} (h : EvX te Γ ω ω1 m) (f : ∀ G v, m.p G v → m'.p G v) : EvX te Γ ω ω1 m' := fun σ G H Q r w q => h σ G H Q r w fun v G2 H2 s w2 p => q v G2 H2 s w2 (f _ _ p)
theorem EvX.eq {α : Type} [Rp α] {x y : α} (h : EvX te Γ ω ω1 (is K x)) (e : x = y) : EvX te Γ ω ω1 (is K y) := e ▸ h
theorem EvX.op {r : R2} (ha : EvX ta Γ ω ω1 a) (hb : EvX tb Γ ω1 ω2 b) (hr : OpX r ω2 ω3 a b m) : EvX (tOp r ta tb) Γ ω ω3 m := fun σ G H Q r w q =>
  ha σ G H _ r w fun x G1 H1 s1 w1 p1 => hb σ G1 H1 _ (r.mono s1) w1 fun y G2 H2 s2 w2 p2 => hr G2 H2 x y Q w2 (a.mono s2 p1) p2 fun v G3 H3 s3 w3 p3 => q v G3 H3 (s1.trans (s2.trans s3)) w3 p3
theorem EvX.un {r : V → Hp → VK → Prop} (ha : EvX ta Γ ω ω1 a) (hr : ∀ (G H : Hp) (x : V) (Q : VK), At G ω1 H → a.p G x → (∀ v G2 H2, Le G G2 → At G2 ω2 H2 → m.p G2 v → Q v H2) → r x H Q) : EvX (tUn r ta) Γ ω ω2 m := fun σ G H Q r w q =>
  ha σ G H _ r w fun x G1 H1 s1 w1 p1 => hr G1 H1 x Q w1 p1 fun v G3 H3 s3 w3 p3 => q v G3 H3 (s1.trans s3) w3 p3
theorem EvX.neg {i : Int} (ha : EvX ta Γ ω ω1 (is K i)) : EvX (tUn (rU fun i => .int (-i)) ta) Γ ω ω1 (is K (-i)) := ha.un fun G H x Q w e q => by
  cases e
  exact ⟨i, rfl, q _ G H (Le.refl _) w rfl⟩
/-- operations that make nothing new -/
theorem OpX.val {r : R2} {α β γ : Type} [Rp α] [Rp β] [Rp γ] {x : α} {y : β} {z : γ} (h : ∀ (G H : Hp) (u v : V) (Q : VK), At G ω H → Rp.rep K G u x → Rp.rep K G v y → ∃ t, Rp.rep K G t z ∧ (Q t H → r u v H Q)) : OpX r ω ω (is K x) (is K y) (is K z) := fun G H u v Q w p1 p2 q => by
  obtain ⟨t, e, f⟩ := h G H u v Q w p1 p2
  exact f (q t G H (Le.refl _) w e)
theorem OpX.I0 {β : Type} [Rp β] {g : Int → Int → V} {i j : Int} {z : β} (h : ∀ (H : Hp), Rp.rep K H (g i j) z) : OpX (rI0 g) ω ω (is K i) (is K j) (is K z) := fun G H u v Q w p1 p2 q => by
  cases p1
  cases p2
  exact ⟨i, j, rfl, rfl, q _ G H (Le.refl _) w (h G)⟩
theorem OpX.I {β : Type} [Rp β] {C : Int → Int → Prop} {g : Int → Int → V} {i j : Int} {z : β} (c : C i j) (h : ∀ (H : Hp), Rp.rep K H (g i j) z) : OpX (rI C g) ω ω (is K i) (is K j) (is K z) := fun G H u v Q w p1 p2 q => by
  cases p1
  cases p2
  exact ⟨i, j, rfl, rfl, c, q _ G H (Le.refl _) w (h G)⟩
/-! ints -/
def imul (i j : Int) : Option Int := if i.natAbs < 2 ^ 100000 ∧ j.natAbs < 2 ^ 100000 then some (i * j) else none
def ifdiv (i j : Int) : Option Int := if 0 < j ∧ j.natAbs < 2 ^ 9000 then some (i / j) else none
def imod (i j : Int) : Option Int := if 0 < j then some (i % j) else none
theorem OpX.add {i j : Int} : OpX (rI0 fun i j => .int (i + j)) ω ω (is K i) (is K j) (is K (i + j)) := .I0 fun _ => rfl
theorem OpX.sub {i j : Int} : OpX (rI0 fun i j => .int (i - j)) ω ω (is K i) (is K j) (is K (i - j)) := .I0 fun _ => rfl
theorem imul_ok {i j k : Int} (h : imul i j = some k) : CMulW i j ∧ k = i * j := by
  unfold imul at h
  split at h
  · rename_i c
    exact ⟨wide_mul c.1 c.2 (by decide) (by decide) (by decide), (Option.some.inj h).symm⟩
  · cases h
theorem OpX.mul {i j k : Int} (h : imul i j = some k) : OpX (rI CMulW fun i j => .int (i * j)) ω ω (is K i) (is K j) (is K k) := by
  obtain ⟨c, rfl⟩ := imul_ok h
  exact .I c fun _ => rfl
theorem OpX.fdiv {i j k : Int} (h : ifdiv i j = some k) : OpX (rI CDivW fun i j => .int (i / j)) ω ω (is K i) (is K j) (is K k) := by
  unfold ifdiv at h
  split at h
  · rename_i c
    cases h
    exact .I (wide_div c.1 c.2 (by decide) (by decide)) fun _ => rfl
  · cases h
theorem OpX.mod {i j k : Int} (h : imod i j = some k) : OpX (rI (fun _ j => 0 < j) fun i j => .int (i % j)) ω ω (is K i) (is K j) (is K k) := by
  unfold imod at h
  split at h
  · rename_i c
    cases h
    exact .I c fun _ => rfl
  · cases h
def ipow (i j : Int) : Option Int := if 0 ≤ j ∧ (Builtin.Int.intBits i : Int) * j ≤ 2 ^ 27 then some (i ^ j.toNat) else none
theorem OpX.pow {i j k : Int} (h : ipow i j = some k) : OpX (rI RC.CPowW fun i j => .int (i ^ j.toNat)) ω ω (is K i) (is K j) (is K k) := by
  unfold ipow at h
  split at h
  · rename_i c
    cases h
    exact .I c fun _ => rfl
  · cases h
theorem OpX.lt {i j : Int} : OpX (rI0 fun i j => .bl (decide (i < j))) ω ω (is K i) (is K j) (is K (decide (i < j))) := .I0 fun _ => rfl
theorem OpX.le {i j : Int} : OpX (rI0 fun i j => .bl (decide (i ≤ j))) ω ω (is K i) (is K j) (is K (decide (i ≤ j))) := .I0 fun _ => rfl
theorem OpX.gt {i j : Int} : OpX (rI0 fun i j => .bl (decide (j < i))) ω ω (is K i) (is K j) (is K (decide (j < i))) := .I0 fun _ => rfl
theorem OpX.ge {i j : Int} : OpX (rI0 fun i j => .bl (decide (j ≤ i))) ω ω (is K i) (is K j) (is K (decide (j ≤ i))) := .I0 fun _ => rfl
/-- == of flat values of one kind -/
class Fl (α : Type) extends Rp α where
  v : α → V
  of : ∀ {K : Frag} {H : Hp} {u : V} {x : α}, Rp.rep K H u x → u = v x
  dec : DecidableEq α
  sc : ∀ x y : α, scal (v x) (v y) = true
  eqv : ∀ x y : α, v x = v y ↔ x = y
instance : Fl Int := { v := .int, of := fun h => h, dec := inferInstance, sc := fun _ _ => rfl, eqv := fun x y => ⟨fun h => V.int.inj h, fun h => h ▸ rfl⟩ }
instance : Fl Bool := { v := .bl, of := fun h => h, dec := inferInstance, sc := fun _ _ => rfl, eqv := fun x y => ⟨fun h => V.bl.inj h, fun h => h ▸ rfl⟩ }
instance : Fl Str := { v := .str, of := fun h => h, dec := inferInstance, sc := fun _ _ => rfl, eqv := fun x y => ⟨fun h => V.str.inj h, fun h => h ▸ rfl⟩ }
theorem OpX.eq {α : Type} [f : Fl α] [d : DecidableEq α] {x y : α} : OpX rEq ω ω (is K x) (is K y) (is K (decide (x = y))) := fun G H u v Q w p1 p2 q => by
  rw [f.of p1, f.of p2]
  refine ⟨f.sc x y, q _ G H (Le.refl _) w ?_⟩
  show V.bl _ = V.bl _
  rw [decide_eq_decide.mpr (f.eqv x y)]
theorem OpX.ne {α : Type} [f : Fl α] [d : DecidableEq α] {x y : α} : OpX rNe ω ω (is K x) (is K y) (is K (!decide (x = y))) := fun G H u v Q w p1 p2 q => by
  rw [f.of p1, f.of p2]
  refine ⟨f.sc x y, q _ G H (Le.refl _) w ?_⟩
  show V.bl _ = V.bl _
  rw [decide_eq_decide.mpr (f.eqv x y)]
/-- is None -/
theorem OpX.isN {α : Type} [Rp α] {x : Option α} {n : MP} (hn : ∀ G v, n.p G v → v = .non) : OpX (fun x y H Q => y = .non ∧ Q (.bl (decide (x = .non))) H) ω ω (is K x) n (is K x.isNone) := fun G H u v Q w p1 p2 q => by
  refine ⟨hn G v p2, q _ G H (Le.refl _) w ?_⟩
  show V.bl _ = V.bl _
  cases x with
  | none =>
    cases p1
    rfl
  | some x => rw [decide_eq_false p1.2]; rfl
theorem OpX.notN {α : Type} [Rp α] {x : Option α} {n : MP} (hn : ∀ G v, n.p G v → v = .non) : OpX (fun x y H Q => y = .non ∧ Q (.bl (!decide (x = .non))) H) ω ω (is K x) n (is K x.isSome) := fun G H u v Q w p1 p2 q => by
  refine ⟨hn G v p2, q _ G H (Le.refl _) w ?_⟩
  show V.bl _ = V.bl _
  cases x with
  | none =>
    cases p1
    rfl
  | some x => rw [decide_eq_false p1.2]; rfl
theorem non_unit {K : Frag} : ∀ G v, (is K ()).p G v → v = .non := fun _ _ h => h
/-! bools -/
theorem EvX.not {b : Bool} (h : EvX ta Γ ω ω1 (is K b)) : EvX (tNotV ta) Γ ω ω1 (is K (!b)) := fun σ G H Q r w q => h σ G H _ r w fun v G2 H2 s w2 p => ⟨b, p, q _ G2 H2 s w2 rfl⟩
theorem EvX.and {a b : Bool} (h1 : EvX ta Γ ω ω1 (is K a)) (h2 : a = true → EvX tb Γ ω1 ω1 (is K b)) : EvX (tAndV ta tb) Γ ω ω1 (is K (a && b)) := fun σ G H Q r w q => h1 σ G H _ r w fun v G2 H2 s w2 p => ⟨a, p, by
  cases a with
  | true => exact RC.if_t rfl (h2 rfl σ G2 H2 Q (r.mono s) w2 fun v G3 H3 s3 w3 p3 => q v G3 H3 (s.trans s3) w3 p3)
  | false => exact RC.if_f rfl (q _ G2 H2 s w2 rfl)⟩
theorem EvX.or {a b : Bool} (h1 : EvX ta Γ ω ω1 (is K a)) (h2 : a = false → EvX tb Γ ω1 ω1 (is K b)) : EvX (tOrV ta tb) Γ ω ω1 (is K (a || b)) := fun σ G H Q r w q => h1 σ G H _ r w fun v G2 H2 s w2 p => ⟨a, p, by
  cases a with
  | false => exact RC.if_f rfl (h2 rfl σ G2 H2 Q (r.mono s) w2 fun v G3 H3 s3 w3 p3 => q v G3 H3 (s.trans s3) w3 p3)
  | true => exact RC.if_t rfl (q _ G2 H2 s w2 rfl)⟩
/-- the same, the second side told where it is asked: b is what both come to -/
theorem EvX.andO {a b : Bool} {o : Option Bool} (h1 : EvX ta Γ ω ω1 (is K a)) (h2 : a = true → o = some b → EvX tb Γ ω1 ω1 (is K b)) (h : (if a then o else some false) = some b) : EvX (tAndV ta tb) Γ ω ω1 (is K b) := by
  cases a with
  | true =>
    have := EvX.and h1 (fun _ => h2 rfl h)
    exact this
  | false =>
    cases h
    have := EvX.and (b := false) (tb := tb) h1 (fun z => nomatch z)
    exact this
theorem EvX.orO {a b : Bool} {o : Option Bool} (h1 : EvX ta Γ ω ω1 (is K a)) (h2 : a = false → o = some b → EvX tb Γ ω1 ω1 (is K b)) (h : (if a then some true else o) = some b) : EvX (tOrV ta tb) Γ ω ω1 (is K b) := by
  cases a with
  | false =>
    have := EvX.or h1 (fun _ => h2 rfl h)
    exact this
  | true =>
    cases h
    have := EvX.or (b := true) (tb := tb) h1 (fun z => nomatch z)
    exact this
theorem EvX.ite {c : Bool} (h : EvT tt Γ ω ω1 c) (h1 : c = true → EvX ta Γ ω1 ω2 m) (h2 : c = false → EvX tb Γ ω1 ω2 m) : EvX (tIf tt ta tb) Γ ω ω2 m := fun σ G H Q r w q => h σ G H _ r w fun G2 H2 s w2 => by
  cases c with
  | true => exact RC.if_t rfl (h1 rfl σ G2 H2 Q (r.mono s) w2 fun v G3 H3 s3 w3 p3 => q v G3 H3 (s.trans s3) w3 p3)
  | false => exact RC.if_f rfl (h2 rfl σ G2 H2 Q (r.mono s) w2 fun v G3 H3 s3 w3 p3 => q v G3 H3 (s.trans s3) w3 p3)
/-- a bound step within a part that is not always reached -/
theorem bindO {β γ : Type} {o : Option β} {k : β → Option γ} {z : γ} {P : Prop} (h : o.bind k = some z) (f : ∀ y, o = some y → k y = some z → P) : P := by
  cases o with
  | none => cases h
  | some y => exact f y rfl h
/-! tests -/
theorem EvT.test {b : Bool} (h : EvX te Γ ω ω1 (is K b)) : EvT (tTest te) Γ ω ω1 b := fun σ G H Q r w q => h σ G H _ r w fun v G2 H2 s w2 p => ⟨b, p, q G2 H2 s w2⟩
theorem EvT.B {b : Bool} (h : EvX te Γ ω ω1 (is K b)) : EvT (tB te) Γ ω ω1 b := fun σ G H Q r w q => h σ G H _ r w fun v G2 H2 s w2 p => ⟨b, p, q G2 H2 s w2⟩
theorem EvT.not {b : Bool} (h : EvT tt Γ ω ω1 b) : EvT (tNot tt) Γ ω ω1 (!b) := fun σ G H Q r w q => h σ G H _ r w fun G2 H2 s w2 => q G2 H2 s w2
theorem EvT.yes : EvT tYes Γ ω ω true := fun σ G H Q r w q => q G H (Le.refl _) w
theorem EvT.and {a b : Bool} (h1 : EvT tt Γ ω ω1 a) (h2 : a = true → EvT uu Γ ω1 ω1 b) : EvT (tAnd tt uu) Γ ω ω1 (a && b) := fun σ G H Q r w q => h1 σ G H _ r w fun G2 H2 s w2 => by
  cases a with
  | true => exact RC.if_t rfl (h2 rfl σ G2 H2 Q (r.mono s) w2 fun G3 H3 s3 w3 => q G3 H3 (s.trans s3) w3)
  | false => exact RC.if_f rfl (q G2 H2 s w2)
theorem EvT.or {a b : Bool} (h1 : EvT tt Γ ω ω1 a) (h2 : a = false → EvT uu Γ ω1 ω1 b) : EvT (tOr tt uu) Γ ω ω1 (a || b) := fun σ G H Q r w q => h1 σ G H _ r w fun G2 H2 s w2 => by
  cases a with
  | false => exact RC.if_f rfl (h2 rfl σ G2 H2 Q (r.mono s) w2 fun G3 H3 s3 w3 => q G3 H3 (s.trans s3) w3)
  | true => exact RC.if_t rfl (q G2 H2 s w2)
theorem EvT.andO {a b : Bool} {o : Option Bool} (h1 : EvT tt Γ ω ω1 a) (h2 : a = true → o = some b → EvT uu Γ ω1 ω1 b) (h : (if a then o else some false) = some b) : EvT (tAnd tt uu) Γ ω ω1 b := by
  cases a with
  | true =>
    have := EvT.and h1 (fun _ => h2 rfl h)
    exact this
  | false =>
    cases h
    have := EvT.and (b := false) (uu := uu) h1 (fun z => nomatch z)
    exact this
theorem EvT.orO {a b : Bool} {o : Option Bool} (h1 : EvT tt Γ ω ω1 a) (h2 : a = false → o = some b → EvT uu Γ ω1 ω1 b) (h : (if a then some true else o) = some b) : EvT (tOr tt uu) Γ ω ω1 b := by
  cases a with
  | false =>
    have := EvT.or h1 (fun _ => h2 rfl h)
    exact this
  | true =>
    cases h
    have := EvT.or (b := true) (uu := uu) h1 (fun z => nomatch z)
    exact this
/-! arguments, displays -/
theorem EvA.nil : EvA tNil Γ ω ω [] := fun σ G H Q r w q => q [] G H (Le.refl _) w .nil
theorem EvA.cons {tr : TA} {ms : List MP} (h : EvX ta Γ ω ω1 a) (hr : EvA tr Γ ω1 ω2 ms) : EvA (tCons ta tr) Γ ω ω2 (a :: ms) := fun σ G H Q r w q =>
  h σ G H _ r w fun v G1 H1 s1 w1 p1 => hr σ G1 H1 _ (r.mono s1) w1 fun vs G2 H2 s2 w2 p2 => q (v :: vs) G2 H2 (s1.trans s2) w2 (.cons (a.mono s2 p1) p2)
theorem PArgs.one {G : Hp} {vs : List V} (h : PArgs G vs [a]) : ∃ v, vs = [v] ∧ a.p G v := by
  cases h with
  | cons r t =>
    cases t
    exact ⟨_, rfl, r⟩
theorem PArgs.two {G : Hp} {vs : List V} (h : PArgs G vs [a, b]) : ∃ v w, vs = [v, w] ∧ a.p G v ∧ b.p G w := by
  cases h with
  | cons r t =>
    obtain ⟨w, rfl, q⟩ := PArgs.one t
    exact ⟨_, w, rfl, r, q⟩
theorem all_of {α : Type} [Rp α] {K : Frag} {G : Hp} : ∀ {xs : List α} {vs : List V}, PArgs G vs (xs.map (is K)) → All K G vs xs
  | [], _, h => by
    cases h
    exact .nil
  | x :: xs, _, h => by
    cases h with
    | cons r t => exact .cons r (all_of t)
theorem PArgs.of_all {α : Type} [Rp α] {K : Frag} {G : Hp} : ∀ {xs : List α} {vs : List V}, All K G vs xs → PArgs G vs (xs.map (is K))
  | _, _, .nil => .nil
  | _, _, .cons r t => .cons r (PArgs.of_all t)
theorem Paired.len {α β : Type} {F : α → β → Prop} : ∀ {xs : List α} {ys : List β}, Paired F xs ys → xs.length = ys.length
  | _, _, .nil => rfl
  | _, _, .cons _ t => congrArg Nat.succ (Paired.len t)
theorem PArgs.len {G : Hp} {vs : List V} {ms : List MP} (h : PArgs G vs ms) : vs.length = ms.length := Paired.len h
/-- a list made -/
theorem EvX.lst {α : Type} [Rp α] {tA : TA} {ms : List MP} {xs : List α} (h : EvA tA Γ ω ω1 ms) (e : ms = xs.map (is K)) (l : xs.length ≤ sizeLine) : EvX (tLst tA) Γ ω ω1 (is K xs) := fun σ G H Q r w q => h σ G H _ r w fun vs G1 H1 s1 w1 p1 => by
  have hl : vs.length = xs.length := by rw [p1.len, e, List.length_map]
  refine ⟨by rw [hl]; exact l, fun p hp => ?_⟩
  obtain ⟨w2, s2⟩ := w1.new (o := .lst vs) hp
  exact q _ _ _ (s1.trans s2) w2 ⟨p, vs, rfl, upd_same, All.mono s2 (all_of (e ▸ p1)), l⟩
theorem EvX.tu {α : Type} [Rp α] {tA : TA} {ms : List MP} {xs : List α} (h : EvA tA Γ ω ω1 ms) (e : ms = xs.map (is K)) (l : xs.length ≤ sizeLine) : EvX (tTup tA) Γ ω ω1 (is K (Tu.mk xs)) := fun σ G H Q r w q => h σ G H _ r w fun vs G1 H1 s1 w1 p1 => by
  have hl : vs.length = xs.length := by rw [p1.len, e, List.length_map]
  refine ⟨by rw [hl]; exact l, fun p hp => ?_⟩
  obtain ⟨w2, s2⟩ := w1.new (o := .tup vs) hp
  exact q _ _ _ (s1.trans s2) w2 ⟨p, vs, rfl, upd_same, All.mono s2 (all_of (e ▸ p1)), l⟩
theorem EvX.pair {α β : Type} [Rp α] [Rp β] {tA : TA} {x : α} {y : β} (h : EvA tA Γ ω ω1 [is K x, is K y]) : EvX (tTup tA) Γ ω ω1 (is K (x, y)) := fun σ G H Q r w q => h σ G H _ r w fun vs G1 H1 s1 w1 p1 => by
  obtain ⟨u, v, rfl, p, p'⟩ := PArgs.two p1
  refine ⟨by show 2 ≤ sizeLine; decide, fun a ha => ?_⟩
  obtain ⟨w2, s2⟩ := w1.new (o := .tup [u, v]) ha
  exact q _ _ _ (s1.trans s2) w2 ⟨a, u, v, rfl, upd_same, Rp.mono s2 p, Rp.mono s2 p'⟩
/-! calls of built-ins -/
theorem EvX.ca {r : List V → Hp → VK → Prop} {tA : TA} {ms : List MP} (h : EvA tA Γ ω ω1 ms) (c : CaX r ω1 ω2 ms m) : EvX (tCB r tA) Γ ω ω2 m := fun σ G H Q r w q => h σ G H _ r w fun vs G1 H1 s1 w1 p1 => c G1 H1 vs Q w1 p1 fun v G2 H2 s2 w2 p2 => q v G2 H2 (s1.trans s2) w2 p2
/-- an own list or dict as it stands -/
theorem At.ownAt {G H : Hp} {k : Nat} {p : Addr} {φ : OC} (w : At G ω H) (h : ω[k]? = some (Ent.own p φ)) : ∃ o, H p = some o ∧ φ.p G o := (w.own k p φ h).2
theorem CaX.len {α : Type} [Rp α] {xs : List α} : CaX (Evl.rLenS K) ω ω [is K xs] (is K (xs.length : Int)) := fun G H vs Q w p q => by
  obtain ⟨v, rfl, a, us, rfl, e, h, l⟩ := PArgs.one p
  exact ⟨a, us, rfl, .inl (RC.sq_of (w.lst e)), q _ G H (Le.refl _) w (by rw [Paired.len h]; rfl)⟩
theorem CaX.lenT {α : Type} [Rp α] {xs : Tu α} : CaX (Evl.rLenS K) ω ω [is K xs] (is K (xs.l.length : Int)) := fun G H vs Q w p q => by
  obtain ⟨v, rfl, a, us, rfl, e, h, l⟩ := PArgs.one p
  exact ⟨a, us, rfl, .inr (RC.st_of (w.tup e)), q _ G H (Le.refl _) w (by rw [Paired.len h]; rfl)⟩
theorem CaX.lenS {s : Sc} : CaX (Evl.rLenS K) ω ω [is K s] (is K (s.l.length : Int)) := fun G H vs Q w p q => by
  obtain ⟨v, rfl, a, rfl, e⟩ := PArgs.one p
  have e' : SqL K H a (s.l.map V.int) := by
    rcases e with (e | ⟨o, e⟩) | e
    · exact .inl (.inl (w.lst e))
    · exact .inl (.inr ⟨o, w.get e⟩)
    · exact .inr e
  have hl : ((s.l.map V.int).length : Int) = (s.l.length : Int) := by rw [List.length_map]
  exact ⟨a, s.l.map V.int, rfl, .inl e', hl ▸ q (.int ((s.l.map V.int).length : Int)) G H (Le.refl _) w (by rw [hl]; exact (rfl : V.int _ = _))⟩
theorem CaX.lenO {α : Type} [Rp α] {xs : List α} {k : Nat} {p : Addr} (h : ω[k]? = some (Ent.own p (olst K xs))) : CaX (Evl.rLenS K) ω ω [adr p] (is K (xs.length : Int)) := fun G H vs Q w pa q => by
  obtain ⟨v, rfl, rfl⟩ := PArgs.one pa
  obtain ⟨o, e, us, rfl, z, _⟩ := w.ownAt h
  exact ⟨p, us, rfl, .inl (RC.sq_of e), q _ G H (Le.refl _) w (by rw [Paired.len z]; rfl)⟩
end
end Lf
/-! ## Readings told by plain data: statements, loops, comprehensions -/
namespace Lf
open PySem PySem.Spec PyProof.Rows L2
open PySem.W (Frag)
open He (ga)
/-! ### new lists and dicts: one's own at first -/
def EvF (te : TE) (Γ : Gm) (ω ω' : List Ent) (φ : OC) : Prop := ∀ (σ : L2.St) (G H : Hp) (Q : VK), Reps G σ Γ → At G ω H → (∀ p G2 H2, Le G G2 → At G2 (.own p φ :: ω') H2 → Q (.ref p) H2) → te σ H Q
def OpF (r : R2) (ω ω' : List Ent) (a b : MP) (φ : OC) : Prop := ∀ (G H : Hp) (x y : V) (Q : VK), At G ω H → a.p G x → b.p G y → (∀ p G2 H2, Le G G2 → At G2 (.own p φ :: ω') H2 → Q (.ref p) H2) → r x y H Q
def CaF (r : List V → Hp → VK → Prop) (ω ω' : List Ent) (ms : List MP) (φ : OC) : Prop := ∀ (G H : Hp) (vs : List V) (Q : VK), At G ω H → PArgs G vs ms → (∀ p G2 H2, Le G G2 → At G2 (.own p φ :: ω') H2 → Q (.ref p) H2) → r vs H Q
section
variable {K : Frag} {Γ : Gm} {ω ω1 ω2 ω3 : List Ent} {ta tb te : TE} {a b m : MP} {tt uu : TT} {φ : OC} {α β : Type} [Rp α] [Rp β]
theorem EvX.fr {xs : List α} (h : EvF te Γ ω ω1 (olst K xs)) : EvX te Γ ω ω1 (is K xs) := fun σ G H Q r w q => h σ G H Q r w fun p G2 H2 s w2 => by
  obtain ⟨o, e, ⟨vs, rfl, hv, l⟩, w3, s3⟩ := w2.freeze
  exact q _ _ H2 (s.trans s3) w3 ⟨p, vs, rfl, upd_same, All.mono s3 hv, l⟩
theorem EvX.frD {κ : Type} [Kp κ] {d : Dic κ α} (h : EvF te Γ ω ω1 (odic K d)) : EvX te Γ ω ω1 (is K d) := fun σ G H Q r w q => h σ G H Q r w fun p G2 H2 s w2 => by
  obtain ⟨o, e, ⟨vs, rfl, hv, l⟩, w3, s3⟩ := w2.freeze
  exact q _ _ H2 (s.trans s3) w3 ⟨p, vs, rfl, .inl upd_same, AllD.mono s3 hv, l⟩
theorem EvF.op {r : R2} (ha : EvX ta Γ ω ω1 a) (hb : EvX tb Γ ω1 ω2 b) (hr : OpF r ω2 ω3 a b φ) : EvF (tOp r ta tb) Γ ω ω3 φ := fun σ G H Q r w q =>
  ha σ G H _ r w fun x G1 H1 s1 w1 p1 => hb σ G1 H1 _ (r.mono s1) w1 fun y G2 H2 s2 w2 p2 => hr G2 H2 x y Q w2 (a.mono s2 p1) p2 fun v G3 H3 s3 w3 => q v G3 H3 (s1.trans (s2.trans s3)) w3
theorem EvF.ca {r : List V → Hp → VK → Prop} {tA : TA} {ms : List MP} (h : EvA tA Γ ω ω1 ms) (c : CaF r ω1 ω2 ms φ) : EvF (tCB r tA) Γ ω ω2 φ := fun σ G H Q r w q => h σ G H _ r w fun vs G1 H1 s1 w1 p1 => c G1 H1 vs Q w1 p1 fun v G2 H2 s2 w2 => q v G2 H2 (s1.trans s2) w2
theorem EvF.lst {tA : TA} {ms : List MP} {xs : List α} (h : EvA tA Γ ω ω1 ms) (e : ms = xs.map (is K)) (l : xs.length ≤ sizeLine) : EvF (tLst tA) Γ ω ω1 (olst K xs) := fun σ G H Q r w q => h σ G H _ r w fun vs G1 H1 s1 w1 p1 => by
  have hl : vs.length = xs.length := by rw [p1.len, e, List.length_map]
  exact ⟨by rw [hl]; exact l, fun p hp => q p _ _ s1 (w1.newOwn hp ⟨vs, rfl, all_of (e ▸ p1), l⟩)⟩
/-- what a new list at p of vs is -/
theorem newL {G H : Hp} {p : Addr} {vs : List V} {xs : List α} (w : At G ω H) (hp : H p = none) (h : All K G vs xs) (l : xs.length ≤ sizeLine) : At G (.own p (olst K xs) :: ω) (upd H p (.lst vs)) := w.newOwn hp ⟨vs, rfl, h, l⟩
/-! lists: list(..), tuple(..), slices, +, *, index, sum -/
theorem CaF.list {xs : List α} : CaF (Evl.rListS K) ω ω [is K xs] (olst K xs) := fun G H vs Q w p q => by
  obtain ⟨v, rfl, a, us, rfl, e, h, l⟩ := PArgs.one p
  exact ⟨a, us, rfl, .inl (RC.sq_of (w.lst e)), fun p hp => q p G _ (Le.refl _) (newL w hp h l)⟩
theorem CaF.listT {xs : Tu α} : CaF (Evl.rListS K) ω ω [is K xs] (olst K xs.l) := fun G H vs Q w p q => by
  obtain ⟨v, rfl, a, us, rfl, e, h, l⟩ := PArgs.one p
  exact ⟨a, us, rfl, .inr (RC.st_of (w.tup e)), fun p hp => q p G _ (Le.refl _) (newL w hp h l)⟩
theorem CaF.listO {xs : List α} {k : Nat} {p : Addr} (h : ω[k]? = some (Ent.own p (olst K xs))) : CaF (Evl.rListS K) ω ω [adr p] (olst K xs) := fun G H vs Q w pa q => by
  obtain ⟨v, rfl, rfl⟩ := PArgs.one pa
  obtain ⟨o, e, us, rfl, z, l⟩ := w.ownAt h
  exact ⟨p, us, rfl, .inl (RC.sq_of e), fun p hp => q p G _ (Le.refl _) (newL w hp z l)⟩
theorem CaX.tuple {xs : List α} : CaX (RC.rTupS K) ω ω [is K xs] (is K (Tu.mk xs)) := fun G H vs Q w p q => by
  obtain ⟨v, rfl, a, us, rfl, e, h, l⟩ := PArgs.one p
  refine ⟨a, us, rfl, .inl ⟨RC.sq_of (w.lst e), fun p hp => ?_⟩⟩
  obtain ⟨w2, s2⟩ := w.new (o := .tup us) hp
  exact q _ _ _ s2 w2 ⟨p, us, rfl, upd_same, All.mono s2 h, l⟩
theorem CaX.tupleO {xs : List α} {k : Nat} {p : Addr} (h : ω[k]? = some (Ent.own p (olst K xs))) : CaX (RC.rTupS K) ω ω [adr p] (is K (Tu.mk xs)) := fun G H vs Q w pa q => by
  obtain ⟨v, rfl, rfl⟩ := PArgs.one pa
  obtain ⟨o, e, us, rfl, z, l⟩ := w.ownAt h
  refine ⟨p, us, rfl, .inl ⟨RC.sq_of e, fun b hb => ?_⟩⟩
  obtain ⟨w2, s2⟩ := w.new (o := .tup us) hb
  exact q _ _ _ s2 w2 ⟨b, us, rfl, upd_same, All.mono s2 z, l⟩
theorem Paired.at_ {γ δ : Type} {F : γ → δ → Prop} : ∀ {xs : List γ} {ys : List δ} {i : Nat} {y : δ}, Paired F xs ys → ys[i]? = some y → ∃ x, xs[i]? = some x ∧ F x y
  | _, _, _, _, .nil, h => by simp at h
  | _, _, 0, _, .cons r _, h => by
    cases (Option.some.inj (show some _ = some _ from h))
    exact ⟨_, rfl, r⟩
  | _, _, i + 1, _, .cons _ t, h => Paired.at_ (i := i) t (by simpa using h)
theorem All.atI {G : Hp} {vs : List V} {xs : List α} {i : Int} {x : α} (h : All K G vs xs) (e : atI xs i = some x) : ∃ v, L2.atI vs i = some v ∧ Rp.rep K G v x := by
  unfold L2.atI at e ⊢
  rw [Paired.len h]
  cases z : ixN xs.length i with
  | none =>
    rw [z] at e
    cases e
  | some j =>
    rw [z] at e
    exact Paired.at_ h e
theorem OpX.ixL {xs : List α} {i : Int} {x : α} (e : atI xs i = some x) : OpX (rIxL K) ω ω (is K xs) (is K i) (is K x) := fun G H u v Q w p1 p2 q => by
  obtain ⟨a, us, rfl, ea, h, _⟩ := p1
  cases p2
  obtain ⟨v, ev, hv⟩ := All.atI h e
  exact ⟨a, us, i, v, rfl, rfl, RC.sq_of (w.lst ea), ev, q v G H (Le.refl _) w hv⟩
theorem OpX.ixO {xs : List α} {i : Int} {x : α} {k : Nat} {p : Addr} (h : ω[k]? = some (Ent.own p (olst K xs))) (e : atI xs i = some x) : OpX (rIxL K) ω ω (adr p) (is K i) (is K x) := fun G H u v Q w p1 p2 q => by
  cases p1
  cases p2
  obtain ⟨o, eo, us, rfl, z, _⟩ := w.ownAt h
  obtain ⟨v, ev, hv⟩ := All.atI z e
  exact ⟨p, us, i, v, rfl, rfl, RC.sq_of eo, ev, q v G H (Le.refl _) w hv⟩
theorem OpX.ixT {xs : Tu α} {i : Int} {x : α} (e : atI xs.l i = some x) : OpX (rIxT K) ω ω (is K xs) (is K i) (is K x) := fun G H u v Q w p1 p2 q => by
  obtain ⟨a, us, rfl, ea, h, _⟩ := p1
  cases p2
  obtain ⟨v, ev, hv⟩ := All.atI h e
  exact ⟨a, us, i, v, rfl, rfl, RC.st_of (w.tup ea), ev, q v G H (Le.refl _) w hv⟩
theorem OpX.fst {x : α} {y : β} : OpX (rIxT K) ω ω (is K (x, y)) (is K (0 : Int)) (is K x) := fun G H u v Q w p1 p2 q => by
  obtain ⟨a, u, v, rfl, ea, h, _⟩ := p1
  cases p2
  exact ⟨a, _, 0, u, rfl, rfl, RC.st_of (w.tup ea), rfl, q u G H (Le.refl _) w h⟩
theorem OpX.snd {x : α} {y : β} : OpX (rIxT K) ω ω (is K (x, y)) (is K (1 : Int)) (is K y) := fun G H u v Q w p1 p2 q => by
  obtain ⟨a, u, v, rfl, ea, _, h⟩ := p1
  cases p2
  exact ⟨a, _, 1, v, rfl, rfl, RC.st_of (w.tup ea), rfl, q v G H (Le.refl _) w h⟩
theorem ints_of {G : Hp} : ∀ {vs : List V} {ns : List Int}, All K G vs ns → vs = ns.map V.int
  | _, _, .nil => rfl
  | _, _, .cons r t => by rw [show _ = V.int _ from r, ints_of t]; rfl
theorem CaX.sum {ns : List Int} : CaX (rSum K) ω ω [is K ns] (is K ns.sum) := fun G H vs Q w p q => by
  obtain ⟨v, rfl, a, us, rfl, e, h, l⟩ := PArgs.one p
  exact ⟨a, ns, rfl, by rw [← ints_of h]; exact RC.sq_of (w.lst e), q _ G H (Le.refl _) w rfl⟩
theorem CaX.sumO {ns : List Int} {k : Nat} {p : Addr} (h : ω[k]? = some (Ent.own p (olst K ns))) : CaX (rSum K) ω ω [adr p] (is K ns.sum) := fun G H vs Q w pa q => by
  obtain ⟨v, rfl, rfl⟩ := PArgs.one pa
  obtain ⟨o, e, us, rfl, z, l⟩ := w.ownAt h
  exact ⟨p, ns, rfl, by rw [← ints_of z]; exact RC.sq_of e, q _ G H (Le.refl _) w rfl⟩
/-- a slice of a list -/
def cut (xs : List α) (lo hi : Option Int) : List α := (xs.drop (HT.sIx xs.length 0 lo)).take (HT.sIx xs.length xs.length hi - HT.sIx xs.length 0 lo)
theorem Paired.drop' {γ δ : Type} {F : γ → δ → Prop} : ∀ {xs : List γ} {ys : List δ} (n : Nat), Paired F xs ys → Paired F (xs.drop n) (ys.drop n)
  | _, _, 0, h => h
  | _, _, n + 1, .nil => .nil
  | _, _, n + 1, .cons _ t => Paired.drop' n t
theorem Paired.take' {γ δ : Type} {F : γ → δ → Prop} : ∀ {xs : List γ} {ys : List δ} (n : Nat), Paired F xs ys → Paired F (xs.take n) (ys.take n)
  | _, _, 0, h => .nil
  | _, _, n + 1, .nil => .nil
  | _, _, n + 1, .cons r t => .cons r (Paired.take' n t)
theorem Paired.app' {γ δ : Type} {F : γ → δ → Prop} : ∀ {xs xs' : List γ} {ys ys' : List δ}, Paired F xs ys → Paired F xs' ys' → Paired F (xs ++ xs') (ys ++ ys')
  | _, _, _, _, .nil, h => h
  | _, _, _, _, .cons r t, h => .cons r (Paired.app' t h)
theorem Paired.rev' {γ δ : Type} {F : γ → δ → Prop} : ∀ {xs : List γ} {ys : List δ}, Paired F xs ys → Paired F xs.reverse ys.reverse
  | _, _, .nil => .nil
  | _, _, .cons r t => by rw [List.reverse_cons, List.reverse_cons]; exact Paired.app' (Paired.rev' t) (.cons r .nil)
theorem cut_len (xs : List α) (lo hi : Option Int) : (cut xs lo hi).length ≤ xs.length := by
  unfold cut
  rw [List.length_take, List.length_drop]
  omega
theorem All.cut {G : Hp} {vs : List V} {xs : List α} {lo hi : Option Int} (h : All K G vs xs) : All K G (cutV vs lo hi) (cut xs lo hi) := by
  unfold cutV Lf.cut
  rw [Paired.len h]
  exact Paired.take' _ (Paired.drop' _ h)
theorem EvO.none : EvO tNoPart Γ ω ω none := fun σ G H Q r w q => q G H (Le.refl _) w
theorem EvO.some {i : Int} (h : EvX te Γ ω ω1 (is K i)) : EvO (tPart te) Γ ω ω1 (some i) := fun σ G H Q r w q => h σ G H _ r w fun v G2 H2 s w2 p => ⟨i, p, q G2 H2 s w2⟩
theorem EvF.slL {xs : List α} {tl th : TO} {lo hi : Option Int} (h : EvX te Γ ω ω1 (is K xs)) (h1 : EvO tl Γ ω1 ω2 lo) (h2 : EvO th Γ ω2 ω3 hi) : EvF (tSl (rSlL K) te tl th) Γ ω ω3 (olst K (cut xs lo hi)) := fun σ G H Q r w q =>
  h σ G H _ r w fun v G1 H1 s1 w1 p1 => h1 σ G1 H1 _ (r.mono s1) w1 fun G2 H2 s2 w2 => h2 σ G2 H2 _ (r.mono (s1.trans s2)) w2 fun G3 H3 s3 w3 => by
    obtain ⟨a, us, rfl, e, ha, l⟩ := (is K xs).mono (s2.trans s3) p1
    exact ⟨a, us, rfl, RC.sq_of (w3.lst e), fun p hp => q p G3 _ (s1.trans (s2.trans s3)) (newL w3 hp (All.cut ha) (Nat.le_trans (cut_len _ _ _) l))⟩
theorem EvF.slO {xs : List α} {tl th : TO} {lo hi : Option Int} {k : Nat} {p : Addr} (h : EvX te Γ ω ω1 (adr p)) (h1 : EvO tl Γ ω1 ω2 lo) (h2 : EvO th Γ ω2 ω3 hi) (ho : ω3[k]? = some (Ent.own p (olst K xs))) : EvF (tSl (rSlL K) te tl th) Γ ω ω3 (olst K (cut xs lo hi)) := fun σ G H Q r w q =>
  h σ G H _ r w fun v G1 H1 s1 w1 p1 => h1 σ G1 H1 _ (r.mono s1) w1 fun G2 H2 s2 w2 => h2 σ G2 H2 _ (r.mono (s1.trans s2)) w2 fun G3 H3 s3 w3 => by
    cases p1
    obtain ⟨o, e, us, rfl, z, l⟩ := w3.ownAt ho
    exact ⟨p, us, rfl, RC.sq_of e, fun p hp => q p G3 _ (s1.trans (s2.trans s3)) (newL w3 hp (All.cut z) (Nat.le_trans (cut_len _ _ _) l))⟩
theorem EvF.slS {xs : Sc} {tl th : TO} {lo hi : Option Int} (h : EvX te Γ ω ω1 (is K xs)) (h1 : EvO tl Γ ω1 ω2 lo) (h2 : EvO th Γ ω2 ω3 hi) (hl : xs.l.length ≤ 63) : EvF (tSl (rSlL K) te tl th) Γ ω ω3 (olst K (cut xs.l lo hi)) := fun σ G H Q r w q =>
  h σ G H _ r w fun v G1 H1 s1 w1 p1 => h1 σ G1 H1 _ (r.mono s1) w1 fun G2 H2 s2 w2 => h2 σ G2 H2 _ (r.mono (s1.trans s2)) w2 fun G3 H3 s3 w3 => by
    obtain ⟨a, rfl, e⟩ := (is K xs).mono (s2.trans s3) p1
    have e' : SqL K H3 a (xs.l.map V.int) := by
      rcases e with (e | ⟨o, e⟩) | e
      · exact .inl (.inl (w3.lst e))
      · exact .inl (.inr ⟨o, w3.get e⟩)
      · exact .inr e
    have ha : All K G3 (xs.l.map V.int) xs.l := by
      generalize xs.l = l
      induction l with
      | nil => exact .nil
      | cons z l ih => exact .cons rfl ih
    exact ⟨a, _, rfl, e', fun p hp => q p G3 _ (s1.trans (s2.trans s3)) (newL w3 hp (All.cut ha) (Nat.le_trans (cut_len _ _ _) (Nat.le_trans hl (by decide))))⟩
theorem EvF.rev {xs : List α} (h : EvX te Γ ω ω1 (is K xs)) : EvF (tRevL K te) Γ ω ω1 (olst K xs.reverse) := fun σ G H Q r w q => h σ G H _ r w fun v G1 H1 s1 w1 p1 => by
  obtain ⟨a, us, rfl, e, ha, l⟩ := p1
  exact ⟨a, us, rfl, RC.sq_of (w1.lst e), fun p hp => q p G1 _ s1 (newL w1 hp (Paired.rev' ha) (by rw [List.length_reverse]; exact l))⟩
theorem EvF.revO {xs : List α} {k : Nat} {p : Addr} (h : EvX te Γ ω ω1 (adr p)) (ho : ω1[k]? = some (Ent.own p (olst K xs))) : EvF (tRevL K te) Γ ω ω1 (olst K xs.reverse) := fun σ G H Q r w q => h σ G H _ r w fun v G1 H1 s1 w1 p1 => by
  cases p1
  obtain ⟨o, e, us, rfl, z, l⟩ := w1.ownAt ho
  exact ⟨p, us, rfl, RC.sq_of e, fun p hp => q p G1 _ s1 (newL w1 hp (Paired.rev' z) (by rw [List.length_reverse]; exact l))⟩
/-- xs + ys, where it is not too long -/
def cat (xs ys : List α) : Option (List α) := if xs.length + ys.length ≤ sizeLine then some (xs ++ ys) else none
theorem OpF.cat {xs ys zs : List α} (e : Lf.cat xs ys = some zs) : OpF rCat ω ω (is K xs) (is K ys) (olst K zs) := fun G H u v Q w p1 p2 q => by
  obtain ⟨a, us, rfl, ea, ha, _⟩ := p1
  obtain ⟨b, vs, rfl, eb, hb, _⟩ := p2
  unfold Lf.cat at e
  split at e
  · rename_i c
    cases e
    refine ⟨a, b, us, vs, rfl, rfl, w.lst ea, w.lst eb, by rw [Paired.len ha, Paired.len hb]; exact c, fun p hp => q p G _ (Le.refl _) (newL w hp (Paired.app' ha hb) (by rw [List.length_append]; exact c))⟩
  · cases e
def rep (xs : List α) (k : Int) : Option (List α) := if -(2 ^ 62) ≤ k ∧ k < 2 ^ 62 ∧ xs.length * k.toNat ≤ sizeLine then some (List.replicate k.toNat xs).flatten else none
theorem Paired.flat {γ δ : Type} {F : γ → δ → Prop} {xs : List γ} {ys : List δ} (h : Paired F xs ys) : ∀ n : Nat, Paired F (List.replicate n xs).flatten (List.replicate n ys).flatten
  | 0 => .nil
  | n + 1 => by
    rw [List.replicate_succ, List.replicate_succ, List.flatten_cons, List.flatten_cons]
    exact Paired.app' h (Paired.flat h n)
theorem flat_len {γ : Type} (xs : List γ) (n : Nat) : (List.replicate n xs).flatten.length = xs.length * n := by
  induction n with
  | zero => simp
  | succ n ih =>
    rw [List.replicate_succ, List.flatten_cons, List.length_append, ih, Nat.mul_succ]
    omega
theorem OpF.rep {xs zs : List α} {k : Int} (e : Lf.rep xs k = some zs) : OpF rRep ω ω (is K xs) (is K k) (olst K zs) := fun G H u v Q w p1 p2 q => by
  obtain ⟨a, us, rfl, ea, ha, _⟩ := p1
  cases p2
  unfold Lf.rep at e
  split at e
  · rename_i c
    cases e
    obtain ⟨c1, c2, c3⟩ := c
    refine ⟨a, k, us, rfl, rfl, w.lst ea, by omega, by omega, by rw [Paired.len ha]; exact c3, fun p hp => q p G _ (Le.refl _) (newL w hp (Paired.flat ha _) (by rw [flat_len]; exact c3))⟩
  · cases e
end
end Lf
/-! ## Readings told by plain data: blocks -/
namespace Lf
open PySem PySem.Spec PyProof.Rows L2
open PySem.W (Frag)
open He (ga)
/-- what is wished of an error -/
def PostE (K : Frag) (W : WX) (ωe : List Ent) (G : Hp) (x : Exn) : Prop := ∀ (σ : L2.St) (d : Addr) (v : V) (G2 H2 : Hp), Le G G2 → At G2 ωe H2 → G2 d = some (.xd [(("value" : Str), v)]) → Rp.rep K G2 v x.val → W (.ref (ga K x.cls)) (some d) σ H2
/-- what a def gives back: a value, or a new list or dict that is the caller's own -/
inductive RS where
  | val (m : MP) (ω : List Ent) | own (φ : OC) (ω : List Ent)
  /-- a new object with a new list in it; None, the object at p filled so -/
  | obj (φ : OC) (C : Addr) (fs : Addr → List (Str × MP)) (ω : List Ent)
  | ini (p : Addr) (φ : OC) (C : Addr) (fs : Addr → List (Str × MP)) (ω : List Ent)
def RS.om : RS → List Ent
  | .val _ ω => ω
  | .own _ ω => ω
  | .obj _ _ _ ω => ω
  | .ini _ _ _ _ ω => ω
def RetQ (Q : VK) (G : Hp) : RS → Prop
  | .val m ω => ∀ (v : V) (G2 H2 : Hp), Le G G2 → At G2 ω H2 → m.p G2 v → Q v H2
  | .own φ ω => ∀ (p : Addr) (G2 H2 : Hp), Le G G2 → At G2 (.own p φ :: ω) H2 → Q (.ref p) H2
  | .obj φ C fs ω => ∀ (p q : Addr) (G2 H2 : Hp), Le G G2 → At G2 (.own q φ :: .own p (oins C (fs q)) :: ω) H2 → Q (.ref p) H2
  | .ini p φ C fs ω => ∀ (q : Addr) (G2 H2 : Hp), Le G G2 → At G2 (.own q φ :: .own p (oins C (fs q)) :: ω) H2 → Q .non H2
def RetPost (D : Ends) (G : Hp) (p : RS) : Prop := RetQ D.rt G p
def NxPost (D : Ends) (G : Hp) (p : Gm × List Ent) : Prop := ∀ (σ : L2.St) (G2 H2 : Hp), Le G G2 → Reps G2 σ p.1 → At G2 p.2 H2 → D.nx σ H2
structure ZF (K : Frag) (W : WX) (ωe : List Ent) (X : Type) where
  z : Res X → Ends → Hp → Prop
  mono : ∀ {m : Res X} {D : Ends} {G G2 : Hp}, Le G G2 → z m D G → z m D G2
  nobad : ∀ {D : Ends} {G : Hp}, ¬ z .bad D G
  err : ∀ {x : Exn} {D : Ends} {G : Hp}, z (.err x) D G → PostE K W ωe G x
section
variable {K : Frag} {W : WX} {ωe : List Ent} {X R S T : Type}
theorem PostE.mono {G G2 : Hp} {x : Exn} (s : Le G G2) (h : PostE K W ωe G x) : PostE K W ωe G2 x := fun σ d v G3 H3 s3 => h σ d v G3 H3 (s.trans s3)
theorem RetQ.mono {Q : VK} {G G2 : Hp} {p : RS} (s : Le G G2) (h : RetQ Q G p) : RetQ Q G2 p := by
  cases p with
  | val m ω => exact fun v G3 H3 s3 => h v G3 H3 (s.trans s3)
  | own φ ω => exact fun v G3 H3 s3 => h v G3 H3 (s.trans s3)
  | obj φ C fs ω => exact fun p q G3 H3 s3 => h p q G3 H3 (s.trans s3)
  | ini p φ C fs ω => exact fun q G3 H3 s3 => h q G3 H3 (s.trans s3)
theorem RetPost.mono {D : Ends} {G G2 : Hp} {p : RS} (s : Le G G2) (h : RetPost D G p) : RetPost D G2 p := RetQ.mono s h
theorem NxPost.mono {D : Ends} {G G2 : Hp} {p : Gm × List Ent} (s : Le G G2) (h : NxPost D G p) : NxPost D G2 p := fun v G3 H3 s3 => h v G3 H3 (s.trans s3)
/-- a block that returns (or, with e, falls off the def's end) -/
def zR (K : Frag) (W : WX) (ωe : List Ent) (e : Bool) (fr : R → RS) : ZF K W ωe R where
  z m D G := m ≠ .bad ∧ (∀ r, m = .ok r → RetPost D G (fr r)) ∧ (∀ x, m = .err x → PostE K W ωe G x) ∧ (e = true → ∀ σ H, D.rt .non H → D.nx σ H)
  mono s h := ⟨h.1, fun r e => (h.2.1 r e).mono s, fun x e => (h.2.2.1 x e).mono s, h.2.2.2⟩
  nobad h := h.1 rfl
  err h := h.2.2.1 _ rfl
/-- a block that is left below -/
def zN (K : Frag) (W : WX) (ωe : List Ent) (fn : S → Gm × List Ent) : ZF K W ωe S where
  z m D G := m ≠ .bad ∧ (∀ r, m = .ok r → NxPost D G (fn r)) ∧ ∀ x, m = .err x → PostE K W ωe G x
  mono s h := ⟨h.1, fun r e => (h.2.1 r e).mono s, fun x e => (h.2.2 x e).mono s⟩
  nobad h := h.1 rfl
  err h := h.2.2 _ rfl
/-- a block that is left below or returns -/
def zC (K : Frag) (W : WX) (ωe : List Ent) (fn : S → Gm × List Ent) (fr : R → RS) : ZF K W ωe (Ctl S R) where
  z m D G := m ≠ .bad ∧ (∀ s, m = .ok (.nx s) → NxPost D G (fn s)) ∧ (∀ r, m = .ok (.rt r) → RetPost D G (fr r)) ∧ ∀ x, m = .err x → PostE K W ωe G x
  mono s h := ⟨h.1, fun r e => (h.2.1 r e).mono s, fun r e => (h.2.2.1 r e).mono s, fun x e => (h.2.2.2 x e).mono s⟩
  nobad h := h.1 rfl
  err h := h.2.2.2 _ rfl
def Go (ts : TS) (Γ : Gm) (ω : List Ent) (Z : ZF K W ωe X) (m : Res X) : Prop := ∀ (σ : L2.St) (G H : Hp) (D : Ends), Reps G σ Γ → At G ω H → Z.z m D G → ts D σ H
/-- less is one's own: the last made are let go -/
def Dr (ω ω' : List Ent) : Prop := ∃ pre, ω = pre ++ ω'
theorem Dr.refl (ω : List Ent) : Dr ω ω := ⟨[], rfl⟩
theorem Dr.drop {ω ω' : List Ent} {p : Addr} {φ : OC} (h : Dr ω ω') : Dr (.own p φ :: ω) ω' := by
  obtain ⟨pre, e⟩ := h
  exact ⟨.own p φ :: pre, by rw [e]; rfl⟩
theorem Dr.under {ω ω' : List Ent} {e : Ent} {G H : Hp} (h : Dr ω ω') (w : At G (e :: ω) H) : At G (e :: ω') H := by
  obtain ⟨pre, rfl⟩ := h
  have up : ∀ i : Nat, (pre ++ ω')[i + pre.length]? = ω'[i]? := fun i => by
    rw [List.getElem?_append_right (Nat.le_add_left _ _), Nat.add_sub_cancel]
  refine w.sub (fun i => match i with | 0 => 0 | i + 1 => i + pre.length + 1) (fun i x hx => ?_) fun i j x x' hi hj z => ?_
  · cases i with
    | zero => exact hx
    | succ i =>
      show (pre ++ ω')[i + pre.length]? = some x
      rw [up]
      exact hx
  · cases i with
    | zero =>
      cases j with
      | zero => rfl
      | succ j =>
        have z' : 0 = j + pre.length + 1 := z
        omega
    | succ i =>
      cases j with
      | zero =>
        have z' : i + pre.length + 1 = 0 := z
        omega
      | succ j =>
        have z' : i + pre.length + 1 = j + pre.length + 1 := z
        omega
theorem Dr.at {ω ω' : List Ent} {G H : Hp} (h : Dr ω ω') (w : At G ω H) : At G ω' H := by
  obtain ⟨pre, rfl⟩ := h
  have up : ∀ i : Nat, (pre ++ ω')[i + pre.length]? = ω'[i]? := fun i => by
    rw [List.getElem?_append_right (Nat.le_add_left _ _), Nat.add_sub_cancel]
  exact w.sub (fun i => i + pre.length) (fun i x hx => by rw [up]; exact hx) fun i j x x' hi hj z => by omega
variable {Γ Γ' : Gm} {ω ω1 ω2 ω3 : List Ent} {Z : ZF K W ωe X} {t u ts : TS} {te ta tb : TE} {tt : TT} {m m' : MP} {fr : R → RS} {fn : S → Gm × List Ent} {φ : OC}
theorem Go.req {β : Type} {o : Option β} {k : β → Res X} (h : ∀ y, o = some y → Go ts Γ ω Z (k y)) : Go ts Γ ω Z (Res.req o k) := by
  cases o with
  | none => exact fun σ G H D _ _ z => absurd z Z.nobad
  | some y => exact h y rfl
theorem Go.ite {c : Bool} {m1 m2 : Res X} (h1 : c = true → Go ts Γ ω Z m1) (h2 : c = false → Go ts Γ ω Z m2) : Go ts Γ ω Z (if c then m1 else m2) := by
  cases c with
  | true => exact h1 rfl
  | false => exact h2 rfl
theorem Go.same {x y : Res X} (h : Go ts Γ ω Z x) (e : y = x) : Go ts Γ ω Z y := e ▸ h
theorem Go.weak {x : Res X} (h : Go ts Γ' ω1 Z x) (s : Sub Γ Γ') (d : Dr ω ω1) : Go ts Γ ω Z x := fun σ G H D r w z => h σ G H D (r.sub s) (d.at w) z
theorem Go.ret {e : Bool} {r : R} (h : EvX te Γ ω ω1 m) (hf : fr r = .val m ω2) (d : Dr ω1 ω2) : Go (tRet te) Γ ω (zR K W ωe e fr) (.ok r) := fun σ G H D rp w z => h σ G H _ rp w fun v G2 H2 s w2 p => by
  have q := z.2.1 r rfl
  rw [hf] at q
  exact q v G2 H2 s (d.at w2) p
theorem Go.retC {r : R} (h : EvX te Γ ω ω1 m) (hf : fr r = .val m ω2) (d : Dr ω1 ω2) : Go (tRet te) Γ ω (zC K W ωe fn fr) (.ok (.rt r)) := fun σ G H D rp w z => h σ G H _ rp w fun v G2 H2 s w2 p => by
  have q := z.2.2.1 r rfl
  rw [hf] at q
  exact q v G2 H2 s (d.at w2) p
/-- a new list or dict is handed out -/
theorem Go.retF {e : Bool} {r : R} (h : EvF te Γ ω ω1 φ) (hf : fr r = .own φ ω2) (d : Dr ω1 ω2) : Go (tRet te) Γ ω (zR K W ωe e fr) (.ok r) := fun σ G H D rp w z => h σ G H _ rp w fun p G2 H2 s w2 => by
  have q := z.2.1 r rfl
  rw [hf] at q
  exact q p G2 H2 s (d.under w2)
/-- one's own is handed out -/
theorem Go.retO {e : Bool} {r : R} {i k : Nat} {p : Addr} (hi : Γ[i]? = some (some (adr p))) (ho : ω[k]? = some (Ent.own p φ)) (hf : fr r = .own φ ω2) (d : Dr (ω.eraseIdx k) ω2) : Go (tRet (tVar i)) Γ ω (zR K W ωe e fr) (.ok r) := fun σ G H D rp w z => by
  have q := z.2.1 r rfl
  rw [hf] at q
  obtain ⟨v, ev, pv⟩ := rp.2 i _ hi
  have pv' : v = .ref p := pv
  subst pv'
  have w2 := w.front ho
  exact ⟨_, ev, q p G H (Le.refl _) (d.under w2)⟩
theorem Go.retN {e : Bool} {r : R} (hf : fr r = .val m ω2) (h : ∀ G, m.p G .non) (d : Dr ω ω2) : Go tRetN Γ ω (zR K W ωe e fr) (.ok r) := fun σ G H D rp w z => by
  have q := z.2.1 r rfl
  rw [hf] at q
  exact q .non G H (Le.refl _) (d.at w) (h G)
theorem Go.fall {r : R} (hf : fr r = .val m ω2) (h : ∀ G, m.p G .non) (d : Dr ω ω2) : Go tNext Γ ω (zR K W ωe true fr) (.ok r) := fun σ G H D rp w z => z.2.2.2 rfl σ H (by
  have q := z.2.1 r rfl
  rw [hf] at q
  exact q .non G H (Le.refl _) (d.at w) (h G))
theorem Go.next {s : S} (a : Sub Γ (fn s).1) (d : Dr ω (fn s).2) : Go tNext Γ ω (zN K W ωe fn) (.ok s) := fun σ G H D rp w z => z.2.1 s rfl σ G H (Le.refl _) (rp.sub a) (d.at w)
theorem Go.nextC {s : S} (a : Sub Γ (fn s).1) (d : Dr ω (fn s).2) : Go tNext Γ ω (zC K W ωe fn fr) (.ok (.nx s)) := fun σ G H D rp w z => z.2.1 s rfl σ G H (Le.refl _) (rp.sub a) (d.at w)
theorem Go.last {x : Res X} (h : Go (tSeq t tNext) Γ ω Z x) : Go t Γ ω Z x := h
theorem Go.asg {i : Nat} {x : Res X} (h : EvX te Γ ω ω1 m) (k : Go u (Γ.set i (some m)) ω1 Z x) : Go (tSeq (tAsg te (gName i)) u) Γ ω Z x := fun σ G H D rp w z => h σ G H _ rp w fun v G2 H2 s w2 p => k (σ.set i (some v)) G2 H2 D ((rp.mono s).set p) w2 (Z.mono s z)
theorem Go.asgF {i : Nat} {x : Res X} (h : EvF te Γ ω ω1 φ) (k : ∀ p, Go u (Γ.set i (some (adr p))) (.own p φ :: ω1) Z x) : Go (tSeq (tAsg te (gName i)) u) Γ ω Z x := fun σ G H D rp w z => h σ G H _ rp w fun p G2 H2 s w2 => k p (σ.set i (some (.ref p))) G2 H2 D ((rp.mono s).set (m := adr p) rfl) w2 (Z.mono s z)
theorem Go.drop {x : Res X} (h : EvX te Γ ω ω1 m) (k : Go u Γ ω1 Z x) : Go (tSeq (tDrop te) u) Γ ω Z x := fun σ G H D rp w z => h σ G H _ rp w fun v G2 H2 s w2 p => k σ G2 H2 D (rp.mono s) w2 (Z.mono s z)
/-- a, b = e1, e2 -/
theorem Go.par {i j : Nat} {tA : TA} {a b : MP} {x : Res X} (h : EvA tA Γ ω ω1 [a, b]) (k : Go u ((Γ.set i (some a)).set j (some b)) ω1 Z x) : Go (tSeq (tPar i j tA) u) Γ ω Z x := fun σ G H D rp w z => h σ G H _ rp w fun vs G2 H2 s w2 p => by
  obtain ⟨v, y, rfl, p1, p2⟩ := PArgs.two p
  exact ⟨v, y, rfl, k _ G2 H2 D (((rp.mono s).set p1).set p2) w2 (Z.mono s z)⟩
theorem Go.ifS {c : Bool} {m1 m2 : Res X} (h : EvT tt Γ ω ω1 c) (h1 : c = true → Go t Γ ω1 Z m1) (h2 : c = false → Go u Γ ω1 Z m2) : Go (tIfS tt t u) Γ ω Z (if c then m1 else m2) := fun σ G H D rp w z => h σ G H _ rp w fun G2 H2 s w2 => by
  cases c with
  | true => exact RC.if_t rfl (h1 rfl σ G2 H2 D (rp.mono s) w2 (Z.mono s z))
  | false => exact RC.if_f rfl (h2 rfl σ G2 H2 D (rp.mono s) w2 (Z.mono s z))
/-- the outcome known: c is what the test comes to, x what is left -/
theorem Go.ifK {c : Bool} {x : Res X} (h : EvT tt Γ ω ω1 c) (h1 : c = true → Go t Γ ω1 Z x) (h2 : c = false → Go u Γ ω1 Z x) : Go (tIfS tt t u) Γ ω Z x := fun σ G H D rp w z => h σ G H _ rp w fun G2 H2 s w2 => by
  cases c with
  | true => exact RC.if_t rfl (h1 rfl σ G2 H2 D (rp.mono s) w2 (Z.mono s z))
  | false => exact RC.if_f rfl (h2 rfl σ G2 H2 D (rp.mono s) w2 (Z.mono s z))
/-- an if that leaves the def, else on -/
theorem Go.ifE {e : Bool} {c : Bool} {m1 m2 : Res R} (h : EvT tt Γ ω ω1 c) (h1 : c = true → Go t Γ ω1 (zR K W ωe false fr) m1) (h2 : c = false → Go u Γ ω1 (zR K W ωe e fr) m2) : Go (tSeq (tIfS tt t tNext) u) Γ ω (zR K W ωe e fr) (if c then m1 else m2) := fun σ G H D rp w z => h σ G H _ rp w fun G2 H2 s w2 => by
  have z2 := (zR K W ωe e fr).mono s z
  cases c with
  | true => exact RC.if_t rfl (h1 rfl σ G2 H2 _ (rp.mono s) w2 ⟨z2.1, z2.2.1, z2.2.2.1, fun q => nomatch q⟩)
  | false => exact RC.if_f rfl (h2 rfl σ G2 H2 D (rp.mono s) w2 z2)
def Res.esc {S R : Type} (m : Res R) : Res (Ctl S R) := Res.bind m fun r => .ok (.rt r)
theorem Go.ifEC {c : Bool} {m1 : Res R} {m2 : Res (Ctl S R)} (h : EvT tt Γ ω ω1 c) (h1 : c = true → Go t Γ ω1 (zR K W ωe false fr) m1) (h2 : c = false → Go u Γ ω1 (zC K W ωe fn fr) m2) : Go (tSeq (tIfS tt t tNext) u) Γ ω (zC K W ωe fn fr) (if c then Res.esc m1 else m2) := fun σ G H D rp w z => h σ G H _ rp w fun G2 H2 s w2 => by
  have z2 := (zC K W ωe fn fr).mono s z
  cases c with
  | true =>
    have z3 : (zC K W ωe fn fr).z (Res.esc m1) D G2 := z2
    refine RC.if_t rfl (h1 rfl σ G2 H2 _ (rp.mono s) w2 ⟨fun q => z3.1 (by rw [q]; rfl), fun r q => z3.2.2.1 r (by rw [q]; rfl), fun x q => z3.2.2.2 x (by rw [q]; rfl), fun q => nomatch q⟩)
  | false => exact RC.if_f rfl (h2 rfl σ G2 H2 D (rp.mono s) w2 z2)
/-- a block that is left below, then the rest -/
theorem Go.seqN {a : Res S} {k : S → Res X} (h : Go t Γ ω (zN K W ωe fn) a) (hk : ∀ s, a = .ok s → Go u (fn s).1 (fn s).2 Z (k s)) : Go (tSeq t u) Γ ω Z (Res.bind a k) := fun σ G H D rp w z => by
  refine h σ G H { D with nx := u D } rp w ⟨fun q => ?_, fun s q σ2 G2 H2 s2 r2 w2 => ?_, fun x q => ?_⟩
  · rw [q] at z
    exact Z.nobad z
  · rw [q] at z
    exact hk s q σ2 G2 H2 D r2 w2 (Z.mono s2 z)
  · rw [q] at z
    exact Z.err z
/-- a block that may return, then the rest -/
theorem Go.seqR {e : Bool} {a : Res (Ctl S R)} {k : S → Res R} (h : Go t Γ ω (zC K W ωe fn fr) a) (hk : ∀ s, a = .ok (.nx s) → Go u (fn s).1 (fn s).2 (zR K W ωe e fr) (k s)) : Go (tSeq t u) Γ ω (zR K W ωe e fr) (Res.after a k .ok) := fun σ G H D rp w z => by
  refine h σ G H { D with nx := u D } rp w ⟨fun q => ?_, fun s q σ2 G2 H2 s2 r2 w2 => ?_, fun r q => ?_, fun x q => ?_⟩
  · rw [q] at z
    exact (zR K W ωe e fr).nobad z
  · rw [q] at z
    exact hk s q σ2 G2 H2 D r2 w2 ((zR K W ωe e fr).mono s2 z)
  · rw [q] at z
    exact z.2.1 r rfl
  · rw [q] at z
    exact (zR K W ωe e fr).err z
theorem Go.seqC {T : Type} {fn' : T → Gm × List Ent} {a : Res (Ctl T R)} {k : T → Res (Ctl S R)} (h : Go t Γ ω (zC K W ωe fn' fr) a) (hk : ∀ s, a = .ok (.nx s) → Go u (fn' s).1 (fn' s).2 (zC K W ωe fn fr) (k s)) : Go (tSeq t u) Γ ω (zC K W ωe fn fr) (Res.after a k fun r => .ok (.rt r)) := fun σ G H D rp w z => by
  refine h σ G H { D with nx := u D } rp w ⟨fun q => ?_, fun s q σ2 G2 H2 s2 r2 w2 => ?_, fun r q => ?_, fun x q => ?_⟩
  · rw [q] at z
    exact (zC K W ωe fn fr).nobad z
  · rw [q] at z
    exact hk s q σ2 G2 H2 D r2 w2 ((zC K W ωe fn fr).mono s2 z)
  · rw [q] at z
    exact z.2.2.1 r rfl
  · rw [q] at z
    exact (zC K W ωe fn fr).err z
/-- what is one's own stands still from here on -/
theorem Go.freeze {α : Type} [Rp α] {xs : List α} {p : Addr} {k i : Nat} {x : Res X} (ho : ω[k]? = some (Ent.own p (olst K xs))) (hi : Γ[i]? = some (some (adr p))) (h : Go ts (Γ.set i (some (is K xs))) (ω.eraseIdx k) Z x) : Go ts Γ ω Z x := fun σ G H D rp w z => by
  obtain ⟨o, e, ⟨vs, rfl, hv, l⟩, w3, s3⟩ := (w.front ho).freeze
  obtain ⟨v, ev, pv⟩ := rp.2 i _ hi
  have pv' : v = .ref p := pv
  subst pv'
  have q := (rp.mono s3).set (i := i) (v := .ref p) (m := is K xs) ⟨p, vs, rfl, upd_same, All.mono s3 hv, l⟩
  have es : σ.set i (some (.ref p)) = σ := by
    refine List.ext_getElem? fun j => ?_
    by_cases z : i = j
    · subst z
      rw [ev, List.getElem?_set_self (List.getElem?_eq_some_iff.mp ev).1]
    · rw [List.getElem?_set_ne z]
  rw [es] at q
  exact h σ _ H D q w3 (Z.mono s3 z)
theorem Go.freezeD {α κ : Type} [Rp α] [Kp κ] {xs : Dic κ α} {p : Addr} {k i : Nat} {x : Res X} (ho : ω[k]? = some (Ent.own p (odic K xs))) (hi : Γ[i]? = some (some (adr p))) (h : Go ts (Γ.set i (some (is K xs))) (ω.eraseIdx k) Z x) : Go ts Γ ω Z x := fun σ G H D rp w z => by
  obtain ⟨o, e, ⟨vs, rfl, hv, l⟩, w3, s3⟩ := (w.front ho).freeze
  obtain ⟨v, ev, pv⟩ := rp.2 i _ hi
  have pv' : v = .ref p := pv
  subst pv'
  have q := (rp.mono s3).set (i := i) (v := .ref p) (m := is K xs) ⟨p, vs, rfl, .inl upd_same, AllD.mono s3 hv, l⟩
  have es : σ.set i (some (.ref p)) = σ := by
    refine List.ext_getElem? fun j => ?_
    by_cases z : i = j
    · subst z
      rw [ev, List.getElem?_set_self (List.getElem?_eq_some_iff.mp ev).1]
    · rw [List.getElem?_set_ne z]
  rw [es] at q
  exact h σ _ H D q w3 (Z.mono s3 z)
/-! stores -/
def app {α : Type} (xs : List α) (x : α) : Option (List α) := if xs.length < sizeLine then some (xs ++ [x]) else none
theorem Go.app {α : Type} [Rp α] {xs ys : List α} {y : α} {to : TE} {p : Addr} {k : Nat} {x : Res X} (ht : EvX to Γ ω ω (adr p)) (h0 : ∃ zs : List α, ω[k]? = some (Ent.own p (olst K zs))) (h : EvX te Γ ω ω1 (is K y)) (ho : ω1[k]? = some (Ent.own p (olst K xs))) (e : Lf.app xs y = some ys) (hk : Go u Γ (ω1.set k (.own p (olst K ys))) Z x) :
    Go (tSeq (tDrop (tBM K "list" rAppend to (tCons te tNil))) u) Γ ω Z x := fun σ G H D rp w z => ht σ G H _ rp w fun v G1 H1 s1 w1 p1 => by
  cases p1
  obtain ⟨zs, h0⟩ := h0
  obtain ⟨o, eo, us, rfl, _, _⟩ := w1.ownAt h0
  refine ⟨RC.ty_l eo, h σ G1 H1 _ (rp.mono s1) w1 fun v G2 H2 s2 w2 p2 => ?_⟩
  obtain ⟨o, eo, us, rfl, hu, _⟩ := w2.ownAt ho
  unfold Lf.app at e
  split at e
  · rename_i c
    cases e
    refine ⟨p, us, v, rfl, rfl, eo, by rw [Paired.len hu]; exact c, ?_⟩
    refine hk σ G2 _ D (rp.mono (s1.trans s2)) (w2.put ho ⟨_, rfl, Paired.app' hu (.cons p2 .nil), ?_⟩) (Z.mono (s1.trans s2) z)
    rw [List.length_append]
    exact c
  · cases e
theorem Go.ext {α : Type} [Rp α] {xs ys zs : List α} {to : TE} {p : Addr} {k : Nat} {x : Res X} (ht : EvX to Γ ω ω (adr p)) (h0 : ∃ zs : List α, ω[k]? = some (Ent.own p (olst K zs))) (h : EvX te Γ ω ω1 (is K ys)) (ho : ω1[k]? = some (Ent.own p (olst K xs))) (e : Lf.cat xs ys = some zs) (hk : Go u Γ (ω1.set k (.own p (olst K zs))) Z x) :
    Go (tSeq (tDrop (tBM K "list" rExtend to (tCons te tNil))) u) Γ ω Z x := fun σ G H D rp w z => ht σ G H _ rp w fun v G1 H1 s1 w1 p1 => by
  cases p1
  obtain ⟨zs', h0⟩ := h0
  obtain ⟨o, eo, us, rfl, _, _⟩ := w1.ownAt h0
  refine ⟨RC.ty_l eo, h σ G1 H1 _ (rp.mono s1) w1 fun v G2 H2 s2 w2 p2 => ?_⟩
  obtain ⟨o, eo, us, rfl, hu, _⟩ := w2.ownAt ho
  obtain ⟨b, vs, rfl, eb, hb, _⟩ := p2
  unfold Lf.cat at e
  split at e
  · rename_i c
    cases e
    refine ⟨p, b, us, vs, rfl, rfl, eo, w2.lst eb, by rw [Paired.len hu, Paired.len hb]; exact c, ?_⟩
    refine hk σ G2 _ D (rp.mono (s1.trans s2)) (w2.put ho ⟨_, rfl, Paired.app' hu hb, ?_⟩) (Z.mono (s1.trans s2) z)
    rw [List.length_append]
    exact c
  · cases e
/-- xs[i] = e -/
def setAt {α : Type} (xs : List α) (i : Int) (x : α) : Option (List α) := (ixN xs.length i).map fun j => xs.set j x
theorem Paired.set' {γ δ : Type} {F : γ → δ → Prop} {x : γ} {y : δ} (f : F x y) : ∀ {xs : List γ} {ys : List δ} (i : Nat), Paired F xs ys → Paired F (xs.set i x) (ys.set i y)
  | _, _, _, .nil => .nil
  | _, _, 0, .cons _ t => .cons f t
  | _, _, i + 1, .cons r t => .cons r (Paired.set' f i t)
theorem Go.setL {α : Type} [Rp α] {xs ys : List α} {y : α} {to ti : TE} {p : Addr} {k : Nat} {i : Int} {x : Res X} (h : EvX te Γ ω ω1 (is K y)) (ht : EvX to Γ ω1 ω1 (adr p)) (hi : EvX ti Γ ω1 ω1 (is K i)) (ho : ω1[k]? = some (Ent.own p (olst K xs))) (e : setAt xs i y = some ys) (hk : Go u Γ (ω1.set k (.own p (olst K ys))) Z x) :
    Go (tSeq (tAsg te (gSub to ti rSetL)) u) Γ ω Z x := fun σ G H D rp w z => h σ G H _ rp w fun v G1 H1 s1 w1 p1 => ht σ G1 H1 _ (rp.mono s1) w1 fun v2 G2 H2 s2 w2 p2 => hi σ G2 H2 _ (rp.mono (s1.trans s2)) w2 fun v3 G3 H3 s3 w3 p3 => by
  cases p2
  cases p3
  obtain ⟨o, eo, us, rfl, hu, l⟩ := w3.ownAt ho
  unfold setAt at e
  cases hj : ixN xs.length i with
  | none =>
    rw [hj] at e
    cases e
  | some j =>
    rw [hj] at e
    cases e
    refine ⟨p, us, i, j, rfl, rfl, eo, by rw [Paired.len hu]; exact hj, ?_⟩
    have s := s1.trans (s2.trans s3)
    exact hk σ G3 _ D (rp.mono s) (w3.put ho ⟨_, rfl, Paired.set' (F := fun (v : V) (x : α) => Rp.rep K G3 v x) ((is K y).mono (s2.trans s3) p1) j hu, by rw [List.length_set]; exact l⟩) (Z.mono s z)
/-! ## loops -/
/-- what an iterator gives: the items of xs, while P holds of what is one's own -/
structure WalkX {α : Type} [Rp α] (K : Frag) (G0 : Hp) (P : List Ent → Prop) (J : It) (xs : List α) : Prop where
  len : xs.length ≤ sizeLine
  go : ∀ (G : Hp) (ω : List Ent) (H : Hp) (i : Nat), Le G0 G → At G ω H → P ω → i < xs.length → J.go i H
  stop : ∀ (G : Hp) (ω : List Ent) (H : Hp), Le G0 G → At G ω H → P ω → J.stop xs.length H
  yld : ∀ (G : Hp) (ω : List Ent) (H : Hp) (i : Nat) (x : V) (H' : Hp) (a : α), Le G0 G → At G ω H → P ω → xs[i]? = some a → J.yld i H x H' → ∃ G', Le G G' ∧ At G' ω H' ∧ Rp.rep K G' x a
def IterX {α : Type} [Rp α] (K : Frag) (wi : TI) (Γ : Gm) (ω ω1 : List Ent) (P : List Ent → Prop) (xs : List α) : Prop := ∀ (σ : L2.St) (G H : Hp) (R : It → Hp → Prop), Reps G σ Γ → At G ω H → (∀ J G2 H2, Le G G2 → At G2 ω1 H2 → WalkX K G2 P J xs → R J H2) → wi σ H R
def Any : List Ent → Prop := fun _ => True
def TgX {α : Type} [Rp α] (K : Frag) (g : TG) (Γ : Gm) (Γ' : α → Gm) : Prop := ∀ (a : α) (σ : L2.St) (G H : Hp) (ω : List Ent) (v : V) (Q : L2.St → Hp → Prop), Reps G σ Γ → At G ω H → Rp.rep K G v a → (∀ σ', Reps G σ' (Γ' a) → Q σ' H) → g v σ H Q
variable {α β : Type} [Rp α] [Rp β]
theorem TgX.name {i : Nat} : TgX (α := α) K (gName i) Γ fun a => Γ.set i (some (is K a)) := fun a σ G H ω v Q r w p q => q _ (r.set (m := is K a) p)
theorem TgX.pair {g1 g2 : TG} {Γ1 : α → Gm} {Γ2 : α → β → Gm} (h1 : TgX (α := α) K g1 Γ Γ1) (h2 : ∀ a, TgX (α := β) K g2 (Γ1 a) (Γ2 a)) : TgX (α := α × β) K (gTup K 2 (gCons g1 (gCons g2 gNil))) Γ fun ab => Γ2 ab.1 ab.2 := fun ab σ G H ω v Q r w p q => by
  obtain ⟨a, x, y, rfl, e, p1, p2⟩ := p
  exact ⟨a, [x, y], rfl, RC.st_of (w.tup e), rfl, x, [y], rfl, h1 ab.1 σ G H ω x _ r w p1 fun σ1 r1 => ⟨y, [], rfl, h2 ab.1 ab.2 σ1 G H ω y _ r1 w p2 fun σ2 r2 => ⟨rfl, q σ2 r2⟩⟩⟩
theorem loop_drop {S R : Type} {fb : S → α → Res (Ctl S R)} {xs : List α} {i : Nat} {a : α} (h : xs[i]? = some a) (s : S) : Res.loop fb (xs.drop i) s = Res.bind (fb s a) fun c => match c with
    | .nx s' => Res.loop fb (xs.drop (i + 1)) s'
    | .rt r => .ok (.rt r) := by
  rw [List.drop_eq_getElem_cons (List.getElem?_eq_some_iff.mp h).1, (List.getElem?_eq_some_iff.mp h).2]
  rfl
theorem fold_drop {S : Type} {fb : S → α → Res S} {xs : List α} {i : Nat} {a : α} (h : xs[i]? = some a) (s : S) : Res.fold fb (xs.drop i) s = Res.bind (fb s a) (Res.fold fb (xs.drop (i + 1))) := by
  rw [List.drop_eq_getElem_cons (List.getElem?_eq_some_iff.mp h).1, (List.getElem?_eq_some_iff.mp h).2]
  rfl
/-- a for that is never left -/
theorem Go.forN {wi : TI} {g : TG} {P : List Ent → Prop} {xs : List α} {fb : S → α → Res S} {s0 : S} {Γb : S → α → Gm} (hi : IterX K wi Γ ω ω1 P xs) (h0 : Sub Γ (fn s0).1) (d0 : Dr ω1 (fn s0).2) (hP : ∀ s, P (fn s).2) (ht : ∀ s, TgX K g (fn s).1 (Γb s)) (hb : ∀ s a, Go tbs (Γb s a) (fn s).2 (zN K W ωe fn) (fb s a)) :
    Go (tFor wi g tbs) Γ ω (zN K W ωe fn) (Res.fold fb xs s0) := fun σ G H D rp w z => hi σ G H _ rp w fun J G2 H2 s2 w2 wk => by
  refine ⟨fun i m σ' H' => m = xs.length - i ∧ i ≤ xs.length ∧ ∃ s G', Le G2 G' ∧ Reps G' σ' (fn s).1 ∧ At G' (fn s).2 H' ∧ Res.fold fb (xs.drop i) s = Res.fold fb xs s0, ⟨xs.length, by simp, Nat.zero_le _, s0, G2, Le.refl _, (rp.mono s2).sub h0, d0.at w2, rfl⟩, ?_⟩
  rintro i m σ' H' ⟨rfl, hle, s, G', sG, r', w', ef⟩
  by_cases hlt : i < xs.length
  · have hx : xs[i]? = some xs[i] := List.getElem?_eq_getElem hlt
    rw [fold_drop hx] at ef
    refine .inr ⟨wk.go G' _ H' i sG w' (hP s) hlt, fun σ3 H3 => ∃ s3 G3, Le G2 G3 ∧ Reps G3 σ3 (fn s3).1 ∧ At G3 (fn s3).2 H3 ∧ Res.fold fb (xs.drop (i + 1)) s3 = Res.fold fb xs s0, fun σ3 H3 q => ⟨xs.length - (i + 1), by omega, rfl, hlt, q⟩, fun x H3 y => ?_⟩
    obtain ⟨G3, s3, w3, px⟩ := wk.yld G' _ H' i x H3 _ sG w' (hP s) hx y
    refine ht s _ σ' G3 H3 _ x _ (r'.mono s3) w3 px fun σ4 r4 => ?_
    refine hb s _ σ4 G3 H3 _ r4 w3 ⟨fun q => ?_, fun s5 q σ5 G5 H5 s5' r5 w5 => ?_, fun e q => ?_⟩
    · rw [q] at ef
      exact z.1 ef.symm
    · rw [q] at ef
      exact ⟨s5, G5, sG.trans (s3.trans s5'), r5, w5, ef⟩
    · rw [q] at ef
      exact PostE.mono (s2.trans (sG.trans s3)) (z.2.2 e ef.symm)
  · have e : i = xs.length := by omega
    subst e
    rw [List.drop_length] at ef
    exact .inl ⟨wk.stop G' _ H' sG w' (hP s), z.2.1 s ef.symm σ' G' H' (s2.trans sG) r' w'⟩
/-- a for that may be left by a return -/
theorem Go.forC {wi : TI} {g : TG} {P : List Ent → Prop} {xs : List α} {fb : S → α → Res (Ctl S R)} {s0 : S} {Γb : S → α → Gm} (hi : IterX K wi Γ ω ω1 P xs) (h0 : Sub Γ (fn s0).1) (d0 : Dr ω1 (fn s0).2) (hP : ∀ s, P (fn s).2) (ht : ∀ s, TgX K g (fn s).1 (Γb s)) (hb : ∀ s a, Go tbs (Γb s a) (fn s).2 (zC K W ωe fn fr) (fb s a)) :
    Go (tFor wi g tbs) Γ ω (zC K W ωe fn fr) (Res.loop fb xs s0) := fun σ G H D rp w z => hi σ G H _ rp w fun J G2 H2 s2 w2 wk => by
  refine ⟨fun i m σ' H' => m = xs.length - i ∧ i ≤ xs.length ∧ ∃ s G', Le G2 G' ∧ Reps G' σ' (fn s).1 ∧ At G' (fn s).2 H' ∧ Res.loop fb (xs.drop i) s = Res.loop fb xs s0, ⟨xs.length, by simp, Nat.zero_le _, s0, G2, Le.refl _, (rp.mono s2).sub h0, d0.at w2, rfl⟩, ?_⟩
  rintro i m σ' H' ⟨rfl, hle, s, G', sG, r', w', ef⟩
  by_cases hlt : i < xs.length
  · have hx : xs[i]? = some xs[i] := List.getElem?_eq_getElem hlt
    rw [loop_drop hx] at ef
    refine .inr ⟨wk.go G' _ H' i sG w' (hP s) hlt, fun σ3 H3 => ∃ s3 G3, Le G2 G3 ∧ Reps G3 σ3 (fn s3).1 ∧ At G3 (fn s3).2 H3 ∧ Res.loop fb (xs.drop (i + 1)) s3 = Res.loop fb xs s0, fun σ3 H3 q => ⟨xs.length - (i + 1), by omega, rfl, hlt, q⟩, fun x H3 y => ?_⟩
    obtain ⟨G3, s3, w3, px⟩ := wk.yld G' _ H' i x H3 _ sG w' (hP s) hx y
    refine ht s _ σ' G3 H3 _ x _ (r'.mono s3) w3 px fun σ4 r4 => ?_
    refine hb s _ σ4 G3 H3 _ r4 w3 ⟨fun q => ?_, fun s5 q σ5 G5 H5 s5' r5 w5 => ?_, fun r5 q => ?_, fun e q => ?_⟩
    · rw [q] at ef
      exact z.1 ef.symm
    · rw [q] at ef
      exact ⟨s5, G5, sG.trans (s3.trans s5'), r5, w5, ef⟩
    · rw [q] at ef
      exact RetPost.mono (s2.trans (sG.trans s3)) (z.2.2.1 r5 ef.symm)
    · rw [q] at ef
      exact PostE.mono (s2.trans (sG.trans s3)) (z.2.2.2 e ef.symm)
  · have e : i = xs.length := by omega
    subst e
    rw [List.drop_length] at ef
    exact .inl ⟨wk.stop G' _ H' sG w' (hP s), z.2.1 s ef.symm σ' G' H' (s2.trans sG) r' w'⟩
/-! what is walked -/
def irng (lo hi : Int) : Option (List Int) := if -(2 ^ 60) ≤ lo ∧ lo < 2 ^ 60 ∧ -(2 ^ 60) ≤ hi ∧ hi < 2 ^ 60 ∧ (hi - lo).toNat ≤ sizeLine then some ((List.range (hi - lo).toNat).map fun (i : Nat) => lo + (i : Int)) else none
theorem walk_rng {G0 : Hp} {lo : Int} {n : Nat} (hn : n ≤ sizeLine) : WalkX K G0 Any (Itr lo n) ((List.range n).map fun (i : Nat) => lo + (i : Int)) where
  len := by
    rw [List.length_map, List.length_range]
    exact hn
  go := fun G ω H i _ _ _ h => by
    rw [List.length_map, List.length_range] at h
    exact h
  stop := fun G ω H _ _ _ => by
    rw [List.length_map, List.length_range]
    exact Nat.le_refl _
  yld := fun G ω H i x H' a _ w _ h y => by
    obtain ⟨rfl, rfl⟩ := y
    rw [List.getElem?_map] at h
    cases z : (List.range n)[i]? with
    | none =>
      rw [z] at h
      cases h
    | some j =>
      rw [z] at h
      obtain ⟨_, ej⟩ := List.getElem?_eq_some_iff.mp z
      rw [List.getElem_range] at ej
      subst ej
      cases h
      exact ⟨G, Le.refl _, w, rfl⟩
theorem IterX.rng1 {tA : TA} {n : Int} {xs : List Int} (h : EvA tA Γ ω ω1 [is K n]) (e : irng 0 n = some xs) : IterX K (iRng1 tA) Γ ω ω1 Any xs := fun σ G H R r w q => h σ G H _ r w fun vs G1 H1 s1 w1 p1 => by
  obtain ⟨v, rfl, pv⟩ := PArgs.one p1
  cases pv
  unfold irng at e
  split at e
  · rename_i c
    cases e
    have hs : ∀ k : Int, k - 0 = k := fun k => Int.sub_zero k
    rw [hs] at q c
    exact ⟨n, rfl, by omega, by omega, q _ G1 H1 s1 w1 (walk_rng c.2.2.2.2)⟩
  · cases e
theorem IterX.rng2 {tA : TA} {lo n : Int} {xs : List Int} (h : EvA tA Γ ω ω1 [is K lo, is K n]) (e : irng lo n = some xs) : IterX K (iRng2 tA) Γ ω ω1 Any xs := fun σ G H R r w q => h σ G H _ r w fun vs G1 H1 s1 w1 p1 => by
  obtain ⟨v, v', rfl, pv, pv'⟩ := PArgs.two p1
  cases pv
  cases pv'
  unfold irng at e
  split at e
  · rename_i c
    cases e
    exact ⟨lo, n, rfl, by omega, q _ G1 H1 s1 w1 (walk_rng c.2.2.2.2)⟩
  · cases e
theorem walk_list {G0 : Hp} {a : Addr} {vs : List V} {xs : List α} (e : G0 a = some (.lst vs)) (h : All K G0 vs xs) (l : xs.length ≤ sizeLine) : WalkX K G0 Any (Itl K a) xs where
  len := l
  go := fun G ω H i s w _ hi => by
    rw [← Paired.len h] at hi
    exact ⟨vs, vs[i], RC.sq_of (w.lst (s.at e)), List.getElem?_eq_getElem hi⟩
  stop := fun G ω H s w _ => ⟨vs, RC.sq_of (w.lst (s.at e)), Nat.le_of_eq (Paired.len h)⟩
  yld := fun G ω H i x H' b s w _ hb y => by
    obtain ⟨rfl, y⟩ := y
    have q := y vs (RC.sq_of (w.lst (s.at e)))
    obtain ⟨v, ev, pv⟩ := Paired.at_ h hb
    rw [ev] at q
    cases q
    exact ⟨G, Le.refl _, w, Rp.mono s pv⟩
theorem IterX.list {xs : List α} (h : EvX te Γ ω ω1 (is K xs)) : IterX K (iList K te) Γ ω ω1 Any xs := fun σ G H R r w q => h σ G H _ r w fun v G1 H1 s1 w1 p1 => by
  obtain ⟨a, vs, rfl, e, ha, l⟩ := p1
  exact ⟨a, rfl, ⟨vs, RC.sq_of (w1.lst e)⟩, q _ G1 H1 s1 w1 (walk_list e ha l)⟩
theorem walk_tup {G0 : Hp} {a : Addr} {vs : List V} {xs : List α} (e : G0 a = some (.tup vs)) (h : All K G0 vs xs) (l : xs.length ≤ sizeLine) : WalkX K G0 Any (Itt K a) xs where
  len := l
  go := fun G ω H i s w _ hi => by
    rw [← Paired.len h] at hi
    exact ⟨vs, vs[i], RC.st_of (w.tup (s.at e)), List.getElem?_eq_getElem hi⟩
  stop := fun G ω H s w _ => ⟨vs, RC.st_of (w.tup (s.at e)), Nat.le_of_eq (Paired.len h)⟩
  yld := fun G ω H i x H' b s w _ hb y => by
    obtain ⟨rfl, y⟩ := y
    have q := y vs (RC.st_of (w.tup (s.at e)))
    obtain ⟨v, ev, pv⟩ := Paired.at_ h hb
    rw [ev] at q
    cases q
    exact ⟨G, Le.refl _, w, Rp.mono s pv⟩
theorem IterX.tup {xs : Tu α} (h : EvX te Γ ω ω1 (is K xs)) : IterX K (iTup K te) Γ ω ω1 Any xs.l := fun σ G H R r w q => h σ G H _ r w fun v G1 H1 s1 w1 p1 => by
  obtain ⟨a, vs, rfl, e, ha, l⟩ := p1
  exact ⟨a, rfl, ⟨vs, RC.st_of (w1.tup e)⟩, q _ G1 H1 s1 w1 (walk_tup e ha l)⟩
end
end Lf
/-! ## Readings told by plain data: calls, objects, comprehensions, comparisons of data -/
namespace Lf
open PySem PySem.Spec PyProof.Rows L2
open PySem.W (Frag)
open He (ga)
/-! ### what a def promises, by its mirror -/
def Says {R : Type} (K : Frag) (G : Hp) (ωe : List Ent) (m : Res R) (fo : R → RS) (Q : VK) (E : XK) : Prop :=
  m ≠ .bad ∧ (∀ r, m = .ok r → RetQ Q G (fo r)) ∧ ∀ x, m = .err x → PostE K (fun c d _ H => E c d H) ωe G x
/-- the use of such a promise -/
def SpR {R : Type} (K : Frag) (sp : Sp) (E : XK) (ms : List MP) (ω ωe : List Ent) (m : Res R) (fo : R → RS) : Prop := ∀ (G H : Hp) (vs : List V) (Q : VK), PArgs G vs ms → At G ω H → Says K G ωe m fo Q E → sp vs H Q E
section
variable {K : Frag} {W : WX} {E : XK} {ωe : List Ent} {X R S T : Type} {Γ Γ' : Gm} {ω ω1 ω2 ω3 : List Ent} {Z : ZF K W ωe X} {t u ts : TS} {te ta tb : TE} {tt : TT} {a b m : MP} {fr : R → RS} {fn : S → Gm × List Ent} {φ : OC} {sp : Sp} {tA : TA} {ms : List MP} {fo : R → RS}
theorem reps_start {N : List Str} {G : Hp} {vs : List V} {ms : List MP} (h : PArgs G vs ms) : Reps G (L2.start N vs) (ms.map some ++ List.replicate (N.length - ms.length) none) := by
  unfold L2.start
  have l := h.len
  refine ⟨by rw [List.length_append, List.length_append, List.length_map, List.length_map, List.length_replicate, List.length_replicate, l], fun i m e => ?_⟩
  by_cases hi : i < ms.length
  · rw [List.getElem?_append_left (by rw [List.length_map]; exact hi), List.getElem?_map] at e
    cases z : ms[i]? with
    | none =>
      rw [z] at e
      cases e
    | some m' =>
      rw [z] at e
      cases e
      obtain ⟨v, ev, pv⟩ := Paired.at_ (show Paired (fun (v : V) (m : MP) => m.p G v) vs ms from h) z
      refine ⟨v, ?_, pv⟩
      rw [List.getElem?_append_left (by rw [List.length_map, l]; exact hi), List.getElem?_map, ev]
      rfl
  · rw [List.getElem?_append_right (by rw [List.length_map]; omega)] at e
    have := List.mem_of_getElem? e
    cases List.eq_of_mem_replicate this
theorem Go.fin {N : List Str} {G H : Hp} {vs : List V} {Q : VK} {mr : Res R} {t : TS} (h : Go t Γ ω (zR K (fun c d _ H => E c d H) ωe true fo) mr) (pa : PArgs G vs ms) (e : Γ = ms.map some ++ List.replicate (N.length - ms.length) none) (w : At G ω H) (s : Says K G ωe mr fo Q E) :
    t { nx := fun _ H' => Q .non H', rt := Q } (L2.start N vs) H := by
  subst e
  exact h _ G H _ (reps_start pa) w ⟨s.1, s.2.1, s.2.2, fun _ _ _ q => q⟩
/-! ### calls -/
theorem Says.ok' {mr : Res R} {r : R} {G : Hp} {Q : VK} (e : mr = .ok r) (q : RetQ Q G (fo r)) : Says K G ωe mr fo Q E := ⟨fun z => (by rw [e] at z; cases z), fun r' e' => by
  rw [e] at e'
  cases e'
  exact q, fun x e' => by
  rw [e] at e'
  cases e'⟩
theorem EvX.call {mr : Res R} {r : R} (h : EvA tA Γ ω ω1 ms) (hs : SpR K sp E ms ω1 ωe mr fo) (e : mr = .ok r) (hf : fo r = .val m ω2) : EvX (tCall sp [] E tA) Γ ω ω2 m := fun σ G H Q rp w q => h σ G H _ rp w fun vs G2 H2 s2 w2 p2 => by
  show sp (vs ++ []) H2 Q E
  rw [List.append_nil]
  exact hs G2 H2 vs Q p2 w2 (Says.ok' e (by rw [hf]; exact fun v G3 H3 s3 w3 p3 => q v G3 H3 (s2.trans s3) w3 p3))
theorem EvF.call {mr : Res R} {r : R} (h : EvA tA Γ ω ω1 ms) (hs : SpR K sp E ms ω1 ωe mr fo) (e : mr = .ok r) (hf : fo r = .own φ ω2) : EvF (tCall sp [] E tA) Γ ω ω2 φ := fun σ G H Q rp w q => h σ G H _ rp w fun vs G2 H2 s2 w2 p2 => by
  show sp (vs ++ []) H2 Q E
  rw [List.append_nil]
  exact hs G2 H2 vs Q p2 w2 (Says.ok' e (by rw [hf]; exact fun p G3 H3 s3 w3 => q p G3 H3 (s2.trans s3) w3))
theorem Go.callK {mr : Res R} {D : Ends} {G G2 H2 : Hp} {vs : List V} {Q : VK} {x : R → Res X} {Z : ZF K (fun c d _ H => E c d H) ωe X} (hs : SpR K sp E ms ω1 ω1 mr fo) (hd : Dr ω1 ωe) (s2 : Le G G2) (w2 : At G2 ω1 H2) (p2 : PArgs G2 vs ms) (z : Z.z (Res.bind mr x) D G)
    (q : ∀ r, mr = .ok r → RetQ Q G2 (fo r)) : sp vs H2 Q E :=
  hs G2 H2 vs Q p2 w2 ⟨fun e => by
    rw [e] at z
    exact Z.nobad z, q, fun y e => by
    rw [e] at z
    exact fun σ' d v G3 H3 s3 w3 => Z.err z σ' d v G3 H3 (s2.trans s3) (hd.at w3)⟩
/-- what is left where a value is not wanted -/
theorem RetQ.lose {Q : VK} {G : Hp} {r : RS} (q : ∀ (v : V) (G2 H2 : Hp), Le G G2 → At G2 r.om H2 → Q v H2) : RetQ Q G r := by
  cases r with
  | val m ω => exact fun v G2 H2 s w _ => q v G2 H2 s w
  | own φ ω => exact fun p G2 H2 s w => q (.ref p) G2 H2 s w.drop
  | obj φ C fs ω => exact fun p x G2 H2 s w => q (.ref p) G2 H2 s w.drop.drop
  | ini p φ C fs ω => exact fun x G2 H2 s w => q .non G2 H2 s w.drop.drop
/-- f(..) alone -/
theorem Go.dropCall {mr : Res R} {x : R → Res X} {Z : ZF K (fun c d _ H => E c d H) ωe X} (h : EvA tA Γ ω ω1 ms) (hs : SpR K sp E ms ω1 ω1 mr fo) (hd : Dr ω1 ωe) (k : ∀ r, mr = .ok r → Go u Γ (fo r).om Z (x r)) : Go (tSeq (tDrop (tCall sp [] E tA)) u) Γ ω Z (Res.bind mr x) := fun σ G H D rp w z => h σ G H _ rp w fun vs G2 H2 s2 w2 p2 => by
  show sp (vs ++ []) H2 _ E
  rw [List.append_nil]
  exact Go.callK hs hd s2 w2 p2 z fun r e => RetQ.lose fun v G3 H3 s3 w3 => k r e σ G3 H3 D (rp.mono (s2.trans s3)) w3 (Z.mono (s2.trans s3) (by rw [e] at z; exact z))
/-- x = f(..) -/
theorem Go.asgCall {mr : Res R} {i : Nat} {x : R → Res X} {f1 : R → MP} {f2 : R → List Ent} {Z : ZF K (fun c d _ H => E c d H) ωe X} (h : EvA tA Γ ω ω1 ms) (hs : SpR K sp E ms ω1 ω1 mr fo) (hd : Dr ω1 ωe) (hf : ∀ r, fo r = .val (f1 r) (f2 r)) (k : ∀ r, mr = .ok r → Go u (Γ.set i (some (f1 r))) (f2 r) Z (x r)) : Go (tSeq (tAsg (tCall sp [] E tA) (gName i)) u) Γ ω Z (Res.bind mr x) := fun σ G H D rp w z => h σ G H _ rp w fun vs G2 H2 s2 w2 p2 => by
  show sp (vs ++ []) H2 _ E
  rw [List.append_nil]
  exact Go.callK hs hd s2 w2 p2 z fun r e => by
    rw [hf]
    exact fun v G3 H3 s3 w3 p3 => k r e (σ.set i (some v)) G3 H3 D ((rp.mono (s2.trans s3)).set p3) w3 (Z.mono (s2.trans s3) (by rw [e] at z; exact z))
theorem res_bind_ok {α : Type} (m : Res α) : Res.bind m .ok = m := by cases m <;> rfl
/-- return f(..) -/
theorem Go.retCall {mr : Res R} {e0 : Bool} (h : EvA tA Γ ω ω1 ms) (hs : SpR K sp E ms ω1 ω1 mr fo) (hd : Dr ω1 ωe) (hf : ∀ Q G r, RetQ Q G (fr r) → RetQ Q G (fo r)) : Go (tRet (tCall sp [] E tA)) Γ ω (zR K (fun c d _ H => E c d H) ωe e0 fr) mr := fun σ G H D rp w z => h σ G H _ rp w fun vs G2 H2 s2 w2 p2 => by
  show sp (vs ++ []) H2 _ E
  rw [List.append_nil]
  exact Go.callK (D := D) (x := Res.ok) (Z := zR K (fun c d _ H => E c d H) ωe e0 fr) hs hd s2 w2 p2 (by rw [res_bind_ok]; exact z) fun r e => hf _ _ _ ((z.2.1 r e).mono s2)
/-! ### objects -/
theorem lookup_out {m : Str} : ∀ {fs : List (Str × V)} {ns : List Str}, fs.map (·.1) = ns → ns.contains m = false → fs.lookup m = none
  | [], _, _, _ => rfl
  | (g, v) :: fs, _, rfl, h => by
    have h' : (m == g || (fs.map (·.1)).contains m) = false := by simpa [List.contains_cons] using h
    rw [Bool.or_eq_false_iff] at h'
    show (match m == g with | true => some v | false => List.lookup m fs) = none
    rw [h'.1]
    exact lookup_out rfl h'.2
/-- plain data that stand for instances of a class -/
class Ob (α : Type) extends Rp α where
  cls : Str
  fl : List Str
  at_ : ∀ {K : Frag} {G : Hp} {v : V} {x : α}, Rp.rep K G v x → ∃ p dx fs, v = .ref p ∧ G p = some (.ins (ga K cls) dx fs) ∧ fs.map (·.1) = fl
/-- an object or one's own object, at the heap -/
def InsAt (K : Frag) (ω : List Ent) (a : MP) (c : Str) (fl : List Str) : Prop := ∀ (G H : Hp) (v : V), At G ω H → a.p G v → ∃ p dx fs, v = .ref p ∧ H p = some (.ins (ga K c) dx fs) ∧ fs.map (·.1) = fl
theorem InsAt.of {α : Type} [o : Ob α] {x : α} : InsAt K ω (is K x) o.cls o.fl := fun G H v w p => by
  obtain ⟨q, dx, fs, e, h, l⟩ := o.at_ p
  exact ⟨q, dx, fs, e, w.get h, l⟩
theorem InsAt.own {k : Nat} {p : Addr} {c : Str} {ms : List (Str × MP)} (h : ω[k]? = some (Ent.own p (oins (ga K c) ms))) : InsAt K ω (adr p) c (ms.map (·.1)) := fun G H v w e => by
  obtain ⟨o, eo, dx, fs, rfl, hp⟩ := w.ownAt h
  refine ⟨p, dx, fs, e, eo, ?_⟩
  clear eo h
  induction hp with
  | nil => rfl
  | cons r t ih => rw [List.map_cons, List.map_cons, ih, r.1]
/-- o.m(..) -/
theorem meth_run {c : Str} {mn : Str} {fl : List Str} {tA : TA} (ha : EvX ta Γ ω ω1 a) (hi : InsAt K ω1 a c fl) (hn : fl.contains mn = false) (h : EvA tA Γ ω1 ω2 ms) {σ : L2.St} {G H : Hp} (rp : Reps G σ Γ) (w : At G ω H) {Q : VK}
    (q : ∀ vs G2 H2, Le G G2 → At G2 ω2 H2 → PArgs G2 vs (a :: ms) → sp vs H2 Q E) : tMeth (ga K c) mn sp [] E ta tA σ H Q := ha σ G H _ rp w fun v G1 H1 s1 w1 p1 => by
  obtain ⟨p, dx, fs, rfl, e, l⟩ := hi G1 H1 v w1 p1
  refine ⟨p, dx, fs, rfl, e, lookup_out l hn, h σ G1 H1 _ (rp.mono s1) w1 fun vs G2 H2 s2 w2 p2 => ?_⟩
  show sp (V.ref p :: (vs ++ [])) H2 Q E
  rw [List.append_nil]
  exact q _ G2 H2 (s1.trans s2) w2 (.cons (a.mono s2 p1) p2)
theorem EvX.meth {c : Str} {mn : Str} {fl : List Str} {mr : Res R} {r : R} (ha : EvX ta Γ ω ω1 a) (hi : InsAt K ω1 a c fl) (hn : fl.contains mn = false) (h : EvA tA Γ ω1 ω2 ms) (hs : SpR K sp E (a :: ms) ω2 ωe mr fo) (e : mr = .ok r) (hf : fo r = .val m ω3) : EvX (tMeth (ga K c) mn sp [] E ta tA) Γ ω ω3 m := fun σ G H Q rp w q =>
  meth_run ha hi hn h rp w fun vs G2 H2 s2 w2 p2 => hs G2 H2 vs Q p2 w2 (Says.ok' e (by rw [hf]; exact fun v G3 H3 s3 w3 p3 => q v G3 H3 (s2.trans s3) w3 p3))
theorem EvF.meth {c : Str} {mn : Str} {fl : List Str} {mr : Res R} {r : R} (ha : EvX ta Γ ω ω1 a) (hi : InsAt K ω1 a c fl) (hn : fl.contains mn = false) (h : EvA tA Γ ω1 ω2 ms) (hs : SpR K sp E (a :: ms) ω2 ωe mr fo) (e : mr = .ok r) (hf : fo r = .own φ ω3) : EvF (tMeth (ga K c) mn sp [] E ta tA) Γ ω ω3 φ := fun σ G H Q rp w q =>
  meth_run ha hi hn h rp w fun vs G2 H2 s2 w2 p2 => hs G2 H2 vs Q p2 w2 (Says.ok' e (by rw [hf]; exact fun p G3 H3 s3 w3 => q p G3 H3 (s2.trans s3) w3))
theorem Go.dropMeth {c : Str} {mn : Str} {fl : List Str} {mr : Res R} {x : R → Res X} {Z : ZF K (fun c d _ H => E c d H) ωe X} (ha : EvX ta Γ ω ω1 a) (hi : InsAt K ω1 a c fl) (hn : fl.contains mn = false) (h : EvA tA Γ ω1 ω2 ms) (hs : SpR K sp E (a :: ms) ω2 ω2 mr fo) (hd : Dr ω2 ωe) (k : ∀ r, mr = .ok r → Go u Γ (fo r).om Z (x r)) : Go (tSeq (tDrop (tMeth (ga K c) mn sp [] E ta tA)) u) Γ ω Z (Res.bind mr x) := fun σ G H D rp w z =>
  meth_run ha hi hn h rp w fun vs G2 H2 s2 w2 p2 => Go.callK hs hd s2 w2 p2 z fun r e => RetQ.lose fun v G3 H3 s3 w3 => k r e σ G3 H3 D (rp.mono (s2.trans s3)) w3 (Z.mono (s2.trans s3) (by rw [e] at z; exact z))
theorem Go.asgMeth {c : Str} {mn : Str} {fl : List Str} {mr : Res R} {i : Nat} {x : R → Res X} {f1 : R → MP} {f2 : R → List Ent} {Z : ZF K (fun c d _ H => E c d H) ωe X} (ha : EvX ta Γ ω ω1 a) (hi : InsAt K ω1 a c fl) (hn : fl.contains mn = false) (h : EvA tA Γ ω1 ω2 ms) (hs : SpR K sp E (a :: ms) ω2 ω2 mr fo) (hd : Dr ω2 ωe) (hf : ∀ r, fo r = .val (f1 r) (f2 r)) (k : ∀ r, mr = .ok r → Go u (Γ.set i (some (f1 r))) (f2 r) Z (x r)) : Go (tSeq (tAsg (tMeth (ga K c) mn sp [] E ta tA) (gName i)) u) Γ ω Z (Res.bind mr x) := fun σ G H D rp w z =>
  meth_run ha hi hn h rp w fun vs G2 H2 s2 w2 p2 => Go.callK hs hd s2 w2 p2 z fun r e => by
    rw [hf]
    exact fun v G3 H3 s3 w3 p3 => k r e (σ.set i (some v)) G3 H3 D ((rp.mono (s2.trans s3)).set p3) w3 (Z.mono (s2.trans s3) (by rw [e] at z; exact z))
/-- o.f -/
def FldOf {α β : Type} [Rp α] [Rp β] (K : Frag) (c f : Str) (x : α) (y : β) : Prop := ∀ (G : Hp) (v : V), Rp.rep K G v x → ∃ p dx fs z, v = .ref p ∧ G p = some (.ins (ga K c) dx fs) ∧ fs.lookup f = some z ∧ Rp.rep K G z y
theorem EvX.fld {α β : Type} [Rp α] [Rp β] {c f : Str} {x : α} {y : β} (h : EvX ta Γ ω ω1 (is K x)) (hf : FldOf K c f x y) (cl : Cls K (ga K c)) (na : NoAttr K (ga K c) f) : EvX (tFld K ta f) Γ ω ω1 (is K y) := fun σ G H Q rp w q => h σ G H _ rp w fun v G1 H1 s1 w1 p1 => by
  obtain ⟨p, dx, fs, z, rfl, e, l, hz⟩ := hf G1 v p1
  exact ⟨p, _, dx, fs, z, rfl, w1.get e, cl, na, l, q z G1 H1 s1 w1 hz⟩
theorem lookup_paired {G : Hp} {f : Str} {m : MP} : ∀ {fs : List (Str × V)} {ms : List (Str × MP)}, Paired (fun (f : Str × V) (m : Str × MP) => f.1 = m.1 ∧ m.2.p G f.2) fs ms → ms.lookup f = some m → ∃ z, fs.lookup f = some z ∧ m.p G z
  | _, _, .nil, h => by cases h
  | (g, v) :: fs, (g', m') :: ms, .cons r t, h => by
    obtain ⟨e, hv⟩ := r
    have e' : g = g' := e
    subst e'
    have h' : (match f == g with | true => some m' | false => List.lookup f ms) = some m := h
    show ∃ z, (match f == g with | true => some v | false => List.lookup f fs) = some z ∧ m.p G z
    cases q : f == g with
    | true =>
      rw [q] at h'
      cases h'
      exact ⟨v, rfl, hv⟩
    | false =>
      rw [q] at h'
      exact lookup_paired t h'
theorem EvX.fldO {c f : Str} {ms : List (Str × MP)} {k : Nat} {p : Addr} (h : EvX ta Γ ω ω1 (adr p)) (ho : ω1[k]? = some (Ent.own p (oins (ga K c) ms))) (l : ms.lookup f = some m) (cl : Cls K (ga K c)) (na : NoAttr K (ga K c) f) : EvX (tFld K ta f) Γ ω ω1 m := fun σ G H Q rp w q => h σ G H _ rp w fun v G1 H1 s1 w1 p1 => by
  cases p1
  obtain ⟨o, eo, dx, fs, rfl, hp⟩ := w1.ownAt ho
  obtain ⟨z, lz, hz⟩ := lookup_paired hp l
  exact ⟨p, _, dx, fs, z, rfl, eo, cl, na, lz, q z G1 H1 s1 w1 hz⟩
/-- o.f = e, o one's own -/
def putM (f : Str) (m : MP) : List (Str × MP) → List (Str × MP)
  | [] => [(f, m)]
  | (g, x) :: r => if g = f then (g, m) :: r else (g, x) :: putM f m r
theorem put_paired {G : Hp} {f : Str} {m : MP} {y : V} (hy : m.p G y) : ∀ {fs : List (Str × V)} {ms : List (Str × MP)}, Paired (fun (f : Str × V) (m : Str × MP) => f.1 = m.1 ∧ m.2.p G f.2) fs ms → Paired (fun (f : Str × V) (m : Str × MP) => f.1 = m.1 ∧ m.2.p G f.2) (putF f y fs) (putM f m ms)
  | _, _, .nil => .cons ⟨rfl, hy⟩ .nil
  | (g, v) :: fs, (g', m') :: ms, .cons r t => by
    obtain ⟨e, hv⟩ := r
    have e' : g = g' := e
    subst e'
    show Paired _ (if g = f then (g, y) :: fs else (g, v) :: putF f y fs) (if g = f then (g, m) :: ms else (g, m') :: putM f m ms)
    by_cases q : g = f
    · rw [if_pos q, if_pos q]
      exact .cons ⟨rfl, hy⟩ t
    · rw [if_neg q, if_neg q]
      exact .cons ⟨rfl, hv⟩ (put_paired hy t)
theorem Go.setF {c f : Str} {ms ms' : List (Str × MP)} {k : Nat} {p : Addr} {x : Res X} (h : EvX te Γ ω ω1 m) (ha : EvX ta Γ ω1 ω1 (adr p)) (ho : ω1[k]? = some (Ent.own p (oins (ga K c) ms))) (e : putM f m ms = ms') (l : ms.length < 1000) (cl : Cls K (ga K c)) (na : NoAttr K (ga K c) f) (hk : Go u Γ (ω1.set k (.own p (oins (ga K c) ms'))) Z x) :
    Go (tSeq (sFld K ta te f) u) Γ ω Z x := fun σ G H D rp w z => h σ G H _ rp w fun v G1 H1 s1 w1 p1 => ha σ G1 H1 _ (rp.mono s1) w1 fun v2 G2 H2 s2 w2 p2 => by
  cases p2
  obtain ⟨o, eo, dx, fs, rfl, hp⟩ := w2.ownAt ho
  subst e
  refine ⟨p, _, dx, fs, rfl, eo, cl, na, by rw [Paired.len hp]; exact l, ?_⟩
  exact hk σ G2 _ D (rp.mono (s1.trans s2)) (w2.put ho ⟨dx, _, rfl, put_paired (m.mono s2 p1) hp⟩) (Z.mono (s1.trans s2) z)
/-- C(..): what __init__ makes of the new object stands still behind it -/
theorem make_run {c : Str} {f1 : R → MP} {mr : Res R} {Q : VK} {vs : List V} {G1 H1 : Hp} {fl : R → List (Str × MP)} {ωo : R → List Ent} (hs : ∀ x, SpR K sp E (adr x :: ms) (.own x (oins (ga K c) []) :: ω1) ω1 mr fun r => .val (is K ()) (.own x (oins (ga K c) (fl r)) :: ωo r))
    (hm : ∀ r p G o, (oins (ga K c) (fl r)).p G o → G p = some o → (f1 r).p G (.ref p)) (w1 : At G1 ω1 H1) (p1 : PArgs G1 vs ms) (nb : mr ≠ .bad) (ne : ∀ x, mr = .err x → PostE K (fun c d _ H => E c d H) ω1 G1 x)
    (q : ∀ r, mr = .ok r → ∀ (v : V) (G3 H3 : Hp), Le G1 G3 → At G3 (ωo r) H3 → (f1 r).p G3 v → Q v H3) :
    ∀ x dx, H1 x = none → H1 dx = none → dx ≠ x → sp (.ref x :: (vs ++ [])) (upd (upd H1 dx (.own x)) x (.ins (ga K c) dx [])) (fun v H2 => v = .non ∧ Q (.ref x) H2) E := fun x dx hx hdx ne' => by
  rw [List.append_nil]
  obtain ⟨w2, s2⟩ := w1.new (o := .own x) hdx
  have hx2 : upd H1 dx (.own x) x = none := by
    rw [upd_ne (fun z => ne' z.symm)]
    exact hx
  have w3 : At (upd G1 dx (.own x)) (.own x (oins (ga K c) []) :: ω1) (upd (upd H1 dx (.own x)) x (.ins (ga K c) dx [])) := w2.newOwn hx2 ⟨dx, [], rfl, .nil⟩
  refine hs x _ _ _ _ (.cons rfl (PArgs.mono s2 p1)) w3 ⟨nb, fun r e v G3 H3 s3 w3 p3 => ⟨p3, ?_⟩, fun y e => (ne y e).mono s2⟩
  obtain ⟨o, eo, ho, w4, s4⟩ := At.freeze w3
  have so : stl o = o := by
    obtain ⟨_, _, rfl, _⟩ := ho
    rfl
  rw [so] at w4 s4
  exact q r e (.ref x) _ H3 (s2.trans (s3.trans s4)) w4 (hm r x _ o (OC.mono _ s4 ho) upd_same)
theorem EvX.make {c : Str} {f1 : R → MP} {mr : Res R} {r : R} {fl : R → List (Str × MP)} {ωo : R → List Ent} (h : EvA tA Γ ω ω1 ms) (hs : ∀ x, SpR K sp E (adr x :: ms) (.own x (oins (ga K c) []) :: ω1) ω1 mr fun r => .val (is K ()) (.own x (oins (ga K c) (fl r)) :: ωo r))
    (hm : ∀ r p G o, (oins (ga K c) (fl r)).p G o → G p = some o → (f1 r).p G (.ref p)) (e : mr = .ok r) : EvX (tMake (ga K c) sp [] E tA) Γ ω (ωo r) (f1 r) := fun σ G H Q rp w q => h σ G H _ rp w fun vs G1 H1 s1 w1 p1 =>
  make_run hs hm w1 p1 (fun z => (by rw [e] at z; cases z)) (fun x e' => by rw [e] at e'; cases e') fun r' e' v G3 H3 s3 w3 p3 => by
    rw [e] at e'
    cases e'
    exact q v G3 H3 (s1.trans s3) w3 p3
/-! ### comprehensions -/
theorem wipe_get (σ : L2.St) : ∀ (vs : List Nat) (i : Nat), (wipe σ vs)[i]? = if i ∈ vs then (σ[i]?).map (fun _ => none) else σ[i]?
  | [], i => by rw [if_neg (by simp)]; rfl
  | v :: vs, i => by
    show ((wipe σ vs).set v none)[i]? = _
    by_cases z : v = i
    · subst z
      rw [if_pos List.mem_cons_self]
      by_cases l : v < σ.length
      · rw [List.getElem?_set_self (by rw [wipe_length]; exact l), List.getElem?_eq_getElem l]
        rfl
      · rw [List.getElem?_eq_none (by rw [List.length_set, wipe_length]; omega), List.getElem?_eq_none (by omega)]
        rfl
    · rw [List.getElem?_set_ne z, wipe_get σ vs i]
      by_cases y : i ∈ vs
      · rw [if_pos y, if_pos (List.mem_cons_of_mem _ y)]
      · rw [if_neg y, if_neg (fun q => by
          rcases List.mem_cons.mp q with q | q
          · exact z q.symm
          · exact y q)]
theorem wipe_eq {σ σ2 : L2.St} {vs : List Nat} (l : σ2.length = σ.length) (h : ∀ i, i ∉ vs → σ2[i]? = σ[i]?) : wipe σ2 vs = wipe σ vs := by
  refine List.ext_getElem? fun i => ?_
  rw [wipe_get, wipe_get]
  by_cases y : i ∈ vs
  · rw [if_pos y, if_pos y]
    by_cases z : i < σ.length
    · rw [List.getElem?_eq_getElem z, List.getElem?_eq_getElem (by rw [l]; exact z)]
      rfl
    · rw [List.getElem?_eq_none (by omega), List.getElem?_eq_none (by omega)]
  · rw [if_neg y, if_neg y]
    exact h i y
/-- the slots forgotten -/
def wipeG (Γ : Gm) : List Nat → Gm
  | [] => Γ
  | v :: vs => (wipeG Γ vs).set v none
theorem wipeG_len (Γ : Gm) : ∀ vs : List Nat, (wipeG Γ vs).length = Γ.length
  | [] => rfl
  | v :: vs => by
    show ((wipeG Γ vs).set v none).length = _
    rw [List.length_set, wipeG_len Γ vs]
theorem Reps.wipe {G : Hp} {σ : L2.St} {Γ : Gm} (h : Reps G σ Γ) : ∀ vs : List Nat, Reps G (L2.wipe σ vs) (wipeG Γ vs)
  | [] => h
  | v :: vs => by
    have ih := Reps.wipe h vs
    refine ⟨by show ((L2.wipe σ vs).set v none).length = ((wipeG Γ vs).set v none).length; rw [List.length_set, List.length_set, ih.1], fun i m e => ?_⟩
    have e' : ((wipeG Γ vs).set v none)[i]? = some (some m) := e
    by_cases z : v = i
    · subst z
      have l := (List.getElem?_eq_some_iff.mp e').1
      rw [List.length_set] at l
      rw [List.getElem?_set_self l] at e'
      cases (Option.some.inj e')
    · rw [List.getElem?_set_ne z] at e'
      obtain ⟨x, ex, px⟩ := ih.2 i m e'
      exact ⟨x, by show ((L2.wipe σ vs).set v none)[i]? = _; rw [List.getElem?_set_ne z]; exact ex, px⟩
/-- a target that stores within vs alone -/
def TgW {α : Type} [Rp α] (K : Frag) (g : TG) (vs : List Nat) (Γ : Gm) (Γ' : α → Gm) : Prop := ∀ (a : α) (σ : L2.St) (G H : Hp) (ω : List Ent) (v : V) (Q : L2.St → Hp → Prop), Reps G σ Γ → At G ω H → Rp.rep K G v a → (∀ σ', σ'.length = σ.length → (∀ i, i ∉ vs → σ'[i]? = σ[i]?) → Reps G σ' (Γ' a) → Q σ' H) → g v σ H Q
variable {α β γ δ : Type} [Rp α] [Rp β] [Rp γ]
theorem TgW.name {i : Nat} {vs : List Nat} (h : i ∈ vs) : TgW (α := α) K (gName i) vs Γ fun a => Γ.set i (some (is K a)) := fun a σ G H ω v Q r w p q => q _ (by rw [List.length_set]) (fun j hj => List.getElem?_set_ne (fun z => hj (by rw [← z]; exact h))) (r.set (m := is K a) p)
theorem TgW.pair {g1 g2 : TG} {vs : List Nat} {Γ1 : α → Gm} {Γ2 : α → β → Gm} (h1 : TgW (α := α) K g1 vs Γ Γ1) (h2 : ∀ a, TgW (α := β) K g2 vs (Γ1 a) (Γ2 a)) : TgW (α := α × β) K (gTup K 2 (gCons g1 (gCons g2 gNil))) vs Γ fun ab => Γ2 ab.1 ab.2 := fun ab σ G H ω v Q r w p q => by
  obtain ⟨a, x, y, rfl, e, p1, p2⟩ := p
  exact ⟨a, [x, y], rfl, RC.st_of (w.tup e), rfl, x, [y], rfl, h1 ab.1 σ G H ω x _ r w p1 fun σ1 l1 k1 r1 => ⟨y, [], rfl, h2 ab.1 ab.2 σ1 G H ω y _ r1 w p2 fun σ2 l2 k2 r2 => ⟨rfl, q σ2 (l2.trans l1) (fun i hi => (k2 i hi).trans (k1 i hi)) r2⟩⟩⟩
theorem mapO_drop {fb : α → Option (Option δ)} {xs : List α} {i : Nat} {a : α} (h : xs[i]? = some a) : mapO fb (xs.drop i) = match fb a with
    | none => none
    | some none => mapO fb (xs.drop (i + 1))
    | some (some y) => match mapO fb (xs.drop (i + 1)) with
      | none => none
      | some ys => some (y :: ys) := by
  rw [List.drop_eq_getElem_cons (List.getElem?_eq_some_iff.mp h).1, (List.getElem?_eq_some_iff.mp h).2]
  rfl
theorem mapO_len {δ : Type} {fb : α → Option (Option δ)} : ∀ {xs : List α} {ys : List δ}, mapO fb xs = some ys → ys.length ≤ xs.length
  | [], _, h => by
    cases h
    exact Nat.le_refl _
  | x :: xs, ys, h => by
    unfold mapO at h
    split at h
    · cases h
    · have := mapO_len h
      exact Nat.le_succ_of_le this
    · split at h
      · cases h
      · rename_i ys' e
        cases h
        exact Nat.succ_le_succ (mapO_len e)
/-- one turn: the test comes to c; what is kept -/
def Elt (K : Frag) (tt : TT) (te : TE) (Γ : Gm) (ω : List Ent) (o : Option β) : Prop := ∃ c, EvT tt Γ ω ω c ∧ (c = false → o = none) ∧ (c = true → ∃ y, o = some y ∧ EvX te Γ ω ω (is K y))
theorem EvF.lc {wi : TI} {g : TG} {vs : List Nat} {P : List Ent → Prop} {xs : List α} {ys : List β} {fb : α → Option (Option β)} {Γb : α → Gm} (hi : IterX K wi Γ ω ω P xs) (hP : P ω) (hP' : ∀ p φ, P ω → P (.own p φ :: ω)) (ht : TgW K g vs (wipeG Γ vs) Γb) (h : mapO fb xs = some ys)
    (hb : ∀ a o p φ, fb a = some o → Elt K tt te (Γb a) (.own p φ :: ω) o) : EvF (tLc wi g tt te vs) Γ ω ω (olst K ys) := fun σ G H Q rp w q => hi σ G H _ rp w fun J G2 H2 s2 w2 wk D hD => by
  have hl := wk.len
  refine ⟨fun i m H' => m = xs.length - i ∧ i ≤ xs.length ∧ ∃ acc G' ys', Le G2 G' ∧ At G' (.own D (olst K acc) :: ω) H' ∧ acc.length ≤ i ∧ mapO fb (xs.drop i) = some ys' ∧ acc ++ ys' = ys, ⟨xs.length, by simp, Nat.zero_le _, [], G2, ys, Le.refl _, newL w2 hD .nil (Nat.zero_le _), Nat.le_refl _, h, rfl⟩, ?_⟩
  rintro i m H' ⟨rfl, hle, acc, G', ys', sG, w', la, ef, ea⟩
  by_cases hlt : i < xs.length
  · have hx : xs[i]? = some xs[i] := List.getElem?_eq_getElem hlt
    rw [mapO_drop hx] at ef
    refine .inr ⟨wk.go G' _ H' i sG w' (hP' _ _ hP) hlt, fun H3 => ∃ acc G3 ys', Le G2 G3 ∧ At G3 (.own D (olst K acc) :: ω) H3 ∧ acc.length ≤ i + 1 ∧ mapO fb (xs.drop (i + 1)) = some ys' ∧ acc ++ ys' = ys, fun H3 q => ⟨xs.length - (i + 1), by omega, rfl, hlt, q⟩, fun x H3 y => ?_⟩
    obtain ⟨G3, s3, w3, px⟩ := wk.yld G' _ H' i x H3 _ sG w' (hP' _ _ hP) hx y
    have rw0 := (rp.mono (s2.trans (sG.trans s3))).wipe vs
    refine ht _ _ G3 H3 _ x _ rw0 w3 px fun σ4 l4 k4 r4 => ⟨?_, ?_⟩
    · refine (wipe_eq l4 k4).trans (wipe_eq (by rw [wipe_length]) fun i hi => ?_)
      rw [wipe_get, if_neg hi]
    · cases ho : fb xs[i] with
      | none =>
        rw [ho] at ef
        cases ef
      | some o =>
        rw [ho] at ef
        obtain ⟨c, hc, h1, h2⟩ := hb _ o D (olst K acc) ho
        refine hc σ4 G3 H3 _ r4 w3 fun G4 H4 s4 w4 => ?_
        cases c with
        | false =>
          have e := h1 rfl
          subst e
          exact RC.if_f rfl ⟨acc, G4, ys', sG.trans (s3.trans s4), w4, by omega, ef, ea⟩
        | true =>
          obtain ⟨y, e, hy⟩ := h2 rfl
          subst e
          have ef' : (match mapO fb (xs.drop (i + 1)) with | none => none | some ys => some (y :: ys)) = some ys' := ef
          split at ef'
          · cases ef'
          · rename_i ys2 e2
            cases ef'
            refine RC.if_t rfl (hy σ4 G4 H4 _ (r4.mono s4) w4 fun v G5 H5 s5 w5 p5 => ?_)
            obtain ⟨o, eo, us, rfl, hu, _⟩ := w5.ownAt (k := 0) rfl
            have lu := Paired.len hu
            refine ⟨us, eo, by rw [lu]; omega, acc ++ [y], G5, ys2, sG.trans (s3.trans (s4.trans s5)), ?_, by rw [List.length_append]; show acc.length + 1 ≤ _; omega, e2, by rw [List.append_assoc]; exact ea⟩
            have w6 := w5.put (k := 0) (φ' := olst K (acc ++ [y])) rfl ⟨_, rfl, Paired.app' hu (.cons p5 .nil), by rw [List.length_append]; show acc.length + 1 ≤ _; omega⟩
            exact w6
  · have e : i = xs.length := by omega
    subst e
    rw [List.drop_length] at ef
    cases ef
    rw [List.append_nil] at ea
    subst ea
    exact .inl ⟨wk.stop G' _ H' sG w' (hP' _ _ hP), q D G' H' (s2.trans sG) w'⟩
/-! ### == of data -/
class Dat (α : Type) extends Rp α where
  d : α → PyData
  dp : ∀ {K : Frag} {G H : Hp} {ω : List Ent} {v : V} {x : α}, At G ω H → Rp.rep K G v x → Dp K H v (d x)
  lay : ∀ x : α, (d x).canLay0 = true
  deep : Nat
  dep : ∀ x : α, (d x).depth ≤ deep
  dec : DecidableEq α
  eqv : ∀ x y : α, PyData.eqv (d x) (d y) = decide (x = y)
theorem Dat.shaped {α : Type} [t : Dat α] (h : t.deep ≤ 64) (x : α) : SeqAt.shaped (t.d x) = true := by
  unfold SeqAt.shaped
  rw [t.lay x, decide_eq_true (Nat.le_trans (t.dep x) h)]
  rfl
instance : Dat Int where
  d := .int
  dp _ h := by
    cases h
    exact .int _
  lay _ := by simp [PyData.canLay0]
  deep := 0
  dep _ := by simp [PyData.depth]
  dec := inferInstance
  eqv x y := by
    rw [PyData.eqv]
    by_cases h : x = y <;> simp [h]
theorem dpa {α : Type} [t : Dat α] {G H : Hp} (w : At G ω H) : ∀ {vs : List V} {xs : List α}, All K G vs xs → DpAll K H vs (xs.map t.d)
  | _, _, .nil => .nil
  | _, _, .cons r s => .cons (t.dp w r) (dpa w s)
theorem layAll {α : Type} [t : Dat α] : ∀ xs : List α, PyData.canLayAll0 (xs.map t.d) = true
  | [] => by simp [PyData.canLayAll0]
  | x :: xs => by simp [PyData.canLayAll0, t.lay x, layAll xs]
theorem depAll {α : Type} [t : Dat α] : ∀ xs : List α, PyData.depthAll (xs.map t.d) ≤ t.deep
  | [] => by simp [PyData.depthAll]
  | x :: xs => by
    have h1 := depAll xs
    have h2 := t.dep x
    simp only [List.map_cons, PyData.depthAll]
    omega
theorem eqvAll {α : Type} [t : Dat α] [dd : DecidableEq α] : ∀ xs ys : List α, PyData.eqvAll (xs.map t.d) (ys.map t.d) = decide (xs = ys)
  | [], [] => by simp [PyData.eqvAll]
  | [], y :: ys => by simp [PyData.eqvAll]
  | x :: xs, [] => by simp [PyData.eqvAll]
  | x :: xs, y :: ys => by
    rw [List.map_cons, List.map_cons, PyData.eqvAll, eqvAll xs ys, t.eqv]
    by_cases h : x = y
    · subst h
      simp
    · simp [h]
instance {α : Type} [t : Dat α] : Dat (List α) where
  d xs := .list (xs.map t.d)
  dp w h := by
    obtain ⟨a, vs, rfl, e, ha, _⟩ := h
    exact .lst (RC.sq_of (w.lst e)) (dpa w ha)
  lay xs := by
    rw [PyData.canLay0]
    exact layAll xs
  deep := t.deep + 1
  dep xs := by
    rw [PyData.depth]
    exact Nat.succ_le_succ (depAll xs)
  dec := @instDecidableEqList α t.dec
  eqv xs ys := by
    rw [PyData.eqv]
    exact @eqvAll α t t.dec xs ys
instance {α : Type} [t : Dat α] : DecidableEq (Tu α) := fun x y => match x, y with
  | ⟨l⟩, ⟨l'⟩ => match @instDecidableEqList α t.dec l l' with
    | .isTrue h => .isTrue (h ▸ rfl)
    | .isFalse h => .isFalse fun q => h (Tu.mk.inj q)
instance {α : Type} [t : Dat α] : Dat (Tu α) where
  d xs := .tuple (xs.l.map t.d)
  dp w h := by
    obtain ⟨a, vs, rfl, e, ha, _⟩ := h
    exact .tup (RC.st_of (w.tup e)) (dpa w ha)
  lay xs := by
    rw [PyData.canLay0]
    exact layAll xs.l
  deep := t.deep + 1
  dep xs := by
    rw [PyData.depth]
    exact Nat.succ_le_succ (depAll xs.l)
  dec := inferInstance
  eqv xs ys := by
    rw [PyData.eqv]
    have := @eqvAll α t t.dec xs.l ys.l
    rw [this]
    exact decide_eq_decide.mpr ⟨fun h => by cases xs; cases ys; exact congrArg Tu.mk h, fun h => by rw [h]⟩
instance {α β : Type} [t : Dat α] [s : Dat β] : Dat (α × β) where
  d p := .tuple [t.d p.1, s.d p.2]
  dp w h := by
    obtain ⟨a, x, y, rfl, e, h1, h2⟩ := h
    exact .tup (RC.st_of (w.tup e)) (.cons (t.dp w h1) (.cons (s.dp w h2) .nil))
  lay p := by simp [PyData.canLay0, PyData.canLayAll0, t.lay, s.lay]
  deep := max t.deep s.deep + 1
  dep p := by
    have h1 := t.dep p.1
    have h2 := s.dep p.2
    simp only [PyData.depth, PyData.depthAll]
    omega
  dec := @instDecidableEqProd α β t.dec s.dec
  eqv p q := by
    rw [PyData.eqv, PyData.eqvAll, PyData.eqvAll, PyData.eqvAll, t.eqv, s.eqv, Bool.and_true]
    letI := t.dec
    letI := s.dec
    by_cases h1 : p.1 = q.1
    · by_cases h2 : p.2 = q.2
      · rw [decide_eq_true h1, decide_eq_true h2, decide_eq_true (Prod.ext h1 h2)]
        rfl
      · rw [decide_eq_false h2, decide_eq_false (fun z => h2 (congrArg Prod.snd z)), Bool.and_false]
    · rw [decide_eq_false h1, decide_eq_false (fun z => h1 (congrArg Prod.fst z)), Bool.false_and]
theorem OpX.eqD {α : Type} [t : Dat α] [DecidableEq α] {x y : α} (h : t.deep ≤ 64) : OpX (rEqD K) ω ω (is K x) (is K y) (is K (decide (x = y))) := fun G H u v Q w p1 p2 q => by
  refine ⟨t.d x, t.d y, t.dp w p1, t.dp w p2, Dat.shaped h x, Dat.shaped h y, q _ G H (Le.refl _) w ?_⟩
  show V.bl _ = V.bl _
  rw [t.eqv]
  congr
theorem OpX.neD {α : Type} [t : Dat α] [DecidableEq α] {x y : α} (h : t.deep ≤ 64) : OpX (rNeD K) ω ω (is K x) (is K y) (is K (!decide (x = y))) := fun G H u v Q w p1 p2 q => by
  refine ⟨t.d x, t.d y, t.dp w p1, t.dp w p2, Dat.shaped h x, Dat.shaped h y, q _ G H (Le.refl _) w ?_⟩
  show V.bl _ = V.bl _
  rw [t.eqv]
  congr
/-- one's own list compared -/
theorem OpX.eqO {α : Type} [t : Dat α] [DecidableEq α] {x y : List α} {k : Nat} {p : Addr} (ho : ω[k]? = some (Ent.own p (olst K x))) (h : t.deep ≤ 63) : OpX (rEqD K) ω ω (adr p) (is K y) (is K (decide (x = y))) := fun G H u v Q w p1 p2 q => by
  cases p1
  obtain ⟨o, eo, us, rfl, hu, _⟩ := w.ownAt ho
  have hd : Dat.deep (List α) ≤ 64 := Nat.succ_le_succ h
  refine ⟨Dat.d x, Dat.d y, .lst (RC.sq_of eo) (dpa w hu), Dat.dp w p2, Dat.shaped hd x, Dat.shaped hd y, q _ G H (Le.refl _) w ?_⟩
  show V.bl _ = V.bl _
  rw [Dat.eqv]
  congr
theorem OpX.neO {α : Type} [t : Dat α] [DecidableEq α] {x y : List α} {k : Nat} {p : Addr} (ho : ω[k]? = some (Ent.own p (olst K x))) (h : t.deep ≤ 63) : OpX (rNeD K) ω ω (adr p) (is K y) (is K (!decide (x = y))) := fun G H u v Q w p1 p2 q => by
  cases p1
  obtain ⟨o, eo, us, rfl, hu, _⟩ := w.ownAt ho
  have hd : Dat.deep (List α) ≤ 64 := Nat.succ_le_succ h
  refine ⟨Dat.d x, Dat.d y, .lst (RC.sq_of eo) (dpa w hu), Dat.dp w p2, Dat.shaped hd x, Dat.shaped hd y, q _ G H (Le.refl _) w ?_⟩
  show V.bl _ = V.bl _
  rw [Dat.eqv]
  congr
end
end Lf
/-! ## Readings told by plain data: the rest -/
namespace Lf
open PySem PySem.Spec PyProof.Rows L2
open PySem.W (Frag)
open He (ga)
section
variable {K : Frag} {W : WX} {E : XK} {ωe : List Ent} {X R S T : Type} {Γ Γ' : Gm} {ω ω1 ω2 ω3 : List Ent} {Z : ZF K W ωe X} {t u ts : TS} {te ta tb tc : TE} {tt uu : TT} {a b m : MP} {fr : R → RS} {fn : S → Gm × List Ent} {φ : OC} {sp : Sp} {tA : TA} {ms : List MP} {fo : R → RS} {α β : Type} [Rp α] [Rp β]
theorem passF {P : Program} {w : World} {X : Cx} : Passes (L2.CX P w) X (fun _ _ _ => False) := fun _ _ _ _ _ _ _ h => by
  obtain ⟨a, B, H', cls, d, _, _, _, _, _, _, _, q⟩ := h
  exact q.elim
theorem val_ok {m : Res R} {r : R} (h : Res.val m = some r) : m = .ok r := by
  cases m with
  | ok a => cases h; rfl
  | err e => cases h
  | bad => cases h
theorem set_same {ω : List Ent} {k : Nat} {e : Ent} (h : ω[k]? = some e) : ω.set k e = ω := by
  refine List.ext_getElem? fun i => ?_
  by_cases z : k = i
  · subst z
    rw [List.getElem?_set_self (List.getElem?_eq_some_iff.mp h).1, h]
  · rw [List.getElem?_set_ne z]
theorem Says.front {mr : Res R} {G : Hp} {Q : VK} {p : Addr} {φ : OC} {φ' : R → OC} {f1 : R → MP} {k : Nat} (ho : ω[k]? = some (Ent.own p φ)) (s : Says K G ω mr (fun r => .val (f1 r) (ω.set k (.own p (φ' r)))) Q E) : Says K G (.own p φ :: ω.eraseIdx k) mr (fun r => .val (f1 r) (.own p (φ' r) :: ω.eraseIdx k)) Q E := by
  refine ⟨s.1, fun r e v G2 H2 s2 w2 p2 => s.2.1 r e v G2 H2 s2 (At.back w2 ho) p2, fun x e σ d v G2 H2 s2 w2 => s.2.2 x e σ d v G2 H2 s2 ?_⟩
  have := At.back w2 ho
  rw [set_same ho] at this
  exact this
/-! conditional values -/
class NN (α : Type) extends Rp α where
  nn : ∀ {K : Frag} {H : Hp} {v : V} {x : α}, Rp.rep K H v x → v ≠ .non
instance : NN Int := { nn := fun h z => by rw [z] at h; cases h }
instance : NN Bool := { nn := fun h z => by rw [z] at h; cases h }
instance : NN Str := { nn := fun h z => by rw [z] at h; cases h }
instance {α : Type} [Rp α] : NN (List α) := { nn := fun ⟨_, _, e, _⟩ z => by rw [z] at e; cases e }
instance {α : Type} [Rp α] : NN (Tu α) := { nn := fun ⟨_, _, e, _⟩ z => by rw [z] at e; cases e }
instance {α β : Type} [Rp α] [Rp β] : NN (α × β) := { nn := fun ⟨_, _, _, e, _⟩ z => by rw [z] at e; cases e }
theorem EvX.opt {α : Type} [n : NN α] {x : α} (h : EvX te Γ ω ω1 (is K x)) : EvX te Γ ω ω1 (is K (some x)) := h.as fun _ _ p => ⟨p, n.nn p⟩
theorem EvX.iteV {c : Bool} {x y : α} (h : EvT tt Γ ω ω1 c) (h1 : c = true → EvX ta Γ ω1 ω2 (is K x)) (h2 : c = false → EvX tb Γ ω1 ω2 (is K y)) : EvX (tIf tt ta tb) Γ ω ω2 (is K (if c then x else y)) := by
  cases c with
  | true => exact EvX.ite h (fun _ => h1 rfl) (fun z => (nomatch z))
  | false => exact EvX.ite h (fun z => (nomatch z)) (fun _ => h2 rfl)
theorem EvX.iteO {c : Bool} {o1 o2 : Option α} {z : α} (h : EvT tt Γ ω ω1 c) (h1 : c = true → o1 = some z → EvX ta Γ ω1 ω2 (is K z)) (h2 : c = false → o2 = some z → EvX tb Γ ω1 ω2 (is K z)) (e : (if c then o1 else o2) = some z) : EvX (tIf tt ta tb) Γ ω ω2 (is K z) := by
  cases c with
  | true => exact EvX.ite h (fun _ => h1 rfl e) (fun z => (nomatch z))
  | false => exact EvX.ite h (fun z => (nomatch z)) (fun _ => h2 rfl e)
theorem EvT.eq {x y : Bool} (h : EvT tt Γ ω ω1 x) (e : x = y) : EvT tt Γ ω ω1 y := e ▸ h
/-! ints with written numbers; max, min, int, bit_length -/
theorem OpX.mulK {i j : Int} (c : CMul i j) : OpX (rI CMul fun i j => .int (i * j)) ω ω (is K i) (is K j) (is K (i * j)) := .I c fun _ => rfl
theorem OpX.powK {i j : Int} (c : CPow i j) : OpX (rI CPow fun i j => .int (i ^ j.toNat)) ω ω (is K i) (is K j) (is K (i ^ j.toNat)) := .I c fun _ => rfl
theorem OpX.modK {i j : Int} (c : 0 < j) : OpX (rI (fun _ j => 0 < j) fun i j => .int (i % j)) ω ω (is K i) (is K j) (is K (i % j)) := .I c fun _ => rfl
theorem OpX.fdivK {i j : Int} (c : CDiv i j) : OpX (rI CDiv fun i j => .int (i / j)) ω ω (is K i) (is K j) (is K (i / j)) := .I c fun _ => rfl
theorem CaX.int1 {i : Int} : CaX RC.rInt1 ω ω [is K i] (is K i) := fun G H vs Q w p q => by
  obtain ⟨v, rfl, e⟩ := PArgs.one p
  cases e
  exact .inl ⟨i, rfl, q _ G H (Le.refl _) w rfl⟩
def max2 (i j : Int) : Int := if j > i then j else i
def min2 (i j : Int) : Int := if j < i then j else i
theorem CaX.max2 {i j : Int} : CaX Evl.rMax2 ω ω [is K i, is K j] (is K (max2 i j)) := fun G H vs Q w p q => by
  obtain ⟨v, v', rfl, e, e'⟩ := PArgs.two p
  cases e
  cases e'
  exact ⟨i, j, rfl, q _ G H (Le.refl _) w rfl⟩
theorem CaX.min2 {i j : Int} : CaX RC.rMin2 ω ω [is K i, is K j] (is K (min2 i j)) := fun G H vs Q w p q => by
  obtain ⟨v, v', rfl, e, e'⟩ := PArgs.two p
  cases e
  cases e'
  exact ⟨i, j, rfl, q _ G H (Le.refl _) w rfl⟩
theorem EvX.bits {i : Int} (h : EvX te Γ ω ω1 (is K i)) : EvX (tBits te) Γ ω ω1 (is K (Builtin.Int.intBits i : Int)) := fun σ G H Q r w q => h σ G H _ r w fun v G2 H2 s w2 p => ⟨i, p, q _ G2 H2 s w2 rfl⟩
/-! comprehensions -/
theorem mapO_map {γ δ : Type} (f : γ → δ) : ∀ xs : List γ, mapO (fun x => some (some (f x))) xs = some (xs.map f)
  | [] => rfl
  | x :: xs => by
    unfold mapO
    rw [mapO_map f xs]
    rfl
theorem mapO_fil {γ δ : Type} (c : γ → Bool) (f : γ → δ) : ∀ xs : List γ, mapO (fun x => if c x then some (some (f x)) else some none) xs = some ((xs.filter c).map f)
  | [] => rfl
  | x :: xs => by
    unfold mapO
    rw [mapO_fil c f xs]
    cases h : c x with
    | true => rw [List.filter_cons_of_pos h]; rfl
    | false => rw [List.filter_cons_of_neg (by rw [h]; decide)]; rfl
theorem Elt.all {y : β} {o : Option β} (h : EvX te Γ ω ω (is K y)) (e : some (some y) = some o) : Elt K tYes te Γ ω o := ⟨true, EvT.yes, fun z => (nomatch z), fun _ => ⟨y, (Option.some.inj e).symm, h⟩⟩
theorem Elt.iteO {c : Bool} {oA : Option (Option β)} {o : Option β} (h : EvT tt Γ ω ω c) (h1 : c = true → oA = some o → ∃ y, o = some y ∧ EvX te Γ ω ω (is K y)) (e : (if c then oA else some none) = some o) : Elt K tt te Γ ω o := by
  cases c with
  | true => exact ⟨true, h, fun z => (nomatch z), fun _ => h1 rfl e⟩
  | false => exact ⟨false, h, fun _ => (Option.some.inj e).symm, fun z => (nomatch z)⟩
theorem Elt.ite {c : Bool} {y : β} {o : Option β} (h : EvT tt Γ ω ω c) (h1 : c = true → EvX te Γ ω ω (is K y)) (e : (if c then some (some y) else some none) = some o) : Elt K tt te Γ ω o := Elt.iteO h (fun z q => ⟨y, (Option.some.inj q).symm, h1 z⟩) e
/-! a, b = e; raise; what is not reached -/
theorem Go.asgT {g : TG} {y : α} {Γ2 : α → Gm} {x : Res X} (h : EvX te Γ ω ω1 (is K y)) (ht : TgX K g Γ Γ2) (k : Go u (Γ2 y) ω1 Z x) : Go (tSeq (tAsg te g) u) Γ ω Z x := fun σ G H D rp w z => h σ G H _ rp w fun v G2 H2 s w2 p => ht y σ G2 H2 _ v _ (rp.mono s) w2 p fun σ' r' => k σ' G2 H2 D r' w2 (Z.mono s z)
theorem Go.never : Go tNever Γ ω Z (.bad : Res X) := fun σ G H D rp w z => absurd z Z.nobad
/-! tuples: +, slices, [::-1] -/
def catT (xs ys : Tu α) : Option (Tu α) := if xs.l.length + ys.l.length ≤ sizeLine then some ⟨xs.l ++ ys.l⟩ else none
theorem OpX.catT {xs ys zs : Tu α} (e : Lf.catT xs ys = some zs) : OpX (rCatA K) ω ω (is K xs) (is K ys) (is K zs) := fun G H u v Q w p1 p2 q => by
  obtain ⟨a, us, rfl, ea, ha, la⟩ := p1
  obtain ⟨b, vs, rfl, eb, hb, lb⟩ := p2
  unfold Lf.catT at e
  split at e
  · rename_i c
    cases e
    refine ⟨a, b, us, vs, rfl, rfl, RC.st_of (w.tup ea), RC.st_of (w.tup eb), by rw [Paired.len ha, Paired.len hb]; exact c, fun z => ?_, fun _ z => ?_, fun _ _ p hp => ?_⟩
    · subst z
      have : xs.l = [] := List.eq_nil_of_length_eq_zero (Paired.len ha).symm
      exact q _ G H (Le.refl _) w ⟨b, vs, rfl, eb, by rw [this]; exact hb, by rw [this]; exact lb⟩
    · subst z
      have : ys.l = [] := List.eq_nil_of_length_eq_zero (Paired.len hb).symm
      exact q _ G H (Le.refl _) w ⟨a, us, rfl, ea, by rw [this, List.append_nil]; exact ha, by rw [this, List.append_nil]; exact la⟩
    · obtain ⟨w2, s2⟩ := w.new (o := .tup (us ++ vs)) hp
      exact q _ _ _ s2 w2 ⟨p, _, rfl, upd_same, Paired.app' (All.mono s2 ha) (All.mono s2 hb), by show (xs.l ++ ys.l).length ≤ _; rw [List.length_append]; exact c⟩
  · cases e
theorem cut_whole {γ : Type} {xs : List γ} {lo hi : Option Int} (h : HT.sIx xs.length 0 lo = 0 ∧ HT.sIx xs.length xs.length hi = xs.length) : cut xs lo hi = xs := by
  unfold cut
  rw [h.1, h.2, List.drop_zero, Nat.sub_zero, List.take_length]
theorem EvX.slT {xs : Tu α} {tl th : TO} {lo hi : Option Int} (h : EvX te Γ ω ω1 (is K xs)) (h1 : EvO tl Γ ω1 ω2 lo) (h2 : EvO th Γ ω2 ω3 hi) : EvX (tSl (rSlA K) te tl th) Γ ω ω3 (is K (Tu.mk (cut xs.l lo hi))) := fun σ G H Q r w q =>
  h σ G H _ r w fun v G1 H1 s1 w1 p1 => h1 σ G1 H1 _ (r.mono s1) w1 fun G2 H2 s2 w2 => h2 σ G2 H2 _ (r.mono (s1.trans s2)) w2 fun G3 H3 s3 w3 => by
    obtain ⟨a, us, rfl, e, ha, l⟩ := (is K xs).mono (s2.trans s3) p1
    refine ⟨a, us, rfl, RC.st_of (w3.tup e), fun z => ?_, fun _ p hp => ?_⟩
    · rw [Paired.len ha] at z
      exact q _ G3 H3 (s1.trans (s2.trans s3)) w3 ⟨a, us, rfl, e, by rw [cut_whole z]; exact ha, by rw [cut_whole z]; exact l⟩
    · obtain ⟨w4, s4⟩ := w3.new (o := .tup (cutV us lo hi)) hp
      exact q _ _ _ (s1.trans (s2.trans (s3.trans s4))) w4 ⟨p, _, rfl, upd_same, All.cut (All.mono s4 ha), Nat.le_trans (cut_len _ _ _) l⟩
theorem EvX.revT {xs : Tu α} (h : EvX te Γ ω ω1 (is K xs)) : EvX (RC.tRevT K te) Γ ω ω1 (is K (Tu.mk xs.l.reverse)) := fun σ G H Q r w q => h σ G H _ r w fun v G1 H1 s1 w1 p1 => by
  obtain ⟨a, us, rfl, e, ha, l⟩ := p1
  refine ⟨a, us, rfl, RC.st_of (w1.tup e), fun p hp => ?_⟩
  obtain ⟨w2, s2⟩ := w1.new (o := .tup us.reverse) hp
  exact q _ _ _ (s1.trans s2) w2 ⟨p, _, rfl, upd_same, Paired.rev' (All.mono s2 ha), by show xs.l.reverse.length ≤ _; rw [List.length_reverse]; exact l⟩
/-! [*xs, a, ..] -/
theorem EvF.starL {xs ys zs : List α} {tr : TA} {ms : List MP} (h : EvX te Γ ω ω1 (is K xs)) (hr : EvA tr Γ ω1 ω2 ms) (e : ms = ys.map (is K)) (ec : cat xs ys = some zs) : EvF (tLst (StX.tStar K te tr)) Γ ω ω2 (olst K zs) := fun σ G H Q r w q => h σ G H _ r w fun v G1 H1 s1 w1 p1 => by
  obtain ⟨a, us, rfl, ea, ha, l⟩ := p1
  refine ⟨a, us, rfl, .inr (RC.sq_of (w1.lst ea)), hr σ G1 H1 _ (r.mono s1) w1 fun vs G2 H2 s2 w2 p2 => ?_⟩
  unfold cat at ec
  split at ec
  · rename_i c
    cases ec
    have hv : All K G2 vs ys := all_of (e ▸ p2)
    have hl : (us ++ vs).length ≤ sizeLine := by rw [List.length_append, Paired.len ha, Paired.len hv]; exact c
    exact ⟨hl, fun p hp => q p G2 _ (s1.trans s2) (newL w2 hp (Paired.app' (All.mono s2 ha) hv) (by rw [List.length_append]; exact c))⟩
  · cases ec
/-! in -/
theorem any_in {G : Hp} {n : Int} {vs : List V} {ns : List Int} (h : All K G vs ns) : inV (.int n) vs = decide (n ∈ ns) ∧ vs.all flatV = true := by
  rw [ints_of h]
  clear h
  induction ns with
  | nil => exact ⟨rfl, rfl⟩
  | cons x ns ih =>
    refine ⟨?_, ?_⟩
    · have h1 := ih.1
      unfold inV at h1 ⊢
      rw [List.map_cons, List.any_cons, h1]
      by_cases e : n = x
      · subst e
        simp [eqV]
      · have : (x == n) = false := by simpa using fun z => e z.symm
        simp [eqV, this, e]
    · rw [List.map_cons, List.all_cons, ih.2]
      rfl
theorem OpX.inL {n : Int} {xs : List Int} : OpX (rIn K false) ω ω (is K n) (is K xs) (is K (decide (n ∈ xs))) := fun G H u v Q w p1 p2 q => by
  cases p1
  obtain ⟨a, us, rfl, ea, ha, _⟩ := p2
  obtain ⟨h1, h2⟩ := any_in (n := n) ha
  exact ⟨a, us, rfl, .inl (RC.sq_of (w.lst ea)), rfl, h2, by rw [if_neg (by decide), h1]; exact q _ G H (Le.refl _) w rfl⟩
theorem OpX.niL {n : Int} {xs : List Int} : OpX (rIn K true) ω ω (is K n) (is K xs) (is K (!decide (n ∈ xs))) := fun G H u v Q w p1 p2 q => by
  cases p1
  obtain ⟨a, us, rfl, ea, ha, _⟩ := p2
  obtain ⟨h1, h2⟩ := any_in (n := n) ha
  exact ⟨a, us, rfl, .inl (RC.sq_of (w.lst ea)), rfl, h2, by rw [if_pos rfl, h1]; exact q _ G H (Le.refl _) w rfl⟩
/-! ### dicts -/
def Dic.get? {κ : Type} [DecidableEq κ] (d : Dic κ α) (k : κ) : Option α := (d.l.find? fun p => decide (p.1 = k)).map (·.2)
def Dic.has {κ : Type} [DecidableEq κ] (d : Dic κ α) (k : κ) : Bool := (d.get? k).isSome
def putL {κ : Type} [DecidableEq κ] (l : List (κ × α)) (k : κ) (x : α) : List (κ × α) := if (l.any fun p => decide (p.1 = k)) = true then l.map (fun p => if p.1 = k then (p.1, x) else p) else l ++ [(k, x)]
def Dic.put {κ : Type} [DecidableEq κ] (d : Dic κ α) (k : κ) (x : α) : Option (Dic κ α) := if d.l.length < sizeLine then some ⟨putL d.l k x⟩ else none
class KpV (κ : Type) extends Kp κ, Rp κ where
  dec : DecidableEq κ
  rp : ∀ {K : Frag} {H : Hp} {k : κ}, Rp.rep K H (kV (Kp.key k)) k
  kv : ∀ {K : Frag} {H : Hp} {v : V} {k : κ}, Rp.rep K H v k → v = kV (Kp.key k)
instance : KpV Int := { dec := inferInstance, rp := rfl, kv := fun h => h }
instance : KpV Str := { dec := inferInstance, rp := rfl, kv := fun h => h }
section
variable {κ : Type} [kp : KpV κ] [DecidableEq κ]
theorem valV_of {G : Hp} {k : κ} {kvs : List (Key × V)} {l : List (κ × α)} (h : AllD K G kvs l) : match (l.find? fun p => decide (p.1 = k)).map (·.2) with
    | none => valV kvs (Kp.key k) = none
    | some x => ∃ v, valV kvs (Kp.key k) = some v ∧ Rp.rep K G v x := by
  induction h with
  | nil => exact rfl
  | @cons kv p _ _ r t ih =>
    by_cases e : p.1 = k
    · rw [List.find?_cons, decide_eq_true e]
      refine ⟨kv.2, valV_pos ?_, r.2⟩
      rw [r.1, e]
    · rw [List.find?_cons, decide_eq_false e]
      have ne : ¬ kv.1 = Kp.key k := fun z => e (Kp.inj (r.1.symm.trans z))
      rw [valV_neg ne]
      exact ih
theorem dget_of {G H : Hp} {a : Addr} {kvs : List (Key × V)} {d : Dic κ α} {k : κ} {v : V} (e : Rd H a (.dK kvs)) (h : AllD K G kvs d.l) (hk : Rp.rep K G v k) : ∃ o, DGet H a v o ∧ match d.get? k with
    | none => o = none
    | some x => ∃ v, o = some v ∧ Rp.rep K G v x := by
  refine ⟨valV kvs (Kp.key k), .inl ⟨kvs, Kp.key k, e, KpV.kv hk, rfl⟩, ?_⟩
  have := valV_of (k := k) h
  unfold Dic.get?
  split at this <;> exact this
/-- where a dict stands: still, or one's own -/
def DicAt (K : Frag) (ω : List Ent) (a : MP) (d : Dic κ α) : Prop := ∀ (G H : Hp) (v : V), At G ω H → a.p G v → ∃ p kvs, v = .ref p ∧ Rd H p (.dK kvs) ∧ AllD K G kvs d.l
theorem DicAt.of {d : Dic κ α} : DicAt K ω (is K d) d := fun G H v w p => by
  obtain ⟨a, kvs, rfl, e, h, _⟩ := p
  exact ⟨a, kvs, rfl, w.rd e, h⟩
theorem DicAt.own {d : Dic κ α} {k : Nat} {p : Addr} (ho : ω[k]? = some (Ent.own p (odic K d))) : DicAt K ω (adr p) d := fun G H v w e => by
  obtain ⟨o, eo, kvs, rfl, h, _⟩ := w.ownAt ho
  exact ⟨p, kvs, e, .inl eo, h⟩
theorem EvF.dnew {K : Frag} {Γ : Gm} {ω : List Ent} {κ : Type} [KpV κ] {α : Type} [Rp α] : EvF tDNewK Γ ω ω (odic K (Dic.mk [] : Dic κ α)) := fun σ G H Q r w q p hp => q p G _ (Le.refl _) (w.newOwn hp ⟨[], rfl, .nil, Nat.zero_le _⟩)
theorem EvX.dget' {d : Dic κ α} {k : κ} {x : α} (h : EvX ta Γ ω ω1 a) (hk : EvX tb Γ ω1 ω2 (is K k)) (hd : DicAt K ω2 a d) (e : d.get? k = some x) : EvX (tDGet ta tb) Γ ω ω2 (is K x) := fun σ G H Q r w q => h σ G H _ r w fun v G1 H1 s1 w1 p1 => hk σ G1 H1 _ (r.mono s1) w1 fun y G2 H2 s2 w2 p2 => by
  obtain ⟨p, kvs, rfl, hr, hv⟩ := hd G2 H2 v w2 (a.mono s2 p1)
  obtain ⟨o, ho, hm⟩ := dget_of hr hv p2
  rw [e] at hm
  obtain ⟨u, rfl, hu⟩ := hm
  exact ⟨p, u, rfl, ho, q u G2 H2 (s1.trans s2) w2 hu⟩
theorem EvX.din' {d : Dic κ α} {k : κ} (hk : EvX tb Γ ω ω1 (is K k)) (h : EvX ta Γ ω1 ω2 a) (hd : DicAt K ω2 a d) : EvX (tDIn tb ta) Γ ω ω2 (is K (d.has k)) := fun σ G H Q r w q => hk σ G H _ r w fun y G1 H1 s1 w1 p1 => h σ G1 H1 _ (r.mono s1) w1 fun v G2 H2 s2 w2 p2 => by
  obtain ⟨p, kvs, rfl, hr, hv⟩ := hd G2 H2 v w2 p2
  obtain ⟨o, ho, hm⟩ := dget_of (k := k) hr hv ((is K k).mono s2 p1)
  refine ⟨p, o, rfl, ho, q _ G2 H2 (s1.trans s2) w2 ?_⟩
  show V.bl _ = V.bl _
  unfold Dic.has
  cases e : d.get? k with
  | none =>
    rw [e] at hm
    rw [hm]
    rfl
  | some x =>
    rw [e] at hm
    obtain ⟨u, rfl, _⟩ := hm
    rfl
theorem EvX.dni' {d : Dic κ α} {k : κ} (hk : EvX tb Γ ω ω1 (is K k)) (h : EvX ta Γ ω1 ω2 a) (hd : DicAt K ω2 a d) : EvX (tDNotIn tb ta) Γ ω ω2 (is K (!d.has k)) := fun σ G H Q r w q => hk σ G H _ r w fun y G1 H1 s1 w1 p1 => h σ G1 H1 _ (r.mono s1) w1 fun v G2 H2 s2 w2 p2 => by
  obtain ⟨p, kvs, rfl, hr, hv⟩ := hd G2 H2 v w2 p2
  obtain ⟨o, ho, hm⟩ := dget_of (k := k) hr hv ((is K k).mono s2 p1)
  refine ⟨p, o, rfl, ho, q _ G2 H2 (s1.trans s2) w2 ?_⟩
  show V.bl _ = V.bl _
  unfold Dic.has
  cases e : d.get? k with
  | none =>
    rw [e] at hm
    rw [hm]
    rfl
  | some x =>
    rw [e] at hm
    obtain ⟨u, rfl, _⟩ := hm
    rfl
theorem isD_of {H : Hp} {p : Addr} {kvs : List (Key × V)} (h : Rd H p (.dK kvs)) : IsD H p := .inl ⟨kvs, h⟩
theorem EvX.dget2' {d : Dic κ α} {k : κ} {z : α} (h : EvX ta Γ ω ω1 a) (hk : EvX tb Γ ω1 ω2 (is K k)) (hz : EvX tc Γ ω2 ω3 (is K z)) (hd1 : DicAt K ω1 a d) (hd : DicAt K ω3 a d) : EvX (tDGet2 ta tb tc) Γ ω ω3 (is K ((d.get? k).getD z)) := fun σ G H Q r w q => h σ G H _ r w fun v G1 H1 s1 w1 p1 => by
  obtain ⟨p, kvs, rfl, hr, hv⟩ := hd1 G1 H1 v w1 p1
  refine ⟨p, rfl, isD_of hr, hk σ G1 H1 _ (r.mono s1) w1 fun y G2 H2 s2 w2 p2 => hz σ G2 H2 _ (r.mono (s1.trans s2)) w2 fun u G3 H3 s3 w3 p3 => ?_⟩
  obtain ⟨p', kvs, e, hr, hv⟩ := hd G3 H3 (.ref p) w3 (a.mono (s2.trans s3) p1)
  cases e
  obtain ⟨o, ho, hm⟩ := dget_of (k := k) hr hv ((is K k).mono s3 p2)
  refine ⟨o, ho, q _ G3 H3 (s1.trans (s2.trans s3)) w3 ?_⟩
  cases e : d.get? k with
  | none =>
    rw [e] at hm
    rw [hm]
    exact p3
  | some x =>
    rw [e] at hm
    obtain ⟨t, rfl, ht⟩ := hm
    exact ht
theorem EvX.dgetN' {α : Type} [n : NN α] {d : Dic κ α} {k : κ} (h : EvX ta Γ ω ω1 a) (hk : EvX tb Γ ω1 ω2 (is K k)) (hd1 : DicAt K ω1 a d) (hd : DicAt K ω2 a d) : EvX (tDGet2 ta tb (tC .non)) Γ ω ω2 (is K (d.get? k)) := fun σ G H Q r w q => h σ G H _ r w fun v G1 H1 s1 w1 p1 => by
  obtain ⟨p, kvs, rfl, hr, hv⟩ := hd1 G1 H1 v w1 p1
  refine ⟨p, rfl, isD_of hr, hk σ G1 H1 _ (r.mono s1) w1 fun y G2 H2 s2 w2 p2 => ?_⟩
  obtain ⟨p', kvs, e, hr, hv⟩ := hd G2 H2 (.ref p) w2 (a.mono s2 p1)
  cases e
  obtain ⟨o, ho, hm⟩ := dget_of (k := k) hr hv p2
  refine ⟨o, ho, q _ G2 H2 (s1.trans s2) w2 ?_⟩
  cases e : d.get? k with
  | none =>
    rw [e] at hm
    rw [hm]
    rfl
  | some x =>
    rw [e] at hm
    obtain ⟨t, rfl, ht⟩ := hm
    exact ⟨ht, n.nn ht⟩
theorem any_of {G : Hp} {k : κ} {kvs : List (Key × V)} {l : List (κ × α)} (h : AllD K G kvs l) : (kvs.any fun kv => decide (kv.1 = Kp.key k)) = l.any fun p => decide (p.1 = k) := by
  induction h with
  | nil => rfl
  | @cons kv p _ _ r t ih =>
    rw [List.any_cons, List.any_cons, ih]
    congr 1
    exact decide_eq_decide.mpr ⟨fun z => Kp.inj (r.1.symm.trans z), fun z => by rw [r.1, z]⟩
theorem putM_of {G : Hp} {k : κ} {x : α} {v : V} (hv : Rp.rep K G v x) {kvs : List (Key × V)} {l : List (κ × α)} (h : AllD K G kvs l) : AllD K G (kvs.map fun kv => if kv.1 = Kp.key k then (kv.1, v) else kv) (l.map fun p => if p.1 = k then (p.1, x) else p) := by
  induction h with
  | nil => exact .nil
  | @cons kv p _ _ r t ih =>
    refine .cons ?_ ih
    show (if kv.1 = Kp.key k then (kv.1, v) else kv).1 = Kp.key (if p.1 = k then (p.1, x) else p).1 ∧ Rp.rep K G (if kv.1 = Kp.key k then (kv.1, v) else kv).2 (if p.1 = k then (p.1, x) else p).2
    by_cases e : p.1 = k
    · rw [if_pos e, if_pos (by rw [r.1, e])]
      exact ⟨r.1, hv⟩
    · rw [if_neg e, if_neg (fun z => e (Kp.inj (r.1.symm.trans z)))]
      exact r
theorem putK_of {G : Hp} {k : κ} {x : α} {v : V} (hv : Rp.rep K G v x) {kvs : List (Key × V)} {l : List (κ × α)} (h : AllD K G kvs l) : AllD K G (putK kvs (Kp.key k) v) (putL l k x) := by
  unfold putK putL
  rw [any_of h]
  split
  · exact putM_of hv h
  · exact Paired.app' h (.cons ⟨rfl, hv⟩ .nil)
theorem putL_len (l : List (κ × α)) (k : κ) (x : α) : (putL l k x).length ≤ l.length + 1 := by
  unfold putL
  split
  · rw [List.length_map]
    omega
  · rw [List.length_append]
    exact Nat.le_refl _
theorem Go.dput {d d' : Dic κ α} {i : κ} {y : α} {to ti : TE} {p : Addr} {k : Nat} {x : Res X} (h : EvX te Γ ω ω1 (is K y)) (ht : EvX to Γ ω1 ω1 (adr p)) (hi : EvX ti Γ ω1 ω1 (is K i)) (ho : ω1[k]? = some (Ent.own p (odic K d))) (e : d.put i y = some d') (hk : Go u Γ (ω1.set k (.own p (odic K d'))) Z x) :
    Go (tSeq (sDPut to ti te) u) Γ ω Z x := fun σ G H D rp w z => h σ G H _ rp w fun v G1 H1 s1 w1 p1 => ht σ G1 H1 _ (rp.mono s1) w1 fun v2 G2 H2 s2 w2 p2 => hi σ G2 H2 _ (rp.mono (s1.trans s2)) w2 fun v3 G3 H3 s3 w3 p3 => by
  cases p2
  obtain ⟨o, eo, kvs, rfl, hv, l⟩ := w3.ownAt ho
  unfold Dic.put at e
  split at e
  · rename_i c
    cases e
    have s := s1.trans (s2.trans s3)
    refine ⟨p, _, rfl, .inl ⟨kvs, Kp.key i, eo, KpV.kv p3, by rw [Paired.len hv]; exact c, rfl⟩, ?_⟩
    refine hk σ G3 _ D (rp.mono s) (w3.put ho ⟨_, rfl, putK_of ((is K y).mono (s2.trans s3) p1) hv, ?_⟩) (Z.mono s z)
    exact Nat.le_trans (putL_len _ _ _) c
  · cases e
end
end
end Lf
namespace Lf
open PySem PySem.Spec PyProof.Rows L2
theorem paired_cons {G : Hp} {f : Str} {m : MP} {ms : List (Str × MP)} {fs : List (Str × V)} (h : Paired (fun (f : Str × V) (m : Str × MP) => f.1 = m.1 ∧ m.2.p G f.2) fs ((f, m) :: ms)) : ∃ x fs', fs = (f, x) :: fs' ∧ m.p G x ∧ Paired (fun (f : Str × V) (m : Str × MP) => f.1 = m.1 ∧ m.2.p G f.2) fs' ms := by
  cases h with
  | @cons a b l1 l2 r t =>
    obtain ⟨g, x⟩ := a
    have e : g = f := r.1
    subst e
    exact ⟨x, _, rfl, r.2, t⟩
/-! isinstance -/

def eqv (v : V) : MP := ⟨fun _ u => u = v, fun _ h => h⟩
theorem EvX.c {v : V} {Γ : Gm} {ω : List Ent} : EvX (tC v) Γ ω ω (eqv v) := fun σ G H Q r w q => q v G H (Le.refl _) w rfl
class PyT (α : Type) extends Rp α where
  t : String
  ty : ∀ {K : PySem.W.Frag} {G H : Hp} {ω : List Ent} {v : V} {x : α}, At G ω H → Rp.rep K G v x → TyX K H v (.type t)
instance : PyT Int := { t := "int", ty := fun _ h => by cases h; exact .base (.int _) }
instance : PyT Bool := { t := "bool", ty := fun _ h => by cases h; exact .base (.bl _) }
instance : PyT Str := { t := "str", ty := fun _ h => by cases h; exact .base (.str _) }
instance {α : Type} [Rp α] : PyT (List α) := { t := "list", ty := fun w ⟨a, vs, e, h, _⟩ => by subst e; exact .base (.lst (w.lst h)) }
instance {α : Type} [Rp α] : PyT (Tu α) := { t := "tuple", ty := fun w ⟨a, vs, e, h, _⟩ => by subst e; exact .base (.tup (w.tup h)) }
theorem CaX.isi {K : PySem.W.Frag} {ω : List Ent} {α : Type} [p : PyT α] {x : α} {c : V} {u : Value} {b : Bool} (hc : ClsV c u) (e : PySem.W.kitOne K (.type p.t) u = some b) : CaX (rIsi K) ω ω [is K x, eqv c] (is K b) := fun G H vs Q w pa q => by
  obtain ⟨v, v', rfl, h, rfl⟩ := PArgs.two pa
  exact ⟨v, _, _, _, b, rfl, hc, p.ty w h, e, q _ G H (Le.refl _) w rfl⟩
end Lf
namespace RC
open PySem PySem.Spec PyProof.Rows L2
/-! ### min of a list of data -/
section
variable {X : Cx}
def rMinD (K : PySem.W.Frag) : List V → Hp → VK → Prop := fun vs H Q => ∃ (a : Addr) (xs : List V) (d : PyData) (ds : List PyData), vs = [.ref a] ∧ SqL K H a xs ∧ DpAll K H xs (d :: ds) ∧ PySem.W.AlikeAll (d :: ds) ∧ PyData.depthAll (d :: ds) ≤ 40 ∧
  ∀ (i : Nat) v, xs[i]? = some v → (d :: ds)[i]? = some (PySem.W.minD d ds) → Q v H
theorem vals_at : ∀ {xs : List V} {us : List Value} {i : Nat} {u : Value}, Vals xs us → us[i]? = some u → ∃ x, xs[i]? = some x ∧ RelV x u
  | _, _, _, _, .nil, h => by simp at h
  | _, _, 0, _, .cons (a := x) r rs, h => by
    have e := Option.some.inj (show some _ = some _ from h)
    subst e
    exact ⟨x, rfl, r⟩
  | _, _, i + 1, _, .cons r rs, h => by
    obtain ⟨x, a, b⟩ := vals_at (i := i) rs (by simpa using h)
    exact ⟨x, by simpa using a, b⟩
theorem cr_minLL (hc : X.calm = true) (hr : Room 1 X.A) : CallR X (.builtin "min") (rMinD X.K) := by
  intro pins s σ H vs us Q I r h
  obtain ⟨a, xs, d, ds, rfl, hs, hd, al, dep, q⟩ := h
  obtain ⟨its, rv, hl, _⟩ := I.list hs
  rw [Vals.ref1 r]
  obtain ⟨as, hr0⟩ := Dp.readsAll I (d :: ds) xs its hd rv
  have hr' : ReadsAll s.heap its.toArray.toList (d :: ds) as := by rw [List.toList_toArray]; exact hr0
  have hu := hr.units
  have hn : its.toArray.size = ds.length + 1 := PySem.W.readsAll_len hr'
  have hh : X.A.handled = none := I.ok.hd hc
  refine call_min_walkH (PySem.W.iter_listW (A := X.A.in1) hh hl.isList fun s₂ e W st hfp hw hk => ?_)
  refine ⟨_, _, _, _, _, _, _, s.heap, _, rfl, W, st, hfp, by omega, hw, hk, PySem.W.cmpIn_lt (A := X.A.in1) hr' al (by show X.A.units + 1 + _ < _; omega), fun v s' hP m => ?_⟩
  obtain ⟨h', tk, rfl, hk'⟩ := PySem.W.moved_old e rfl m
  obtain ⟨bs, r2, hi, _, _⟩ := PySem.W.readsAll_atA hr' _ v hP
  have e1 : its.toArray.size - 1 = ds.length := by omega
  have e2 := (PySem.W.argBest_fold PySem.W.dataLt PyData.none d ds ds.length (Nat.le_refl _)).2
  rw [List.take_length] at e2
  have hv : its[argBest (fun i j => PySem.W.dataLt ((d :: ds).getD i .none) ((d :: ds).getD j .none)) (its.toArray.size - 1)]? = some v := by
    have := hP
    simpa using this
  obtain ⟨x, hx, rx⟩ := vals_at rv hv
  refine ⟨x, H, I.kept hk', rx, q _ x hx ?_⟩
  have e3 : (d :: ds).getD (argBest (fun i j => PySem.W.dataLt ((d :: ds).getD i .none) ((d :: ds).getD j .none)) (its.toArray.size - 1)) .none = PySem.W.minD d ds := by
    rw [e1]
    exact e2
  rw [List.getD_eq_getElem?_getD, List.getElem?_eq_getElem hi] at e3
  rw [List.getElem?_eq_getElem hi]
  exact congrArg some e3
end
end RC
/-! ## Readings told by plain data: walks over dicts, orders, texts of data -/
namespace Lf
open PySem PySem.Spec PyProof.Rows L2
open PySem.W (Frag)
open He (ga)
section
variable {X : Cx} {e : Expr} {td : TE}
/-- a dict is locked as soon as it has come (and stays so) -/
def tLockV (td : TE) : TE := fun σ H Q => td σ H fun x H1 => ∃ d, x = .ref d ∧ ((∃ u, H1 d = some u ∧ LockD u ∧ ∀ od, Q x (upd H1 d (.frz od u))) ∨ ∃ od u, H1 d = some (.frz od u) ∧ Q x H1)
theorem pe_lockV (he : PE X e td) : PE X e (tLockV td) := by
  refine ⟨fun pins s σ H Q I h => wpAny_mono (he.run pins s σ H _ I h) (fun v s1 hv => ?_) fun _ _ z => z⟩
  obtain ⟨x, H1, I1, rx, d, ex, q⟩ := hv
  rcases q with ⟨u, hu, lu, q⟩ | ⟨od, u, hu, q⟩
  · have mu : Mut (some u) := by
      cases u <;> first | exact trivial | exact lu.elim
    obtain ⟨od, I2⟩ := I1.lock hu mu
    exact ⟨x, _, I2, rx, q od⟩
  · exact ⟨x, H1, I1, rx, q⟩
end
section
variable {K : Frag} {W : WX} {E : XK} {ωe : List Ent} {X R S T : Type} {Γ Γ' : Gm} {ω ω1 ω2 ω3 : List Ent} {Z : ZF K W ωe X} {t u ts : TS} {te ta tb tc : TE} {tt uu : TT} {a b m : MP} {fr : R → RS} {fn : S → Gm × List Ent} {φ : OC} {sp : Sp} {tA : TA} {ms : List MP} {fo : R → RS} {α β : Type} [Rp α] [Rp β]
section
variable {κ : Type} [kp : KpV κ]
theorem lockV {d : Dic κ α} {σ : L2.St} {G H : Hp} {R : V → Hp → Prop} (h : EvX te Γ ω ω1 (is K d)) (r : Reps G σ Γ) (w : At G ω H)
    (q : ∀ (p : Addr) (od : Obj) (kvs : List (Key × V)) (G2 H2 : Hp), Le G G2 → At G2 ω1 H2 → G2 p = some (.frz od (.dK kvs)) → AllD K G2 kvs d.l → d.l.length ≤ sizeLine → R (.ref p) H2) : tLockV te σ H R := h σ G H _ r w fun v G1 H1 s1 w1 p1 => by
  obtain ⟨p, kvs, rfl, e, hv, l⟩ := p1
  rcases e with e | ⟨od, e⟩
  · refine ⟨p, rfl, .inl ⟨_, w1.get e, trivial, fun od => ?_⟩⟩
    obtain ⟨w2, s2⟩ := w1.lock (od := od) e trivial
    exact q p od kvs _ _ (s1.trans s2) w2 upd_same (AllD.mono s2 hv) l
  · exact ⟨p, rfl, .inr ⟨od, _, w1.get e, q p od kvs G1 H1 s1 w1 e hv l⟩⟩
theorem allD_at {G : Hp} {kvs : List (Key × V)} {l : List (κ × α)} (h : AllD K G kvs l) {i : Nat} {x : κ × α} (e : l[i]? = some x) : ∃ v, kvs[i]? = some (Kp.key x.1, v) ∧ Rp.rep K G v x.2 := by
  obtain ⟨kv, ek, r1, r2⟩ := Paired.at_ h e
  exact ⟨kv.2, by rw [ek, ← r1], r2⟩
theorem IterX.keys {d : Dic κ α} (h : EvX te Γ ω ω1 (is K d)) : IterX K (iKeys (tLockV te)) Γ ω ω1 Any (d.l.map (·.1)) := fun σ G H R r w q => by
  refine lockV h r w fun p od kvs G2 H2 s2 w2 e hv l => ⟨p, od, rfl, .inl ⟨kvs, w2.get e, q _ G2 H2 s2 w2 ⟨by rw [List.length_map]; exact l, fun G ω H i s w _ hi => ⟨w.get (s.at e), by rw [List.length_map, ← Paired.len hv] at hi; exact hi⟩, fun G ω H s w _ => ⟨w.get (s.at e), by rw [List.length_map, Paired.len hv]; exact Nat.le_refl _⟩, fun G ω H i x H' k s w _ hk y => ?_⟩⟩⟩
  obtain ⟨rfl, k', v', ek, rfl⟩ := y
  rw [List.getElem?_map] at hk
  cases z : d.l[i]? with
  | none =>
    rw [z] at hk
    cases hk
  | some kx =>
    rw [z] at hk
    cases hk
    obtain ⟨v, ev, _⟩ := allD_at hv z
    rw [ev] at ek
    cases ek
    exact ⟨G, Le.refl _, w, kp.rp⟩
theorem IterX.keysM {d : Dic κ α} (h : EvX te Γ ω ω1 (is K d)) : IterX K (iKeysM (tLockV te)) Γ ω ω1 Any (d.l.map (·.1)) := fun σ G H R r w q => by
  refine lockV h r w fun p od kvs G2 H2 s2 w2 e hv l => ⟨p, od, kvs, rfl, w2.get e, q _ G2 H2 s2 w2 ⟨by rw [List.length_map]; exact l, fun G ω H i s w _ hi => ⟨w.get (s.at e), by rw [List.length_map, ← Paired.len hv] at hi; exact hi⟩, fun G ω H s w _ => ⟨w.get (s.at e), by rw [List.length_map, Paired.len hv]; exact Nat.le_refl _⟩, fun G ω H i x H' k s w _ hk y => ?_⟩⟩
  obtain ⟨rfl, k', v', ek, rfl⟩ := y
  rw [List.getElem?_map] at hk
  cases z : d.l[i]? with
  | none =>
    rw [z] at hk
    cases hk
  | some kx =>
    rw [z] at hk
    cases hk
    obtain ⟨v, ev, _⟩ := allD_at hv z
    rw [ev] at ek
    cases ek
    exact ⟨G, Le.refl _, w, kp.rp⟩
theorem IterX.vals {d : Dic κ α} (h : EvX te Γ ω ω1 (is K d)) : IterX K (iVals (tLockV te)) Γ ω ω1 Any (d.l.map (·.2)) := fun σ G H R r w q => by
  refine lockV h r w fun p od kvs G2 H2 s2 w2 e hv l => ⟨p, od, kvs, rfl, w2.get e, q _ G2 H2 s2 w2 ⟨by rw [List.length_map]; exact l, fun G ω H i s w _ hi => ⟨w.get (s.at e), by rw [List.length_map, ← Paired.len hv] at hi; exact hi⟩, fun G ω H s w _ => ⟨w.get (s.at e), by rw [List.length_map, Paired.len hv]; exact Nat.le_refl _⟩, fun G ω H i x H' k s w _ hk y => ?_⟩⟩
  obtain ⟨rfl, k', ek⟩ := y
  rw [List.getElem?_map] at hk
  cases z : d.l[i]? with
  | none =>
    rw [z] at hk
    cases hk
  | some kx =>
    rw [z] at hk
    cases hk
    obtain ⟨v, ev, pv⟩ := allD_at hv z
    rw [ev] at ek
    cases ek
    exact ⟨G, Le.refl _, w, Rp.mono s pv⟩
theorem IterX.items {d : Dic κ α} (h : EvX te Γ ω ω1 (is K d)) : IterX K (iItems (tLockV te)) Γ ω ω1 Any d.l := fun σ G H R r w q => by
  refine lockV h r w fun p od kvs G2 H2 s2 w2 e hv l => ⟨p, od, kvs, rfl, w2.get e, q _ G2 H2 s2 w2 ⟨l, fun G ω H i s w _ hi => ⟨w.get (s.at e), by rw [← Paired.len hv] at hi; exact hi⟩, fun G ω H s w _ => ⟨w.get (s.at e), by rw [Paired.len hv]; exact Nat.le_refl _⟩, fun G ω H i x H' k s w _ hk y => ?_⟩⟩
  obtain ⟨t, k', v', ek, rfl, nt, rfl⟩ := y
  obtain ⟨v, ev, pv⟩ := allD_at hv hk
  have ee := Prod.mk.inj (Option.some.inj (ev.symm.trans ek))
  obtain ⟨w2, s2⟩ := w.new (o := .tup [kV k', v']) nt
  rw [← ee.1, ← ee.2] at w2 s2 ⊢
  exact ⟨_, s2, w2, t, _, _, rfl, upd_same, kp.rp, Rp.mono (s.trans s2) pv⟩
end
/-! two at once, the second new -/
theorem Go.parF {i j : Nat} {x : Res X} (ha : EvX ta Γ ω ω1 a) (hb : EvF tb Γ ω1 ω2 φ) (k : ∀ p, Go u ((Γ.set i (some a)).set j (some (adr p))) (.own p φ :: ω2) Z x) : Go (tSeq (tPar i j (tCons ta (tCons tb tNil))) u) Γ ω Z x := fun σ G H D rp w z => ha σ G H _ rp w fun v G1 H1 s1 w1 p1 => hb σ G1 H1 _ (rp.mono s1) w1 fun p G2 H2 s2 w2 =>
  ⟨v, .ref p, rfl, k p _ G2 H2 D (((rp.mono (s1.trans s2)).set (a.mono s2 p1)).set (m := adr p) rfl) w2 (Z.mono (s1.trans s2) z)⟩
/-- the first new, the second a value -/
theorem Go.parF1 {i j : Nat} {x : Res X} (ha : EvF ta Γ ω ω1 φ) (hb : ∀ p, EvX tb Γ (.own p φ :: ω1) (.own p φ :: ω1) b) (k : ∀ p, Go u ((Γ.set i (some (adr p))).set j (some b)) (.own p φ :: ω1) Z x) : Go (tSeq (tPar i j (tCons ta (tCons tb tNil))) u) Γ ω Z x := fun σ G H D rp w z => ha σ G H _ rp w fun p G1 H1 s1 w1 => hb p σ G1 H1 _ (rp.mono s1) w1 fun v G2 H2 s2 w2 p2 =>
  ⟨.ref p, v, rfl, k p _ G2 H2 D (((rp.mono (s1.trans s2)).set (m := adr p) rfl).set p2) w2 (Z.mono (s1.trans s2) z)⟩
/-! one's own list, of which nothing more is told -/
def ojunk : OC := ⟨fun _ o => ∃ vs, o = .lst vs, fun _ h => h, fun ⟨_, e⟩ => e ▸ fun z => z⟩
def more {α : Type} (xs : List α) : Option Unit := if xs.length < sizeLine then some () else none
theorem Go.appJ {xs : List α} {y : Unit} {to : TE} {p : Addr} {k : Nat} {x : Res X} (ht : EvX to Γ ω ω (adr p)) (h : EvX te Γ ω ω1 m) (h0 : ∃ zs : List α, ω[k]? = some (Ent.own p (olst K zs))) (ho : ω1[k]? = some (Ent.own p (olst K xs))) (e : more xs = some y) (hk : Go u Γ (ω1.set k (.own p ojunk)) Z x) :
    Go (tSeq (tDrop (tBM K "list" rAppend to (tCons te tNil))) u) Γ ω Z x := fun σ G H D rp w z => ht σ G H _ rp w fun v G1 H1 s1 w1 p1 => by
  cases p1
  obtain ⟨zs, h0⟩ := h0
  obtain ⟨o, eo, us, rfl, _, _⟩ := w1.ownAt h0
  refine ⟨RC.ty_l eo, h σ G1 H1 _ (rp.mono s1) w1 fun v G2 H2 s2 w2 p2 => ?_⟩
  obtain ⟨o, eo, us, rfl, hu, _⟩ := w2.ownAt ho
  unfold more at e
  split at e
  · rename_i c
    refine ⟨p, us, v, rfl, rfl, eo, by rw [Paired.len hu]; exact c, ?_⟩
    exact hk σ G2 _ D (rp.mono (s1.trans s2)) (w2.put ho ⟨_, rfl⟩) (Z.mono (s1.trans s2) z)
  · cases e
/-! a value that is not None -/
theorem EvX.unopt {x : Option α} {y : α} (h : EvX te Γ ω ω1 (is K x)) (e : x = some y) : EvX te Γ ω ω1 (is K y) := h.as fun _ _ p => by
  subst e
  exact p.1
/-! order of pairs of ints -/
def ltP (x y : Int × Int) : Bool := HT.lexLt [x.1, x.2] [y.1, y.2]
theorem OpX.ltP {x y : Int × Int} : OpX (rLtT K) ω ω (is K x) (is K y) (is K (Lf.ltP x y)) := fun G H u v Q w p1 p2 q => by
  obtain ⟨a, u1, u2, rfl, ea, h1, h2⟩ := p1
  obtain ⟨b, v1, v2, rfl, eb, g1, g2⟩ := p2
  cases h1
  cases h2
  cases g1
  cases g2
  exact ⟨a, b, [x.1, x.2], [y.1, y.2], rfl, rfl, RC.st_of (w.tup ea), RC.st_of (w.tup eb), q _ G H (Le.refl _) w rfl⟩
/-! the least of a list of data -/
class Ord1 (α : Type) extends Dat α where
  alike : ∀ xs : List α, PySem.W.AlikeAll (xs.map d)
def leastD {α : Type} [t : Ord1 α] (x : α) (xs : List α) : α := xs.foldl (fun a y => if PySem.W.dataLt (t.d y) (t.d a) then y else a) x
def minL {α : Type} [Ord1 α] : List α → Option α
  | [] => none
  | x :: xs => some (leastD x xs)
theorem minD_of {α : Type} [t : Ord1 α] : ∀ (xs : List α) (x : α), PySem.W.minD (t.d x) (xs.map t.d) = t.d (leastD x xs)
  | [], x => rfl
  | y :: xs, x => by
    have ih := minD_of xs (if PySem.W.dataLt (t.d y) (t.d x) then y else x)
    unfold PySem.W.minD at ih ⊢
    rw [List.map_cons, List.foldl_cons]
    show List.foldl _ (if PySem.W.dataLt (t.d y) (t.d x) = true then t.d y else t.d x) _ = _
    have e : (if PySem.W.dataLt (t.d y) (t.d x) = true then t.d y else t.d x) = t.d (if PySem.W.dataLt (t.d y) (t.d x) then y else x) := by split <;> rfl
    rw [e]
    exact ih
theorem d_inj {α : Type} [t : Dat α] {x y : α} (h : t.d x = t.d y) : x = y := by
  have e := t.eqv x y
  rw [h, t.eqv y y] at e
  letI := t.dec
  have e2 : decide (x = y) = true := by
    rw [← e]
    exact decide_eq_true rfl
  exact of_decide_eq_true e2
theorem CaX.minD {α : Type} [t : Ord1 α] {xs : List α} {y : α} (h : minL xs = some y) (hd : t.deep ≤ 40) : CaX (RC.rMinD K) ω ω [is K xs] (is K y) := fun G H vs Q w p q => by
  obtain ⟨v, rfl, a, us, rfl, e, ha, l⟩ := PArgs.one p
  cases xs with
  | nil => cases h
  | cons x xs =>
    cases h
    have hp := dpa w ha
    refine ⟨a, us, t.d x, xs.map t.d, rfl, RC.sq_of (w.lst e), hp, t.alike (x :: xs), Nat.le_trans (depAll (x :: xs)) hd, fun i v hv hi => ?_⟩
    rw [minD_of] at hi
    have hi' : ((x :: xs).map t.d)[i]? = some (t.d (leastD x xs)) := hi
    rw [List.getElem?_map] at hi'
    cases z : (x :: xs)[i]? with
    | none =>
      rw [z] at hi'
      cases hi'
    | some y =>
      rw [z] at hi'
      have ey : y = leastD x xs := d_inj (Option.some.inj hi')
      obtain ⟨v', ev, pv⟩ := Paired.at_ ha z
      have e2 : v' = v := Option.some.inj (ev.symm.trans hv)
      rw [ey, e2] at pv
      exact q v G H (Le.refl _) w pv
instance : Ord1 (Int × Int) where
  alike xs := by
    constructor
    · intro x hx y hy
      obtain ⟨a, _, rfl⟩ := List.mem_map.mp hx
      obtain ⟨b, _, rfl⟩ := List.mem_map.mp hy
      simp [Dat.d, PySem.W.alike, PySem.W.alikeAll]
    · intro x hx e
      obtain ⟨a, _, rfl⟩ := List.mem_map.mp hx
      cases e
/-! repr of data -/
def shown {α : Type} [t : Dat α] (x : α) : Option Str := if (t.d x).showable = true ∧ (t.d x).shown.length ≤ sizeLine then some (t.d x).shown else none
theorem CaX.repr {α : Type} [t : Dat α] {x : α} {y : Str} (h : shown x = some y) (hd : t.deep ≤ 40) : CaX (RC.rReprD K) ω ω [is K x] (is K y) := fun G H vs Q w p q => by
  obtain ⟨v, rfl, e⟩ := PArgs.one p
  unfold shown at h
  split at h
  · rename_i c
    cases h
    exact ⟨v, t.d x, rfl, t.dp w e, c.1, t.lay x, Nat.le_trans (t.dep x) hd, c.2, q _ G H (Le.refl _) w rfl⟩
  · cases h
end
end Lf
namespace Lf
open PySem PySem.Spec PyProof.Rows L2
open PySem.W (Frag)
section
variable {K : Frag} {W : WX} {ωe : List Ent} {X : Type} {Γ : Gm} {ω ω1 : List Ent} {Z : ZF K W ωe X} {t u : TS} {tt : TT}
/-- a block that raises or is never reached -/
def zE (K : Frag) (W : WX) (ωe : List Ent) (X : Type) : ZF K W ωe X where
  z m D G := m ≠ .bad ∧ (∀ r, m ≠ .ok r) ∧ ∀ x, m = .err x → PostE K W ωe G x
  mono s h := ⟨h.1, h.2.1, fun x e => (h.2.2 x e).mono s⟩
  nobad h := h.1 rfl
  err h := h.2.2 _ rfl
theorem Go.ifX {c : Bool} {m1 m2 : Res X} (h : EvT tt Γ ω ω1 c) (h1 : c = true → Go t Γ ω1 (zE K W ωe X) m1) (hn : ∀ r, m1 ≠ .ok r) (h2 : c = false → Go u Γ ω1 Z m2) : Go (tSeq (tIfS tt t tNext) u) Γ ω Z (if c then m1 else m2) := fun σ G H D rp w z => h σ G H _ rp w fun G2 H2 s w2 => by
  have z2 := Z.mono s z
  cases c with
  | true =>
    have z3 : Z.z m1 D G2 := z2
    exact RC.if_t rfl (h1 rfl σ G2 H2 _ (rp.mono s) w2 ⟨fun e => Z.nobad (by rw [e] at z3; exact z3), hn, fun x e => Z.err (by rw [e] at z3; exact z3)⟩)
  | false => exact RC.if_f rfl (h2 rfl σ G2 H2 D (rp.mono s) w2 z2)
end
end Lf
namespace Lf
open PySem PySem.Spec PyProof.Rows L2
open PySem.W (Frag)
section
variable {K : Frag} {Γ : Gm} {ω ω1 ω2 ω3 : List Ent} {ta tb tc : TE} {α κ : Type} [Rp α] [KpV κ] [DecidableEq κ] {d : Dic κ α} {q : κ} {x z : α} {p : Addr} {k : Nat}
theorem EvX.dget (h : EvX ta Γ ω ω1 (is K d)) (hk : EvX tb Γ ω1 ω2 (is K q)) (e : d.get? q = some x) : EvX (tDGet ta tb) Γ ω ω2 (is K x) := EvX.dget' h hk DicAt.of e
theorem EvX.dgetO (h : EvX ta Γ ω ω1 (adr p)) (hk : EvX tb Γ ω1 ω2 (is K q)) (ho : ω2[k]? = some (Ent.own p (odic K d))) (e : d.get? q = some x) : EvX (tDGet ta tb) Γ ω ω2 (is K x) := EvX.dget' h hk (DicAt.own ho) e
theorem EvX.dget2 (h : EvX ta Γ ω ω1 (is K d)) (hk : EvX tb Γ ω1 ω2 (is K q)) (hz : EvX tc Γ ω2 ω3 (is K z)) : EvX (tDGet2 ta tb tc) Γ ω ω3 (is K ((d.get? q).getD z)) := EvX.dget2' h hk hz DicAt.of DicAt.of
theorem EvX.dget2O (h : EvX ta Γ ω ω1 (adr p)) (hk : EvX tb Γ ω1 ω2 (is K q)) (hz : EvX tc Γ ω2 ω3 (is K z)) (ho1 : ω1[k]? = some (Ent.own p (odic K d))) (ho : ω3[k]? = some (Ent.own p (odic K d))) : EvX (tDGet2 ta tb tc) Γ ω ω3 (is K ((d.get? q).getD z)) := EvX.dget2' h hk hz (DicAt.own ho1) (DicAt.own ho)
theorem EvX.din (hk : EvX tb Γ ω ω1 (is K q)) (h : EvX ta Γ ω1 ω2 (is K d)) : EvX (tDIn tb ta) Γ ω ω2 (is K (d.has q)) := EvX.din' hk h DicAt.of
theorem EvX.dni (hk : EvX tb Γ ω ω1 (is K q)) (h : EvX ta Γ ω1 ω2 (is K d)) : EvX (tDNotIn tb ta) Γ ω ω2 (is K (!d.has q)) := EvX.dni' hk h DicAt.of
theorem EvX.dinO (hk : EvX tb Γ ω ω1 (is K q)) (h : EvX ta Γ ω1 ω2 (adr p)) (ho : ω2[k]? = some (Ent.own p (odic K d))) : EvX (tDIn tb ta) Γ ω ω2 (is K (d.has q)) := EvX.din' hk h (DicAt.own ho)
theorem EvX.dniO (hk : EvX tb Γ ω ω1 (is K q)) (h : EvX ta Γ ω1 ω2 (adr p)) (ho : ω2[k]? = some (Ent.own p (odic K d))) : EvX (tDNotIn tb ta) Γ ω ω2 (is K (!d.has q)) := EvX.dni' hk h (DicAt.own ho)
end
section
variable {K : Frag} {Γ : Gm} {ω ω1 ω2 : List Ent} {ta tb : TE} {α κ : Type} [NN α] [KpV κ] [DecidableEq κ] {d : Dic κ α} {q : κ} {p : Addr} {k : Nat}
theorem EvX.dgetN (h : EvX ta Γ ω ω1 (is K d)) (hk : EvX tb Γ ω1 ω2 (is K q)) : EvX (tDGet2 ta tb (tC .non)) Γ ω ω2 (is K (d.get? q)) := EvX.dgetN' h hk DicAt.of DicAt.of
theorem EvX.dgetNO (h : EvX ta Γ ω ω1 (adr p)) (hk : EvX tb Γ ω1 ω2 (is K q)) (ho1 : ω1[k]? = some (Ent.own p (odic K d))) (ho : ω2[k]? = some (Ent.own p (odic K d))) : EvX (tDGet2 ta tb (tC .non)) Γ ω ω2 (is K (d.get? q)) := EvX.dgetN' h hk (DicAt.own ho1) (DicAt.own ho)
end
end Lf
/-! ## set(xs) of a list of ints; sorted of a set of ints, however many -/
namespace SetL
open PySem PySem.Spec PyProof.Rows L2
/-- the set as it is first laid -/
def bare (w : World) : Obj := { cls := .type "set", dict := none, data := .set #[] 0 (.fresh 0 0 (!w.params.followText "set-order")) }
section
variable {P : Program} {w : World} {A : Around} {E : Value → Shared → Prop} {s : Shared}
theorem bare_set {h : Heap} (e : h.get? h.objs.size = none) : (h.push (bare w)).get? h.objs.size = some (bare w) := Heap.get?_push_size _ rfl
theorem bare_is {h : Heap} {a : Addr} {ns : List Int} (e : h.get? a = some (bare w)) : SetR w h a (fun j => decide (j ∈ ns.take 0)) 0 := setR_new_at e
/-- old objects are not among the two new ones -/
theorem old_ne {h : Heap} {b : Addr} {o u : Obj} (e : h.get? b = some o) : b ∉ [h.objs.size, (h.push u).objs.size] := by
  have lt := Heap.lt_size e
  rw [Heap.size_push]
  intro m
  rcases List.mem_cons.mp m with z | m
  · exact Nat.ne_of_lt lt z
  · exact Nat.ne_of_lt (Nat.lt_succ_of_lt lt) (List.mem_singleton.mp m)
set_option maxRecDepth 100000 in
set_option maxHeartbeats 3200000 in
/-- what set(l) leaves: the members are those of the list -/
theorem made {l : Addr} {xs : Array Value} {ns : List Int} {Q : Value → Shared → Prop} (calm : A.handled = none) (hl : s.heap.IsList l xs) (hi : IntsAre xs.toList ns) (few : ns.length + 1 < scanBound)
    (q : ∀ (g : Heap) (tk c : Nat), SetR w g s.heap.objs.size (fun j => decide (j ∈ ns)) c → c ≤ ns.length → (∀ b o, s.heap.get? b = some o → g.get? b = some o) → Q (.ref s.heap.objs.size) { s with heap := g, toks := tk }) :
    wpAny (model P w) A (call (.type "set") [.ref l]) Q E s := by
  have size : xs.size = ns.length := by simpa using IntsAre.length hi
  obtain ⟨_, _, m1⟩ := F.called_set.mro
  have m2 := F.called_set.made
  have m3 := F.called_set.sub
  have m4 := F.called_set.notType
  have m5 := F.called_set.canCreate
  have m6 := F.typeCall_set_1 (.ref l)
  have m7 := F.called_set.init.lookup
  refine wpAny_call (codeAny_of_tree ?_)
  show wpAny (model P w) _ (callAny (.type "set") ⟨[.ref l], []⟩) _ _ s
  refine wpAny_pure ⟨Code.quiet_builtin _ (by decide +kernel), codeAny_builtin F.entry_type_call ?_⟩
  rw [Around.under_plain (weight_type_call_type "set" [.ref l] []) rfl]
  repeat any_goals first | wp_step | assumption
  refine codeAny_mono (code_set_led1 (.ref l) (E := E) (Q₁ := fun v t => v = .ref s.heap.objs.size ∧ t = { s with heap := s.heap.push (bare w) }) ⟨rfl, rfl⟩) fun r t hr => ?_
  match r, hr with
  | .error _, hr => exact hr
  | .ok (.ret _), ⟨e1, e2⟩ =>
    subst e1 e2
    have at0 : (s.heap.push (bare w)).get? s.heap.objs.size = some (bare w) := Heap.get?_push_size _ rfl
    have ty0 : Shared.TypeIs { s with heap := s.heap.push (bare w) } (.ref s.heap.objs.size) "set" := ⟨_, at0, rfl⟩
    have m8 := F.called_set.init.bind (.ref s.heap.objs.size)
    repeat any_goals first | wp_step | assumption
    refine codeAny_mono (codeAny_call_builtin (R := wants (fun v t => v = .none ∧ ∃ g tk c, t = { s with heap := g, toks := tk } ∧ SetR w g s.heap.objs.size (fun j => decide (j ∈ ns)) c ∧ c ≤ ns.length ∧ ∀ b o, s.heap.get? b = some o → g.get? b = some o) E) F.called_set.init.plain F.entry_set_init (check_set_init_1 ty0 ?_)) fun r t hr => ?_
    · obtain ⟨⟨cls0, dict0, dat0, sl0⟩, at1, c1, n1, d1⟩ := hl
      dsimp only at c1 d1
      subst c1 d1
      have at2 : (s.heap.push (bare w)).get? l = some { cls := .type "list", dict := dict0, data := .seq xs n1, slots := sl0 } := Heap.get?_push_of_some _ at1
      have is2 : (s.heap.push (bare w)).IsList l xs := ⟨_, at2, rfl, n1, rfl⟩
      have s1 := F.sub_list_set
      have s2 := F.sub_list_frozenset
      have s3 : ((Value.type "list") == (Value.type "dict")) = false := by decide
      have apart := old_ne (u := bare w) at1
      unfold Builtin.«set.__init__» noKeywords Builtin.Frozenset.updateFrom
      generalize pi : pyIter = it
      wp_walk
      subst pi
      refine wpAny_pyIter_list is2 (wpAny_bind (wpAny_runValue ?_))
      have ne1 : l ≠ (s.heap.push (bare w)).objs.size := fun z => apart (by rw [z]; simp)
      have ne0 : s.heap.objs.size ∉ [(s.heap.push (bare w)).objs.size, l] := fun z => by
        rcases List.mem_cons.mp z with z | z
        · rw [Heap.size_push] at z
          exact absurd z (Nat.ne_of_lt (Nat.lt_succ_self _))
        · exact apart (by rw [← List.mem_singleton.mp z]; simp)
      have each : ∀ (i : Nat) (v : Value), xs[i]? = some v → ∃ k t, ns[i]? = some k ∧ v = .int k t := fun i v hv => by
        have li : i < ns.length := size ▸ (Array.getElem?_eq_some_iff.mp hv).1
        obtain ⟨t, e⟩ := IntsAre.int_at hi i v (by rw [Array.getElem?_toList]; exact hv)
        exact ⟨ns[i], t, List.getElem?_eq_getElem li, by rw [e, List.getD_eq_getElem?_getD, List.getElem?_eq_getElem li]; rfl⟩
      have calm3 : A.in1.in1.in1.handled = none := by simp [calm]
      refine set_update_ints ((Walks.list calm3 _ l ne1 xs).toS) s.heap.objs.size ne0 ns size few each xs.size 0 _ (Nat.sub_zero _) (Nat.zero_le _) ⟨⟨_, Heap.get?_push_size _ rfl, rfl, rfl⟩, is2.push _⟩ ⟨0, Nat.le_refl 0, bare_is (Heap.get?_push_of_some _ at0)⟩ fun t c mv hc hs => ?_
      obtain ⟨g, gs, dr, tk, os⟩ := t
      obtain rfl : gs = s.gens := mv.gens
      obtain rfl : dr = s.drawn := mv.drawn
      obtain rfl : os = s.os := mv.os
      refine wpAny_pure (wpAny_pure ⟨rfl, g, tk, c, rfl, hs, size ▸ hc, fun b o e => mv.heap b o (old_ne e) (Heap.get?_push_of_some _ (Heap.get?_push_of_some _ e))⟩)
    · match r, hr with
      | .error _, hr => exact hr
      | .ok (.ret _), ⟨e1, g, tk, c, e2, hs, hc, old⟩ =>
        subst e1 e2
        repeat any_goals first | wp_step | assumption
        exact q g tk c hs hc old
/-- sorted(x) of a set of ints -/
theorem inOrder {a : Addr} {S : Int → Bool} {n : Nat} {Q : Value → Shared → Prop} (R : SetR w s.heap a S n) (calm : A.handled = none)
    (q : ∀ (t : Shared) (b : Addr) (out : Array Value) (c : Nat) (ns : List Int), (∀ x o, s.heap.get? x = some o → t.heap.get? x = some o) ∧ t.gens = s.gens ∧ t.os = s.os ∧ s.heap.objs.size ≤ b → t.heap.get? b = some (seqObj "list" out c) → IntsAre out.toList ns →
      ns.Pairwise (· < ·) ∧ (∀ k, k ∈ ns ↔ S k = true) ∧ ns.length = n → Q (.ref b) t) :
    wpAny (model P w) A (call (.builtin "sorted") [.ref a]) Q E s := by
  obtain ⟨o, es, ep, tb, r1, r2, r3, good, once, mem, few, fits, len, ris, led⟩ := R
  apply Calls.call_function_entry kind_sorted plain_sorted entry_sorted (args_sorted1 _)
  unfold Builtin.«sorted»
  apply wpAny_bind (m := checkCount "sorted" 1 1 _)
  apply wpAny_pure
  apply wpAny_bind
  refine collect_set (A := A.in1) calm ⟨o, r1, r2.1, r3⟩ fits few ris led fun t us old more g1 g2 perm => ?_
  have lu : us.length = n := by
    rw [perm.length_eq, List.length_map, Array.length_toList, len]
  have small : us.length ≤ sizeLine := by
    have : n < scanBound := len ▸ few
    unfold scanBound at this
    rw [lu, sizeLine_eq]
    omega
  have whole : IntsAre us (us.map SrtO.iv) := SrtO.ints_iv fun v hv => by
    obtain ⟨x, hx, e⟩ := List.mem_map.mp (perm.mem_iff.mp hv)
    obtain ⟨k, tk, e2, _⟩ := good x hx
    exact ⟨k, tk, by rw [← e, e2]⟩
  have keys : (us.map SrtO.iv).Perm (es.toList.map keyOf) := by
    have z := perm.map SrtO.iv
    rw [List.map_map] at z
    refine z.trans (List.Perm.of_eq (List.map_congr_left fun x hx => ?_))
    obtain ⟨k, tk, e2, _⟩ := good x hx
    show SrtO.iv x.2 = keyOf x
    unfold keyOf
    rw [e2]
    rfl
  apply wpAny_bind
  refine wpAny_newList ?_ small
  have at0 : (t.heap.push (seqObj "list" us.toArray 0)).get? t.heap.objs.size = some (seqObj "list" us.toArray 0) := Heap.get?_push_size _ rfl
  apply wpAny_bind
  apply wpAny_holding
  refine wpAny_call_entry slot_list_sort ⟨_, at0, rfl⟩ entry_list_sort (SrtO.list_sort_ord SrtO.swo_int at0 small (fun h2 => SrtO.ints_sortable whole h2) fun out h1 h2 => ?_) (args_list_sort _)
  obtain ⟨k1, k2, k3⟩ := SrtO.ints_out whole h1 h2
  obtain ⟨c, hc⟩ := sortedHeap_at (vs := us) (out := out.toArray) at0
  have pn := k2.trans keys
  refine ⟨_, rfl, wpAny_pure ⟨_, rfl, q _ t.heap.objs.size out.toArray c (out.map SrtO.iv) ⟨fun x u e => ?_, g1, g2, more⟩ hc k1 ⟨?_, fun k => by rw [pn.mem_iff, ← mem k], by rw [pn.length_eq, List.length_map, Array.length_toList, len]⟩⟩⟩
  · have e1 := old x u e
    have lt := Heap.lt_size e1
    show (sortedHeap (t.heap.push (seqObj "list" us.toArray 0)) t.heap.objs.size us out.toArray).get? x = some u
    rw [sortedHeap_old (Nat.ne_of_lt lt) (by rw [size_push']; exact Nat.lt_succ_of_lt lt)]
    exact Heap.get?_push_of_some _ e1
  · exact lt_of_le_nodup _ k3 (pn.nodup_iff.mpr once)
end
end SetL
/-! ## Readings told by plain data: sets of ints, lists in order -/
namespace Lf
open PySem PySem.Spec PyProof.Rows L2
open PySem.W (Frag)
section
variable {X : Cx}
def rSetL (K : Frag) (w : World) : List V → Hp → VK → Prop := fun vs H Q => ∃ (a : Addr) (ns : List Int), vs = [.ref a] ∧ SqL K H a (ns.map V.int) ∧ ns.length + 1 < scanBound ∧ ∀ (p : Addr) (c : Nat), H p = none → Q (.ref p) (upd H p (SetO w p (fun j => decide (j ∈ ns)) c))
theorem cr_setL (hc : X.calm = true) : CallR X (.type "set") (rSetL X.K X.w) := by
  intro pins s σ H xs us Q I r h
  obtain ⟨a, ns, rfl, hs, few, q⟩ := h
  obtain ⟨its, rv, hl, _⟩ := I.list hs
  rw [Vals.ref1 r]
  refine SetL.made (I.ok.hd hc) hl.isList (by simpa using rv.ints) few fun g tk c R _ old => ?_
  exact ⟨.ref _, upd H s.heap.objs.size (SetO X.w s.heap.objs.size (fun j => decide (j ∈ ns)) c), I.laid (t' := tk) old (Nat.le_refl _) (setO_new R), rfl, q _ c (I.hok.fresh (Nat.le_refl _))⟩
def rSortS (w : World) : List V → Hp → VK → Prop := fun vs H Q => ∃ (a : Addr) (S : Int → Bool) (n : Nat), vs = [V.ref a] ∧ H a = some (SetO w a S n) ∧
  ∀ (ns : List Int) (p : Addr), ns.Pairwise (· < ·) → (∀ k : Int, k ∈ ns ↔ S k = true) → ns.length ≤ sizeLine → H p = none → Q (.ref p) (upd H p (.lst (ns.map V.int)))
theorem cr_sortS (hc : X.calm = true) : CallR X (.builtin "sorted") (rSortS X.w) := by
  intro pins s σ H vs us Q I r h
  obtain ⟨a, S, n, rfl, ha, q⟩ := h
  have R := setO_get I ha
  have few : n < scanBound := by
    obtain ⟨_, es, _, _, _, _, _, _, _, _, few, _, len, _⟩ := R
    exact len ▸ few
  rw [Vals.ref1 r]
  refine SetL.inOrder R (I.ok.hd hc) fun t b out c ns old at_ isI facts => ?_
  obtain ⟨k, g, o, new⟩ := old
  obtain ⟨inc, mem, len⟩ := facts
  have small : ns.length ≤ sizeLine := by
    unfold scanBound at few
    rw [len, sizeLine_eq]
    omega
  have free : H b = none := I.hok.fresh new
  have J : Inv X pins σ (upd H b (.lst (ns.map V.int))) { s with heap := t.heap, gens := t.gens, drawn := t.drawn, toks := t.toks } :=
    I.call (ch := []) (Un.laid k new free) (I.hok.laid k new ⟨by rw [List.length_map]; exact small, out.toList, c, vals_of_ints isI, at_⟩) (by rw [g]; exact I.bare) (fun _ z => nomatch z)
  obtain ⟨_, _, _, _, _⟩ := t
  subst o
  exact ⟨.ref b, _, J, rfl, q ns b inc mem small free⟩
end
/-- a set of ints, told by a list of its members -/
structure ISet (w : World) where
  l : List Int
instance {w : World} : Rp (ISet w) := ⟨fun _ G v x => ∃ p S n, v = .ref p ∧ G p = some (SetO w p S n) ∧ ∀ k : Int, S k = true ↔ k ∈ x.l, fun s ⟨p, S, n, e, h, m⟩ => ⟨p, S, n, e, s.at h, m⟩⟩
def mkSet (w : World) (xs : List Int) : Option (ISet w) := if xs.length < 4000 then some ⟨xs⟩ else none
/-- the members in order, each once -/
def insU (x : Int) : List Int → List Int
  | [] => [x]
  | y :: ys => if x < y then x :: y :: ys else if x = y then y :: ys else y :: insU x ys
def sortU (l : List Int) : List Int := l.foldr insU []
theorem insU_mem (x k : Int) : ∀ l : List Int, k ∈ insU x l ↔ k = x ∨ k ∈ l
  | [] => by simp [insU]
  | y :: ys => by
    unfold insU
    split
    · simp
    · split
      · rename_i e
        subst e
        simp
      · rw [List.mem_cons, insU_mem x k ys, List.mem_cons]
        constructor
        · rintro (h | h | h) <;> simp [h]
        · rintro (h | h | h) <;> simp [h]
theorem insU_inc (x : Int) : ∀ {l : List Int}, l.Pairwise (· < ·) → (insU x l).Pairwise (· < ·)
  | [], _ => by simp [insU]
  | y :: ys, h => by
    obtain ⟨h1, h2⟩ := List.pairwise_cons.mp h
    unfold insU
    split
    · rename_i c
      refine List.pairwise_cons.mpr ⟨fun z hz => ?_, h⟩
      rcases List.mem_cons.mp hz with e | e
      · subst e
        exact c
      · have := h1 z e
        omega
    · split
      · exact h
      · refine List.pairwise_cons.mpr ⟨fun z hz => ?_, insU_inc x h2⟩
        rcases (insU_mem x z ys).mp hz with e | e
        · subst e
          omega
        · exact h1 z e
theorem sortU_inc : ∀ l : List Int, (sortU l).Pairwise (· < ·)
  | [] => .nil
  | x :: l => insU_inc x (sortU_inc l)
theorem sortU_mem (k : Int) : ∀ l : List Int, k ∈ sortU l ↔ k ∈ l
  | [] => by simp [sortU]
  | x :: l => by
    show k ∈ insU x (sortU l) ↔ _
    rw [insU_mem, sortU_mem k l, List.mem_cons]
theorem inc_eq : ∀ {xs ys : List Int}, xs.Pairwise (· < ·) → ys.Pairwise (· < ·) → (∀ k, k ∈ xs ↔ k ∈ ys) → xs = ys
  | [], [], _, _, _ => rfl
  | [], y :: ys, _, _, h => by
    have := (h y).mpr List.mem_cons_self
    cases this
  | x :: xs, [], _, _, h => by
    have := (h x).mp List.mem_cons_self
    cases this
  | x :: xs, y :: ys, h1, h2, h => by
    obtain ⟨a1, a2⟩ := List.pairwise_cons.mp h1
    obtain ⟨b1, b2⟩ := List.pairwise_cons.mp h2
    have e : x = y := by
      rcases List.mem_cons.mp ((h x).mp List.mem_cons_self) with e | e
      · exact e
      · rcases List.mem_cons.mp ((h y).mpr List.mem_cons_self) with e' | e'
        · exact e'.symm
        · have := b1 x e
          have := a1 y e'
          omega
    subst e
    rw [inc_eq a2 b2 fun k => ?_]
    constructor
    · intro hk
      rcases List.mem_cons.mp ((h k).mp (List.mem_cons_of_mem _ hk)) with e | e
      · subst e
        exact absurd (a1 _ hk) (by omega)
      · exact e
    · intro hk
      rcases List.mem_cons.mp ((h k).mpr (List.mem_cons_of_mem _ hk)) with e | e
      · subst e
        exact absurd (b1 _ hk) (by omega)
      · exact e
theorem le_eq : ∀ {xs ys : List Int}, xs.Pairwise (· ≤ ·) → ys.Pairwise (· ≤ ·) → xs.Perm ys → xs = ys := fun h1 h2 p => List.Perm.eq_of_pairwise (fun a b _ _ x y => by omega) h1 h2 p
/-- in order -/
def insI (x : Int) : List Int → List Int
  | [] => [x]
  | y :: ys => if x ≤ y then x :: y :: ys else y :: insI x ys
def sortI (l : List Int) : List Int := l.foldr insI []
theorem insI_perm (x : Int) : ∀ l : List Int, (insI x l).Perm (x :: l)
  | [] => .refl _
  | y :: ys => by
    unfold insI
    split
    · exact .refl _
    · exact ((insI_perm x ys).cons y).trans (.swap x y ys)
theorem insI_inc (x : Int) : ∀ {l : List Int}, l.Pairwise (· ≤ ·) → (insI x l).Pairwise (· ≤ ·)
  | [], _ => by simp [insI]
  | y :: ys, h => by
    obtain ⟨h1, h2⟩ := List.pairwise_cons.mp h
    unfold insI
    split
    · rename_i c
      refine List.pairwise_cons.mpr ⟨fun z hz => ?_, h⟩
      rcases List.mem_cons.mp hz with e | e
      · subst e
        exact c
      · have := h1 z e
        omega
    · refine List.pairwise_cons.mpr ⟨fun z hz => ?_, insI_inc x h2⟩
      rcases List.mem_cons.mp ((insI_perm x ys).mem_iff.mp hz) with e | e
      · subst e
        omega
      · exact h1 z e
theorem sortI_perm : ∀ l : List Int, (sortI l).Perm l
  | [] => .refl _
  | x :: l => (insI_perm x _).trans ((sortI_perm l).cons x)
theorem sortI_inc : ∀ l : List Int, (sortI l).Pairwise (· ≤ ·)
  | [] => .nil
  | x :: l => insI_inc x (sortI_inc l)
section
variable {K : Frag} {w : World} {ω : List Ent}
theorem all_ints {G : Hp} (ns : List Int) : All K G (ns.map V.int) ns := by
  induction ns with
  | nil => exact .nil
  | cons x ns ih => exact .cons rfl ih
theorem CaX.setL {xs : List Int} {s : ISet w} (h : mkSet w xs = some s) : CaX (rSetL K w) ω ω [is K xs] (is K s) := fun G H vs Q wA pa q => by
  obtain ⟨v, rfl, a, us, rfl, e, ha, l⟩ := PArgs.one pa
  unfold mkSet at h
  split at h
  · rename_i c
    cases h
    refine ⟨a, xs, rfl, by rw [← ints_of ha]; exact RC.sq_of (wA.lst e), by unfold scanBound; omega, fun p c hp => ?_⟩
    obtain ⟨w2, s2⟩ := wA.new (o := SetO w p (fun j => decide (j ∈ xs)) c) hp
    exact q _ _ _ s2 w2 ⟨p, _, c, rfl, upd_same, fun k => by simp⟩
  · cases h
theorem CaF.sortS {s : ISet w} : CaF (rSortS w) ω ω [is K s] (olst K (sortU s.l)) := fun G H vs Q wA pa q => by
  obtain ⟨v, rfl, p, S, n, rfl, e, m⟩ := PArgs.one pa
  refine ⟨p, S, n, rfl, wA.get e, fun ns b inc mem small free => ?_⟩
  have en : ns = sortU s.l := inc_eq inc (sortU_inc _) fun k => by rw [mem k, m k, sortU_mem]
  rw [en] at small ⊢
  exact q b G _ (Le.refl _) (newL wA free (all_ints _) small)
theorem CaF.sortI {xs : List Int} : CaF (rSortedI K) ω ω [is K xs] (olst K (Lf.sortI xs)) := fun G H vs Q wA pa q => by
  obtain ⟨v, rfl, a, us, rfl, e, ha, l⟩ := PArgs.one pa
  refine ⟨a, xs, rfl, by rw [← ints_of ha]; exact RC.sq_of (wA.lst e), fun ns b perm inc free => ?_⟩
  have en : ns = Lf.sortI xs := le_eq inc (sortI_inc _) (perm.trans (sortI_perm xs).symm)
  rw [en]
  exact q b G _ (Le.refl _) (newL wA free (all_ints _) (by rw [(sortI_perm xs).length_eq]; exact l))
end
end Lf
namespace Lf
open PySem PySem.Spec PyProof.Rows L2
open PySem.W (Frag)
def setOk (xs : List Int) : Option (List Int) := if xs.length < 4000 then some (sortU xs) else none
theorem EvF.sortedSet {K : Frag} {w : World} {Γ : Gm} {ω ω1 : List Ent} {tA : TA} {xs ys : List Int} (h : EvA tA Γ ω ω1 [is K xs]) (e : setOk xs = some ys) : EvF (tCB (rSortS w) (tCons (tCB (rSetL K w) tA) tNil)) Γ ω ω1 (olst K ys) := by
  unfold setOk at e
  split at e
  · rename_i c
    cases e
    exact EvF.ca (EvA.cons (EvX.ca h (CaX.setL (w := w) (s := ⟨xs⟩) (by unfold mkSet; rw [if_pos c]))) EvA.nil) CaF.sortS
  · cases e
end Lf
namespace Lf
open PySem PySem.Spec PyProof.Rows L2
open PySem.W (Frag)
section
variable {K : Frag} {ω : List Ent} {a b : MP} {α : Type} [t : Dat α]
/-- data that stand still or are one's own -/
def DtAt (K : Frag) (ω : List Ent) (a : MP) (x : α) : Prop := ∀ (G H : Hp) (v : V), At G ω H → a.p G v → Dp K H v (t.d x)
theorem DtAt.of {x : α} : DtAt K ω (is K x) x := fun G H v w p => t.dp w p
theorem DtAt.own {xs : List α} {k : Nat} {p : Addr} (ho : ω[k]? = some (Ent.own p (olst K xs))) : DtAt K ω (adr p) xs := fun G H v w e => by
  obtain ⟨o, eo, us, rfl, hu, _⟩ := w.ownAt ho
  cases e
  exact .lst (RC.sq_of eo) (dpa w hu)
theorem OpX.eqA [DecidableEq α] {x y : α} (ha : DtAt K ω a x) (hb : DtAt K ω b y) (h : t.deep ≤ 64) : OpX (rEqD K) ω ω a b (is K (decide (x = y))) := fun G H u v Q w p1 p2 q => by
  refine ⟨t.d x, t.d y, ha G H u w p1, hb G H v w p2, Dat.shaped h x, Dat.shaped h y, q _ G H (Le.refl _) w ?_⟩
  show V.bl _ = V.bl _
  rw [t.eqv]
  congr
theorem OpX.neA [DecidableEq α] {x y : α} (ha : DtAt K ω a x) (hb : DtAt K ω b y) (h : t.deep ≤ 64) : OpX (rNeD K) ω ω a b (is K (!decide (x = y))) := fun G H u v Q w p1 p2 q => by
  refine ⟨t.d x, t.d y, ha G H u w p1, hb G H v w p2, Dat.shaped h x, Dat.shaped h y, q _ G H (Le.refl _) w ?_⟩
  show V.bl _ = V.bl _
  rw [t.eqv]
  congr
end
/-! repr of what may be None, too -/
class Shw (α : Type) extends Rp α where
  d : α → PyData
  dp : ∀ {K : Frag} {G H : Hp} {ω : List Ent} {v : V} {x : α}, At G ω H → Rp.rep K G v x → Dp K H v (d x)
  lay : ∀ x : α, (d x).canLay0 = true
  deep : Nat
  dep : ∀ x : α, (d x).depth ≤ deep
instance {α : Type} [t : Dat α] : Shw α := { d := t.d, dp := t.dp, lay := t.lay, deep := t.deep, dep := t.dep }
instance : Shw Bool where
  d := .bool
  dp _ h := by
    cases h
    exact .bl _
  lay _ := by simp [PyData.canLay0]
  deep := 0
  dep _ := by simp [PyData.depth]
instance {α : Type} [t : Shw α] : Shw (Option α) where
  d x := match x with
    | none => .none
    | some x => t.d x
  dp {K G H ω v x} w h := match x, h with
    | none, h => by
      cases h
      exact .non
    | some x, h => t.dp w h.1
  lay x := match x with
    | none => by simp [PyData.canLay0]
    | some x => t.lay x
  deep := t.deep
  dep x := match x with
    | none => by simp [PyData.depth]
    | some x => t.dep x
section
variable {K : Frag} {ω : List Ent} {a b : MP}
def ShAt {α : Type} [t : Shw α] (K : Frag) (ω : List Ent) (a : MP) (x : α) : Prop := ∀ (G H : Hp) (v : V), At G ω H → a.p G v → Dp K H v (t.d x)
theorem ShAt.of {α : Type} [t : Shw α] {x : α} : ShAt K ω (is K x) x := fun G H v w p => t.dp w p
theorem ShAt.own {α : Type} [t : Dat α] {xs : List α} {k : Nat} {p : Addr} (ho : ω[k]? = some (Ent.own p (olst K xs))) : ShAt K ω (adr p) xs := DtAt.own ho
def told {α : Type} [t : Shw α] (x : α) : Option Str := if (t.d x).showable = true ∧ (t.d x).shown.length ≤ sizeLine then some (t.d x).shown else none
theorem CaX.told {α : Type} [t : Shw α] {x : α} {y : Str} (ha : ShAt K ω a x) (h : told x = some y) (hd : t.deep ≤ 40) : CaX (RC.rReprD K) ω ω [a] (is K y) := fun G H vs Q w p q => by
  obtain ⟨v, rfl, e⟩ := PArgs.one p
  unfold Lf.told at h
  split at h
  · rename_i c
    cases h
    exact ⟨v, t.d x, rfl, ha G H v w e, c.1, t.lay x, Nat.le_trans (t.dep x) hd, c.2, q _ G H (Le.refl _) w rfl⟩
  · cases h
end
end Lf
/-! ## set(xs) of a long list of few ints -/
namespace SetM
open PySem PySem.Spec PyProof.Rows L2 SetL
/-- members enough are never met -/
def Few (ns : List Int) : Prop := ∀ as : List Int, as.Nodup → (∀ x ∈ as, x ∈ ns) → as.length + 1 < scanBound
theorem nodup_le : ∀ {as bs : List Int}, as.Nodup → (∀ x ∈ as, x ∈ bs) → as.length ≤ bs.length
  | [], _, _, _ => Nat.zero_le _
  | x :: as, bs, u, h => by
    obtain ⟨u1, u2⟩ := List.nodup_cons.mp u
    have m := h x List.mem_cons_self
    have le := nodup_le (as := as) (bs := bs.erase x) u2 fun y hy => (List.mem_erase_of_ne (fun e => u1 (by rw [← e]; exact hy))).mpr (h y (List.mem_cons_of_mem _ hy))
    have l := List.length_erase_of_mem m
    have := List.length_pos_of_mem m
    rw [List.length_cons]
    omega
section
variable {P : Program} {w : World} {A : Around} {E : Value → Shared → Prop} {s : Shared}
/-- the members so far, one more item: kept as a list without repeats -/
theorem grown {ns as : List Int} {i : Nat} {z : Int} (hz : ns[i]? = some z) (nd : as.Nodup) (mem : ∀ x, x ∈ as ↔ x ∈ ns.take i) : ∃ bs : List Int, bs.Nodup ∧ (∀ x, x ∈ bs ↔ x ∈ ns.take (i + 1)) ∧ bs.length = (if decide (z ∈ ns.take i) = true then as.length else as.length + 1) := by
  have tk : ∀ x, x ∈ ns.take (i + 1) ↔ x ∈ ns.take i ∨ x = z := fun x => by
    rw [List.take_add_one, hz]
    simp
  by_cases c : z ∈ ns.take i
  · refine ⟨as, nd, fun x => ?_, by rw [if_pos (decide_eq_true c)]⟩
    rw [tk, mem]
    exact ⟨.inl, fun h => h.elim id fun e => e ▸ c⟩
  · refine ⟨z :: as, List.nodup_cons.mpr ⟨fun h => c ((mem z).mp h), nd⟩, fun x => ?_, by rw [if_neg (by rw [decide_eq_false c]; decide)]; rfl⟩
    rw [tk, List.mem_cons, mem]
    exact Or.comm
/-- the update from the i-th item on -/
theorem onward {it S : Addr} {fp wr : List Addr} {gr : Array GenState → Array GenState → Prop} {n : Nat} {item : Nat → Value → Prop} {st : Nat → Shared → Prop} {R : Result → Shared → Prop}
    (walk : WalksS P w A.in1 it fp wr gr n item st) (apart : S ∉ fp) {ns : List Int} (size : ns.length = n) (few : Few ns) (allI : ∀ i v, item i v → ∃ k t, ns[i]? = some k ∧ v = .int k t) (left : Nat) :
    ∀ (i : Nat) (s : Shared), i + left = n → st i s → (∃ as : List Int, as.Nodup ∧ (∀ x, x ∈ as ↔ x ∈ ns.take i) ∧ SetR w s.heap S (fun j => decide (j ∈ ns.take i)) as.length) →
      (∀ t c, Moved (S :: wr) gr s t → SetR w t.heap S (fun j => decide (j ∈ ns)) c → R (.ok (.ret .none)) t) → codeAny (model P w) A (.builtin "set.update.loop" ⟨[.ref S, .ref it], []⟩) R s := by
  have other : S ∉ wr := fun m => apart (walk.sub _ m)
  have wider : ∀ a ∈ wr, a ∈ S :: wr := fun a m => .tail _ m
  induction left with
  | zero =>
    rintro i s full here ⟨as, nd, mem, set⟩ done
    obtain rfl : i = ns.length := by omega
    rw [List.take_length] at set
    apply codeAny_builtin F.entry_set_update_loop
    rw [Around.under_plainId F.plain_set_update_loop _]
    exact wpAny_bind (m := pyNext (.ref it)) (walk.done s _ _ (size ▸ here) fun t mv => wpAny_pure (done t _ (mv.mono wider) (set.at fun o e => mv.heap S o other e)))
  | succ left more =>
    rintro i s part here ⟨as, nd, mem, set⟩ done
    have more_ : i < n := by omega
    apply codeAny_builtin F.entry_set_update_loop
    rw [Around.under_plainId F.plain_set_update_loop _]
    refine wpAny_bind (m := pyNext (.ref it)) (walk.item i s _ _ more_ here fun v t isItem next mv => ?_)
    obtain ⟨z, tok, hz, rfl⟩ := allI i v isItem
    obtain ⟨bs, nd2, mem2, len2⟩ := grown hz nd mem
    have room := few as nd fun x hx => List.mem_of_mem_take ((mem x).mp hx)
    have set1 := set.at (fun o e => mv.heap S o other e : ∀ o, s.heap.get? S = some o → t.heap.get? S = some o)
    refine wpAny_bind (m := holding [Value.int z tok] (setAdd S (.int z tok))) (wpAny_holding ?_)
    unfold setAdd
    apply wpAny_holding
    apply wpAny_bind
    refine (intKind P w).pyHash (k := z) (intKind_is _ _ _ _) (setR_add_hashed (s := { t with toks := t.toks + 1 }) set1 room fun g same set2 => wpAny_pure ⟨plainId_quiet F.plain_set_update_loop _, ?_⟩)
    have old : ∀ a o, a ≠ S → t.heap.get? a = some o → g.get? a = some o := fun a o ne e => by
      rw [same.2 a ne]
      exact e
    refine more (i + 1) _ (by omega) (walk.frame _ t _ _ next (Nat.le_succ _) fun a m o e => old a o (fun z => apart (z ▸ m)) e) ⟨bs, nd2, mem2, ?_⟩ fun u c mv2 last => ?_
    · rw [len2]
      refine set2.congr fun j => ?_
      rw [← Bool.decide_or]
      refine decide_eq_decide.mpr ?_
      rw [List.take_add_one, hz]
      simp
    · exact done u c (Moved.trans walk.gtrans ((mv.mono wider).then_heap (Nat.le_succ _) fun a o no e => old a o (fun z => no (z ▸ .head _)) e) mv2) last
set_option maxRecDepth 100000 in
set_option maxHeartbeats 3200000 in
/-- what set(l) leaves: the members are those of the list -/
theorem made {l : Addr} {xs : Array Value} {ns : List Int} {Q : Value → Shared → Prop} (calm : A.handled = none) (hl : s.heap.IsList l xs) (hi : IntsAre xs.toList ns) (few : Few ns)
    (q : ∀ (g : Heap) (tk c : Nat), SetR w g s.heap.objs.size (fun j => decide (j ∈ ns)) c → (∀ b o, s.heap.get? b = some o → g.get? b = some o) → Q (.ref s.heap.objs.size) { s with heap := g, toks := tk }) :
    wpAny (model P w) A (call (.type "set") [.ref l]) Q E s := by
  have size : xs.size = ns.length := by simpa using IntsAre.length hi
  obtain ⟨_, _, m1⟩ := F.called_set.mro
  have m2 := F.called_set.made
  have m3 := F.called_set.sub
  have m4 := F.called_set.notType
  have m5 := F.called_set.canCreate
  have m6 := F.typeCall_set_1 (.ref l)
  have m7 := F.called_set.init.lookup
  refine wpAny_call (codeAny_of_tree ?_)
  show wpAny (model P w) _ (callAny (.type "set") ⟨[.ref l], []⟩) _ _ s
  refine wpAny_pure ⟨Code.quiet_builtin _ (by decide +kernel), codeAny_builtin F.entry_type_call ?_⟩
  rw [Around.under_plain (weight_type_call_type "set" [.ref l] []) rfl]
  repeat any_goals first | wp_step | assumption
  refine codeAny_mono (code_set_led1 (.ref l) (E := E) (Q₁ := fun v t => v = .ref s.heap.objs.size ∧ t = { s with heap := s.heap.push (bare w) }) ⟨rfl, rfl⟩) fun r t hr => ?_
  match r, hr with
  | .error _, hr => exact hr
  | .ok (.ret _), ⟨e1, e2⟩ =>
    subst e1 e2
    have at0 : (s.heap.push (bare w)).get? s.heap.objs.size = some (bare w) := Heap.get?_push_size _ rfl
    have ty0 : Shared.TypeIs { s with heap := s.heap.push (bare w) } (.ref s.heap.objs.size) "set" := ⟨_, at0, rfl⟩
    have m8 := F.called_set.init.bind (.ref s.heap.objs.size)
    repeat any_goals first | wp_step | assumption
    refine codeAny_mono (codeAny_call_builtin (R := wants (fun v t => v = .none ∧ ∃ g tk c, t = { s with heap := g, toks := tk } ∧ SetR w g s.heap.objs.size (fun j => decide (j ∈ ns)) c ∧ ∀ b o, s.heap.get? b = some o → g.get? b = some o) E) F.called_set.init.plain F.entry_set_init (check_set_init_1 ty0 ?_)) fun r t hr => ?_
    · obtain ⟨⟨cls0, dict0, dat0, sl0⟩, at1, c1, n1, d1⟩ := hl
      dsimp only at c1 d1
      subst c1 d1
      have at2 : (s.heap.push (bare w)).get? l = some { cls := .type "list", dict := dict0, data := .seq xs n1, slots := sl0 } := Heap.get?_push_of_some _ at1
      have is2 : (s.heap.push (bare w)).IsList l xs := ⟨_, at2, rfl, n1, rfl⟩
      have s1 := F.sub_list_set
      have s2 := F.sub_list_frozenset
      have s3 : ((Value.type "list") == (Value.type "dict")) = false := by decide
      have apart := old_ne (u := bare w) at1
      unfold Builtin.«set.__init__» noKeywords Builtin.Frozenset.updateFrom
      generalize pi : pyIter = it
      wp_walk
      subst pi
      refine wpAny_pyIter_list is2 (wpAny_bind (wpAny_runValue ?_))
      have ne1 : l ≠ (s.heap.push (bare w)).objs.size := fun z => apart (by rw [z]; simp)
      have ne0 : s.heap.objs.size ∉ [(s.heap.push (bare w)).objs.size, l] := fun z => by
        rcases List.mem_cons.mp z with z | z
        · rw [Heap.size_push] at z
          exact absurd z (Nat.ne_of_lt (Nat.lt_succ_self _))
        · exact apart (by rw [← List.mem_singleton.mp z]; simp)
      have each : ∀ (i : Nat) (v : Value), xs[i]? = some v → ∃ k t, ns[i]? = some k ∧ v = .int k t := fun i v hv => by
        have li : i < ns.length := size ▸ (Array.getElem?_eq_some_iff.mp hv).1
        obtain ⟨t, e⟩ := IntsAre.int_at hi i v (by rw [Array.getElem?_toList]; exact hv)
        exact ⟨ns[i], t, List.getElem?_eq_getElem li, by rw [e, List.getD_eq_getElem?_getD, List.getElem?_eq_getElem li]; rfl⟩
      have calm3 : A.in1.in1.in1.handled = none := by simp [calm]
      refine onward ((Walks.list calm3 _ l ne1 xs).toS) ne0 size.symm few each xs.size 0 _ (Nat.zero_add _) ⟨⟨_, Heap.get?_push_size _ rfl, rfl, rfl⟩, is2.push _⟩ ⟨[], List.nodup_nil, fun x => by rw [List.take_zero], bare_is (Heap.get?_push_of_some _ at0)⟩ fun t c mv hs => ?_
      obtain ⟨g, gs, dr, tk, os⟩ := t
      obtain rfl : gs = s.gens := mv.gens
      obtain rfl : dr = s.drawn := mv.drawn
      obtain rfl : os = s.os := mv.os
      refine wpAny_pure (wpAny_pure ⟨rfl, g, tk, c, rfl, hs, fun b o e => mv.heap b o (old_ne e) (Heap.get?_push_of_some _ (Heap.get?_push_of_some _ e))⟩)
    · match r, hr with
      | .error _, hr => exact hr
      | .ok (.ret _), ⟨e1, g, tk, c, e2, hs, old⟩ =>
        subst e1 e2
        repeat any_goals first | wp_step | assumption
        exact q g tk c hs old
end
end SetM
namespace Lf
open PySem PySem.Spec PyProof.Rows L2
open PySem.W (Frag)
section
variable {X : Cx}
def rSetM (K : Frag) (w : World) : List V → Hp → VK → Prop := fun vs H Q => ∃ (a : Addr) (ns : List Int), vs = [.ref a] ∧ SqL K H a (ns.map V.int) ∧ SetM.Few ns ∧ ∀ (p : Addr) (c : Nat), H p = none → Q (.ref p) (upd H p (SetO w p (fun j => decide (j ∈ ns)) c))
theorem cr_setM (hc : X.calm = true) : CallR X (.type "set") (rSetM X.K X.w) := by
  intro pins s σ H xs us Q I r h
  obtain ⟨a, ns, rfl, hs, few, q⟩ := h
  obtain ⟨its, rv, hl, _⟩ := I.list hs
  rw [Vals.ref1 r]
  refine SetM.made (I.ok.hd hc) hl.isList (by simpa using rv.ints) few fun g tk c R old => ?_
  exact ⟨.ref _, upd H s.heap.objs.size (SetO X.w s.heap.objs.size (fun j => decide (j ∈ ns)) c), I.laid (t' := tk) old (Nat.le_refl _) (setO_new R), rfl, q _ c (I.hok.fresh (Nat.le_refl _))⟩
end
/-- set(xs), told in order: not too many members -/
def setFew (xs : List Int) : Option (List Int) := if (sortU xs).length < 4000 then some (sortU xs) else none
theorem few_of {xs : List Int} (h : (sortU xs).length < 4000) : SetM.Few xs := fun as nd sub => by
  have := SetM.nodup_le (as := as) (bs := sortU xs) nd fun x hx => (sortU_mem x xs).mpr (sub x hx)
  unfold scanBound
  omega
section
variable {K : Frag} {w : World} {ω : List Ent}
theorem CaX.setM {xs : List Int} (few : SetM.Few xs) : CaX (rSetM K w) ω ω [is K xs] (is K (ISet.mk (w := w) xs)) := fun G H vs Q wA pa q => by
  obtain ⟨v, rfl, a, us, rfl, e, ha, l⟩ := PArgs.one pa
  refine ⟨a, xs, rfl, by rw [← ints_of ha]; exact RC.sq_of (wA.lst e), few, fun p c hp => ?_⟩
  obtain ⟨w2, s2⟩ := wA.new (o := SetO w p (fun j => decide (j ∈ xs)) c) hp
  exact q _ _ _ s2 w2 ⟨p, _, c, rfl, upd_same, fun k => by simp⟩
end
theorem EvF.sortedSetM {K : Frag} {w : World} {Γ : Gm} {ω ω1 : List Ent} {tA : TA} {xs ys : List Int} (h : EvA tA Γ ω ω1 [is K xs]) (e : setFew xs = some ys) : EvF (tCB (rSortS w) (tCons (tCB (rSetM K w) tA) tNil)) Γ ω ω1 (olst K ys) := by
  unfold setFew at e
  split at e
  · rename_i c
    cases e
    exact EvF.ca (EvA.cons (EvX.ca h (CaX.setM (w := w) (few_of c))) EvA.nil) CaF.sortS
  · cases e
end Lf
/-! ## sorted(d), d a dict by ints -/
namespace SortD
open PySem PySem.Calls PySem.Spec PyProof.Rows PyProof.V L2
section
variable {P : Program} {w : World} {A : Around} {E : Value → Shared → Prop} {s : Shared}
/-- what is gathered out of a source lies behind what was there -/
theorem gather {T : String} {r d : Addr} {n : Nat} {G : Nat → Value → Prop} {OK : Heap → Prop} {R : List Value → Shared → Prop} (K : PySem.W.KdlSrc P w T r d n G OK) (calm : A.handled = none) (ok : OK s.heap) (small : n ≤ sizeLine)
    (h : ∀ (h' : Heap) (tk : Nat) (acc : Array Value), (∀ b o, s.heap.get? b = some o → h'.get? b = some o) → s.heap.objs.size < h'.objs.size → ItemsOf G acc n → R acc.toList { s with heap := h', toks := tk }) : wpAny (model P w) A (collect (.ref r)) R E s := by
  obtain ⟨lr, ld⟩ := K.there _ ok
  have at0 : (s.heap.push { cls := .type "list", data := .seq ([] : List Value).toArray }).get? s.heap.objs.size = some { cls := .type "list", data := .seq #[] } := Heap.get?_push_size _ rfl
  have walk := PySem.W.kdl_extend (A := A) (s := { s with heap := s.heap.push { cls := .type "list", data := .seq ([] : List Value).toArray } }) (R := fun fin t => fin = .ok (.ret (.ref s.heap.objs.size)) ∧ ∃ (h' : Heap) (tk : Nat) (acc : Array Value) (c : Nat), t = { s with heap := h', toks := tk } ∧ (∀ b o, s.heap.get? b = some o → h'.get? b = some o) ∧ h'.get? s.heap.objs.size = some { cls := .type "list", dict := none, data := .seq acc c, slots := #[] } ∧ ItemsOf G acc n) K calm
    (K.keep _ _ ok fun b _ o e => Heap.get?_push_of_some _ e) s.heap.objs.size (Nat.ne_of_gt lr) (Nat.ne_of_gt ld) (.ref s.heap.objs.size) 0 at0
    (fun h' tk acc c old here items => ⟨rfl, h', tk, acc, c, rfl, fun b o e => old b o (Nat.ne_of_lt (Heap.lt_size e)) (Heap.get?_push_of_some _ e), here, items⟩) small
  have back : ∀ (t : Shared), (∃ (h' : Heap) (tk : Nat) (acc : Array Value) (c : Nat), t = { s with heap := h', toks := tk } ∧ (∀ b o, s.heap.get? b = some o → h'.get? b = some o) ∧ h'.get? s.heap.objs.size = some { cls := .type "list", dict := none, data := .seq acc c, slots := #[] } ∧ ItemsOf G acc n) →
      ∃ (acc : Array Value) (c : Nat), t.heap.get? s.heap.objs.size = some { cls := .type "list", dict := none, data := .seq acc c, slots := #[] } ∧ R acc.toList t := fun t ⟨h', tk, acc, c, e, old, here, items⟩ => by
    subst e
    exact ⟨acc, c, here, h h' tk acc old (Heap.lt_size here) items⟩
  unfold collect
  apply wpAny_bind
  apply wpAny_runValue
  apply codeAny_builtin F.entry_proto_collect
  rewrite [Around.under_plainId F.plain_proto_collect _]
  apply wpAny_bind
  refine wpAny_newObj_type ?_
  refine wpAny_pure (And.intro (plainId_quiet F.plain_list_iadd _) ?_)
  apply codeAny_builtin F.entry_list_iadd
  rewrite [Around.under_plainId F.plain_list_iadd _]
  refine wpAny_mono walk (fun fin t end_ => ?_) fun e t no => absurd no.1 (fun z => nomatch z)
  match fin, end_ with
  | .done f, ⟨e, more⟩ =>
    cases e
    obtain ⟨acc, c, here, done⟩ := back t more
    exact wpAny_bind (wpAny_load here (wpAny_pure done))
  | .again c', ⟨q, run⟩ =>
    refine ⟨q, codeAny_mono run fun fin t2 end2 => ?_⟩
    obtain ⟨e, more⟩ := end2
    subst e
    obtain ⟨acc, c, here, done⟩ := back t2 more
    exact wpAny_bind (wpAny_load here (wpAny_pure done))
/-- the keys of the dict at a, in order, as a new list -/
theorem keysInOrder {a : Addr} {kvs : List (Key × Value)} {ns : List Int} {Q : Value → Shared → Prop} (calm : A.handled = none) (lo : (a == sysModules) = false) (df : s.heap.DictOf (mixKind P w) a kvs) (small : kvs.length ≤ sizeLine) (ek : kvs.map (·.1) = ns.map Sum.inl)
    (q : ∀ (h' : Heap) (tk : Nat) (b : Addr) (out : Array Value) (c : Nat) (ms : List Int), (∀ x o, s.heap.get? x = some o → h'.get? x = some o) → s.heap.objs.size ≤ b → h'.get? b = some (seqObj "list" out c) → IntsAre out.toList ms → ms.Perm ns → ms.Pairwise (· ≤ ·) → Q (.ref b) { s with heap := h', toks := tk }) :
    wpAny (model P w) A (call (.builtin "sorted") [.ref a]) Q E s := by
  have nl : kvs.length = ns.length := by
    have := congrArg List.length ek
    rw [List.length_map, List.length_map] at this
    exact this
  obtain ⟨ep, hat⟩ := df.dictAt
  apply Calls.call_function_entry kind_sorted plain_sorted entry_sorted (args_sorted1 _)
  unfold Builtin.«sorted»
  apply wpAny_bind (m := checkCount "sorted" 1 1 _)
  apply wpAny_pure
  apply wpAny_bind
  refine gather (A := A.in1) (PySem.W.kdl_dict (knd := mixKind P w) (kvs := kvs) (ep := ep) lo) calm hat small fun h' tk acc old more items => ?_
  obtain ⟨il, ip⟩ := items
  have each : ∀ (j : Nat) (v : Value), acc.toList[j]? = some v → ∃ k t, ns[j]? = some k ∧ v = .int k t := fun j v hv => by
    obtain ⟨k, x, e, ik⟩ := ip j v (by rw [← Array.getElem?_toList]; exact hv)
    have e2 : (kvs.map (·.1))[j]? = some k := by
      rw [List.getElem?_map, e]
      rfl
    rw [ek, List.getElem?_map] at e2
    cases z : ns[j]? with
    | none =>
      rw [z] at e2
      cases e2
    | some n =>
      rw [z] at e2
      cases e2
      have e3 : ∃ t, v = .int n t := by
        cases v <;> first | exact ⟨_, by rw [eq_of_beq ik]⟩ | exact Bool.noConfusion ik
      obtain ⟨t, e3⟩ := e3
      exact ⟨n, t, rfl, e3⟩
  have len : acc.toList.length = ns.length := by rw [Array.length_toList, il, nl]
  have whole : IntsAre acc.toList (acc.toList.map SrtO.iv) := SrtO.ints_iv fun v hv => by
    obtain ⟨j, hj⟩ := List.mem_iff_getElem?.mp hv
    obtain ⟨k, t, _, e⟩ := each j v hj
    exact ⟨k, t, e⟩
  have keys : acc.toList.map SrtO.iv = ns := by
    refine List.ext_getElem? fun j => ?_
    rw [List.getElem?_map]
    cases z : acc.toList[j]? with
    | none =>
      rw [List.getElem?_eq_none (by rw [← len]; exact List.getElem?_eq_none_iff.mp z)]
      rfl
    | some v =>
      obtain ⟨k, t, e, e2⟩ := each j v z
      rw [e, e2]
      rfl
  apply wpAny_bind
  refine wpAny_newList ?_ (by rw [len, ← nl]; exact small)
  have at0 : (h'.push (seqObj "list" acc.toList.toArray 0)).get? h'.objs.size = some (seqObj "list" acc.toList.toArray 0) := Heap.get?_push_size _ rfl
  apply wpAny_bind
  apply wpAny_holding
  refine wpAny_call_entry slot_list_sort ⟨_, at0, rfl⟩ entry_list_sort (SrtO.list_sort_ord SrtO.swo_int at0 (by rw [len, ← nl]; exact small) (fun h2 => SrtO.ints_sortable whole h2) fun out h1 h2 => ?_) (args_list_sort _)
  obtain ⟨k1, k2, k3⟩ := SrtO.ints_out whole h1 h2
  obtain ⟨c, hc⟩ := sortedHeap_at (vs := acc.toList) (out := out.toArray) at0
  refine ⟨_, rfl, wpAny_pure ⟨_, rfl, q _ _ h'.objs.size out.toArray c (out.map SrtO.iv) (fun x u e => ?_) (Nat.le_of_lt more) hc k1 (keys ▸ k2) k3⟩⟩
  have e1 := old x u e
  have lt := Heap.lt_size e1
  show (sortedHeap (h'.push (seqObj "list" acc.toList.toArray 0)) h'.objs.size acc.toList out.toArray).get? x = some u
  rw [sortedHeap_old (Nat.ne_of_lt lt) (by rw [size_push']; exact Nat.lt_succ_of_lt lt)]
  exact Heap.get?_push_of_some _ e1
end
end SortD
namespace Lf
open PySem PySem.Spec PyProof.Rows L2
open PySem.W (Frag)
section
variable {X : Cx}
def rSortD : List V → Hp → VK → Prop := fun xs H Q => ∃ (a : Addr) (kvs : List (Key × V)) (ns : List Int), xs = [.ref a] ∧ Rd H a (.dK kvs) ∧ kvs.map (·.1) = ns.map Sum.inl ∧
  ∀ (ms : List Int) (p : Addr), ms.Perm ns → ms.Pairwise (· ≤ ·) → ms.length ≤ sizeLine → H p = none → Q (.ref p) (upd H p (.lst (ms.map V.int)))
theorem kv_keys : ∀ {kvs : List (Key × V)} {vs : List (Key × Value)}, KV kvs vs → vs.map (·.1) = kvs.map (·.1)
  | _, _, .nil => rfl
  | _, _, .cons r t => by rw [List.map_cons, List.map_cons, kv_keys t, r.1]
theorem cr_sortD (hc : X.calm = true) : CallR X (.builtin "sorted") rSortD := by
  intro pins s σ H xs us Q I r h
  obtain ⟨a, kvs, ns, rfl, hd, ek, q⟩ := h
  rw [Vals.ref1 r]
  have ok : ObjOk X.prog X.w H s.heap a (.dK kvs) := by
    rcases hd with e | ⟨o, e⟩
    · exact I.hok a _ e
    · exact (I.hok a _ e).2
  obtain ⟨small, lo, vs, kv, df⟩ := ok
  have ev := kv_keys kv
  have nl : kvs.length = ns.length := by
    have := congrArg List.length ek
    rw [List.length_map, List.length_map] at this
    exact this
  have vl : vs.length = kvs.length := by
    have := congrArg List.length ev
    rw [List.length_map, List.length_map] at this
    exact this
  refine SortD.keysInOrder (I.ok.hd hc) lo df (by rw [vl]; exact small) (ev.trans ek) fun h' tk b out c ms k new at_ isI perm inc => ?_
  have sm : ms.length ≤ sizeLine := by
    rw [perm.length_eq, ← nl]
    exact small
  have free : H b = none := I.hok.fresh new
  exact ⟨.ref b, upd H b (.lst (ms.map V.int)), I.laid (t' := tk) k new ⟨by rw [List.length_map]; exact sm, out.toList, c, vals_of_ints isI, at_⟩, rfl, q ms b perm inc sm free⟩
end
end Lf
/-! ## Readings told by plain data: loops with break, more walks, sorted lists, displays -/
namespace Lf
open PySem PySem.Spec PyProof.Rows L2
open PySem.W (Frag)
open He (ga)
/-! a loop that may be broken off -/
inductive Brk (S : Type) where
  | go (s : S) | out (s : S)
def Res.until {α S : Type} (f : S → α → Res (Brk S)) : List α → S → Res S
  | [], s => .ok s
  | x :: xs, s => Res.bind (f s x) fun c => match c with
    | .go s' => Res.until f xs s'
    | .out s' => .ok s'
def BkPost (D : Ends) (G : Hp) (p : Gm × List Ent) : Prop := ∀ (σ : L2.St) (G2 H2 : Hp), Le G G2 → Reps G2 σ p.1 → At G2 p.2 H2 → D.bk σ H2
section
variable {K : Frag} {W : WX} {ωe : List Ent} {X R S T : Type} {Γ : Gm} {ω ω1 ω2 ω3 : List Ent} {Z : ZF K W ωe X} {t u tbs : TS} {te ta tb : TE} {tt : TT} {fn : S → Gm × List Ent} {α β : Type} [Rp α] [Rp β] {a b m : MP}
def zK (K : Frag) (W : WX) (ωe : List Ent) (fn : S → Gm × List Ent) : ZF K W ωe (Brk S) where
  z m D G := m ≠ .bad ∧ (∀ s, m = .ok (.go s) → NxPost D G (fn s)) ∧ (∀ s, m = .ok (.out s) → BkPost D G (fn s)) ∧ ∀ x, m = .err x → PostE K W ωe G x
  mono s h := ⟨h.1, fun r e => (h.2.1 r e).mono s, fun r e v G3 H3 s3 => h.2.2.1 r e v G3 H3 (s.trans s3), fun x e => (h.2.2.2 x e).mono s⟩
  nobad h := h.1 rfl
  err h := h.2.2.2 _ rfl
theorem Go.nextK {s : S} (a : Sub Γ (fn s).1) (d : Dr ω (fn s).2) : Go tNext Γ ω (zK K W ωe fn) (.ok (.go s)) := fun σ G H D rp w z => z.2.1 s rfl σ G H (Le.refl _) (rp.sub a) (d.at w)
theorem Go.brk {s : S} (a : Sub Γ (fn s).1) (d : Dr ω (fn s).2) : Go tBreak Γ ω (zK K W ωe fn) (.ok (.out s)) := fun σ G H D rp w z => z.2.2.1 s rfl σ G H (Le.refl _) (rp.sub a) (d.at w)
theorem until_drop {fb : S → α → Res (Brk S)} {xs : List α} {i : Nat} {a : α} (h : xs[i]? = some a) (s : S) : Res.until fb (xs.drop i) s = Res.bind (fb s a) fun c => match c with
    | .go s' => Res.until fb (xs.drop (i + 1)) s'
    | .out s' => .ok s' := by
  have lt := (List.getElem?_eq_some_iff.mp h).1
  rw [List.drop_eq_getElem_cons lt, (List.getElem?_eq_some_iff.mp h).2]
  rfl
theorem Go.forK {wi : TI} {g : TG} {P : List Ent → Prop} {xs : List α} {fb : S → α → Res (Brk S)} {s0 : S} {Γb : S → α → Gm} (hi : IterX K wi Γ ω ω1 P xs) (h0 : Sub Γ (fn s0).1) (d0 : Dr ω1 (fn s0).2) (hP : ∀ s, P (fn s).2) (ht : ∀ s, TgX K g (fn s).1 (Γb s)) (hb : ∀ s a, Go tbs (Γb s a) (fn s).2 (zK K W ωe fn) (fb s a)) :
    Go (tFor wi g tbs) Γ ω (zN K W ωe fn) (Res.until fb xs s0) := fun σ G H D rp w z => hi σ G H _ rp w fun J G2 H2 s2 w2 wk => by
  refine ⟨fun i m σ' H' => m = xs.length - i ∧ i ≤ xs.length ∧ ∃ s G', Le G2 G' ∧ Reps G' σ' (fn s).1 ∧ At G' (fn s).2 H' ∧ Res.until fb (xs.drop i) s = Res.until fb xs s0, ⟨xs.length, by simp, Nat.zero_le _, s0, G2, Le.refl _, (rp.mono s2).sub h0, d0.at w2, rfl⟩, ?_⟩
  rintro i m σ' H' ⟨rfl, hle, s, G', sG, r', w', ef⟩
  by_cases hlt : i < xs.length
  · obtain ⟨y, hx⟩ : ∃ y, xs[i]? = some y := ⟨_, List.getElem?_eq_getElem hlt⟩
    rw [until_drop hx] at ef
    refine .inr ⟨wk.go G' _ H' i sG w' (hP s) hlt, fun σ3 H3 => ∃ s3 G3, Le G2 G3 ∧ Reps G3 σ3 (fn s3).1 ∧ At G3 (fn s3).2 H3 ∧ Res.until fb (xs.drop (i + 1)) s3 = Res.until fb xs s0, fun σ3 H3 q => ⟨xs.length - (i + 1), by omega, rfl, hlt, q⟩, fun x H3 y => ?_⟩
    obtain ⟨G3, s3, w3, px⟩ := wk.yld G' _ H' i x H3 _ sG w' (hP s) hx y
    refine ht s _ σ' G3 H3 _ x _ (r'.mono s3) w3 px fun σ4 r4 => ?_
    refine hb s _ σ4 G3 H3 _ r4 w3 ⟨fun q => ?_, fun s5 q σ5 G5 H5 s5' r5 w5 => ?_, fun s5 q σ5 G5 H5 s5' r5 w5 => ?_, fun e q => ?_⟩
    · rw [q] at ef
      exact z.1 ef.symm
    · rw [q] at ef
      exact ⟨s5, G5, sG.trans (s3.trans s5'), r5, w5, ef⟩
    · rw [q] at ef
      exact z.2.1 s5 ef.symm σ5 G5 H5 (s2.trans (sG.trans (s3.trans s5'))) r5 w5
    · rw [q] at ef
      exact PostE.mono (s2.trans (sG.trans s3)) (z.2.2 e ef.symm)
  · obtain rfl : i = xs.length := by omega
    rw [List.drop_length] at ef
    exact .inl ⟨wk.stop G' _ H' sG w' (hP s), z.2.1 s ef.symm σ' G' H' (s2.trans sG) r' w'⟩
/-! range(a, b, -1) -/
def idown (hi lo : Int) : Option (List Int) := if -(2 ^ 60) ≤ lo ∧ lo < 2 ^ 60 ∧ -(2 ^ 60) ≤ hi ∧ hi < 2 ^ 60 ∧ (hi - lo).toNat ≤ sizeLine then some ((List.range (hi - lo).toNat).map fun (i : Nat) => hi + (i : Int) * (-1)) else none
theorem walk_down {G0 : Hp} {hi : Int} {n : Nat} (hn : n ≤ sizeLine) : WalkX K G0 Any (Itc hi (-1) n) ((List.range n).map fun (i : Nat) => hi + (i : Int) * (-1)) := by
  have lw := walk_rng (K := K) (G0 := G0) (lo := hi) hn
  refine ⟨by simpa using lw.len, fun G ω H i s w q h => by simpa [Itc] using h, fun G ω H s w q => by simp [Itc], fun G ω H i x H' a _ w _ h y => ?_⟩
  obtain ⟨rfl, rfl⟩ := y
  rw [List.getElem?_map] at h
  cases z : (List.range n)[i]? with
  | none =>
    rw [z] at h
    cases h
  | some j =>
    rw [z] at h
    obtain ⟨l, e⟩ := List.getElem?_eq_some_iff.mp z
    rw [List.getElem_range] at e
    subst e
    cases h
    exact ⟨G, Le.refl _, w, rfl⟩
theorem IterX.down {tA : TA} {hi lo : Int} {xs : List Int} (h : EvA tA Γ ω ω1 [is K hi, is K lo, is K (-1 : Int)]) (e : idown hi lo = some xs) : IterX K (iRng3 tA) Γ ω ω1 Any xs := fun σ G H R r w q => h σ G H _ r w fun vs G1 H1 s1 w1 p1 => by
  cases p1 with
  | cons p1 t => cases t with
    | cons p2 t => cases t with
      | cons p3 t =>
        cases t
        cases p1
        cases p2
        cases p3
        unfold idown at e
        split at e
        · rename_i c
          cases e
          exact ⟨hi, lo, -1, (hi - lo).toNat, rfl, RgC.neg (by omega) (by omega) (by omega) (by omega), q _ G1 H1 s1 w1 (walk_down c.2.2.2.2)⟩
        · cases e
/-! range(a, b) of great ints -/
def irngL (lo hi : Int) : Option (List Int) := if (hi - lo).toNat ≤ sizeLine then some ((List.range (hi - lo).toNat).map fun (i : Nat) => lo + (i : Int)) else none
theorem IterX.rngL {tA : TA} {lo hi : Int} {xs : List Int} (h : EvA tA Γ ω ω1 [is K lo, is K hi]) (e : irngL lo hi = some xs) : IterX K (RC.iRngL tA) Γ ω ω1 Any xs := fun σ G H R r w q => h σ G H _ r w fun vs G1 H1 s1 w1 p1 => by
  obtain ⟨v, v', rfl, pv, pv'⟩ := PArgs.two p1
  cases pv
  cases pv'
  unfold irngL at e
  split at e
  · rename_i c
    cases e
    exact ⟨lo, hi, rfl, q _ G1 H1 s1 w1 (walk_rng c)⟩
  · cases e
/-! enumerate(xs) -/
def nums : Nat → List α → List (Int × α)
  | _, [] => []
  | n, x :: xs => ((n : Int), x) :: nums (n + 1) xs
theorem nums_len {γ : Type} : ∀ (n : Nat) (xs : List γ), (nums n xs).length = xs.length
  | _, [] => rfl
  | n, x :: xs => by
    show (nums (n + 1) xs).length + 1 = xs.length + 1
    rw [nums_len]
theorem nums_at {γ : Type} : ∀ (n i : Nat) (xs : List γ), (nums n xs)[i]? = (xs[i]?).map fun x => (((n + i : Nat) : Int), x)
  | _, _, [] => rfl
  | n, 0, x :: xs => rfl
  | n, i + 1, x :: xs => by
    show (nums (n + 1) xs)[i]? = (xs[i]?).map _
    rw [nums_at, show n + 1 + i = n + (i + 1) by omega]
theorem IterX.enum {tA : TA} {xs : List α} (h : EvA tA Γ ω ω1 [is K xs]) : IterX K (iEnum K tA) Γ ω ω1 Any (nums 0 xs) := fun σ G H R r w q => h σ G H _ r w fun vs G1 H1 s1 w1 p1 => by
  obtain ⟨v, rfl, a, us, rfl, e, ha, l⟩ := PArgs.one p1
  refine ⟨a, us, rfl, RC.sq_of (w1.lst e), q _ G1 H1 s1 w1 ⟨by rw [nums_len]; exact l, fun G ω H i s w _ hi => ?_, fun G ω H s w _ => ?_, fun G ω H i x H' b s w _ hi y => ?_⟩⟩
  · rw [nums_len, ← Paired.len ha] at hi
    exact ⟨us, us[i], RC.sq_of (w.lst (s.at e)), List.getElem?_eq_getElem hi⟩
  · exact ⟨us, RC.sq_of (w.lst (s.at e)), by rw [nums_len]; exact Nat.le_of_eq (Paired.len ha)⟩
  · obtain ⟨T, u, rfl, free, rfl, hu⟩ := y
    rw [nums_at, Nat.zero_add] at hi
    cases z : xs[i]? with
    | none =>
      rw [z] at hi
      cases hi
    | some x =>
      rw [z] at hi
      cases hi
      obtain ⟨v', ev, pv⟩ := Paired.at_ ha z
      have e2 := hu us (RC.sq_of (w.lst (s.at e)))
      obtain rfl : v' = u := Option.some.inj (ev.symm.trans e2)
      obtain ⟨w2, s2⟩ := w.new (o := .tup [.int (i : Nat), v']) free
      exact ⟨_, s2, w2, T, _, v', rfl, upd_same, rfl, Rp.mono (s.trans s2) pv⟩
/-! sorted(d); the greatest, the least of a list of ints -/
theorem keys_of {G : Hp} : ∀ {kvs : List (Key × V)} {l : List (Int × α)}, AllD K G kvs l → kvs.map (·.1) = (l.map (·.1)).map Sum.inl
  | _, _, .nil => rfl
  | _, _, .cons r t => by
    rw [List.map_cons, List.map_cons, List.map_cons, keys_of t, r.1]
    rfl
theorem CaF.sortD {d : Dic Int α} : CaF rSortD ω ω [is K d] (olst K (Lf.sortI (d.l.map (·.1)))) := fun G H vs Q wA pa q => by
  obtain ⟨v, rfl, pv⟩ := PArgs.one pa
  obtain ⟨p, kvs, rfl, rd, al⟩ := DicAt.of (K := K) (ω := ω) (d := d) G H v wA pv
  refine ⟨p, kvs, d.l.map (·.1), rfl, rd, keys_of al, fun ms b perm inc small free => ?_⟩
  have en : ms = Lf.sortI (d.l.map (·.1)) := le_eq inc (sortI_inc _) (perm.trans (sortI_perm _).symm)
  rw [en] at small ⊢
  exact q b G _ (Le.refl _) (newL wA free (all_ints _) small)
def maxL : List Int → Option Int
  | [] => none
  | x :: xs => some (xs.foldl max x)
theorem fold_max : ∀ (xs : List Int) (x : Int), xs.foldl max x ∈ x :: xs ∧ ∀ y ∈ x :: xs, y ≤ xs.foldl max x
  | [], x => ⟨List.mem_cons_self, fun y h => by
    rw [List.mem_singleton.mp h]
    exact Int.le_refl _⟩
  | z :: xs, x => by
    obtain ⟨h1, h2⟩ := fold_max xs (max x z)
    rw [List.foldl_cons]
    refine ⟨?_, fun y hy => ?_⟩
    · rcases List.mem_cons.mp h1 with e | e
      · rw [e]
        rcases Int.le_total x z with l | l
        · rw [Int.max_eq_right l]
          exact List.mem_cons_of_mem _ List.mem_cons_self
        · rw [Int.max_eq_left l]
          exact List.mem_cons_self
      · exact List.mem_cons_of_mem _ (List.mem_cons_of_mem _ e)
    · have top := h2 _ List.mem_cons_self
      rcases List.mem_cons.mp hy with e | e
      · rw [e]
        exact Int.le_trans (Int.le_max_left _ _) top
      · rcases List.mem_cons.mp e with e | e
        · rw [e]
          exact Int.le_trans (Int.le_max_right _ _) top
        · exact h2 y (List.mem_cons_of_mem _ e)
theorem CaX.maxI {xs : List Int} {y : Int} (h : maxL xs = some y) : CaX (rMax K) ω ω [is K xs] (is K y) := fun G H vs Q w p q => by
  obtain ⟨v, rfl, a, us, rfl, e, ha, l⟩ := PArgs.one p
  cases xs with
  | nil => cases h
  | cons x xs =>
    cases h
    refine ⟨a, x :: xs, rfl, by rw [← ints_of ha]; exact RC.sq_of (w.lst e), Nat.succ_pos _, fun m hm top => ?_⟩
    obtain ⟨h1, h2⟩ := fold_max xs x
    have e1 := top _ h1
    have e2 := h2 _ hm
    obtain rfl : m = xs.foldl max x := by omega
    exact q _ G H (Le.refl _) w rfl
def minI : List Int → Option Int
  | [] => none
  | x :: xs => some (xs.foldl min x)
theorem fold_min : ∀ (xs : List Int) (x : Int), xs.foldl min x ∈ x :: xs ∧ ∀ y ∈ x :: xs, xs.foldl min x ≤ y
  | [], x => ⟨List.mem_cons_self, fun y h => by
    rw [List.mem_singleton.mp h]
    exact Int.le_refl _⟩
  | z :: xs, x => by
    obtain ⟨h1, h2⟩ := fold_min xs (min x z)
    rw [List.foldl_cons]
    refine ⟨?_, fun y hy => ?_⟩
    · rcases List.mem_cons.mp h1 with e | e
      · rw [e]
        rcases Int.le_total x z with l | l
        · rw [Int.min_eq_left l]
          exact List.mem_cons_self
        · rw [Int.min_eq_right l]
          exact List.mem_cons_of_mem _ List.mem_cons_self
      · exact List.mem_cons_of_mem _ (List.mem_cons_of_mem _ e)
    · have low := h2 _ List.mem_cons_self
      rcases List.mem_cons.mp hy with e | e
      · rw [e]
        exact Int.le_trans low (Int.min_le_left _ _)
      · rcases List.mem_cons.mp e with e | e
        · rw [e]
          exact Int.le_trans low (Int.min_le_right _ _)
        · exact h2 y (List.mem_cons_of_mem _ e)
theorem CaX.minI {xs : List Int} {y : Int} (h : minI xs = some y) : CaX (rMin K) ω ω [is K xs] (is K y) := fun G H vs Q w p q => by
  obtain ⟨v, rfl, a, us, rfl, e, ha, l⟩ := PArgs.one p
  cases xs with
  | nil => cases h
  | cons x xs =>
    cases h
    refine ⟨a, x :: xs, rfl, by rw [← ints_of ha]; exact RC.sq_of (w.lst e), Nat.succ_pos _, fun m hm low => ?_⟩
    obtain ⟨h1, h2⟩ := fold_min xs x
    have e1 := low _ h1
    have e2 := h2 _ hm
    obtain rfl : m = xs.foldl min x := by omega
    exact q _ G H (Le.refl _) w rfl
/-! sorted(xs), pairs of ints -/
def leQ (x y : Int × Int) : Prop := x.1 < y.1 ∨ (x.1 = y.1 ∧ x.2 ≤ y.2)
instance (x y : Int × Int) : Decidable (leQ x y) := inferInstanceAs (Decidable (_ ∨ _))
def insP (x : Int × Int) : List (Int × Int) → List (Int × Int)
  | [] => [x]
  | y :: ys => if leQ x y then x :: y :: ys else y :: insP x ys
def sortP (l : List (Int × Int)) : List (Int × Int) := l.foldr insP []
theorem insP_perm (x : Int × Int) : ∀ l : List (Int × Int), (insP x l).Perm (x :: l)
  | [] => .refl _
  | y :: ys => by
    unfold insP
    split
    · exact .refl _
    · exact ((insP_perm x ys).cons y).trans (.swap x y ys)
theorem insP_inc (x : Int × Int) : ∀ {l : List (Int × Int)}, l.Pairwise leQ → (insP x l).Pairwise leQ
  | [], _ => by simp [insP]
  | y :: ys, h => by
    have h1 := (List.pairwise_cons.mp h).1
    have h2 := (List.pairwise_cons.mp h).2
    unfold insP
    split
    · rename_i c
      refine List.pairwise_cons.mpr ⟨fun z hz => ?_, h⟩
      rcases List.mem_cons.mp hz with e | e
      · rw [e]
        exact c
      · have := h1 z e
        unfold leQ at *
        omega
    · rename_i c
      refine List.pairwise_cons.mpr ⟨fun z hz => ?_, insP_inc x h2⟩
      rcases List.mem_cons.mp ((insP_perm x ys).mem_iff.mp hz) with e | e
      · rw [e]
        unfold leQ at *
        omega
      · exact h1 z e
theorem sortP_perm : ∀ l : List (Int × Int), (sortP l).Perm l
  | [] => .refl _
  | x :: l => (insP_perm x _).trans ((sortP_perm l).cons x)
theorem sortP_inc : ∀ l : List (Int × Int), (sortP l).Pairwise leQ
  | [] => .nil
  | x :: l => insP_inc x (sortP_inc l)
theorem leQ_eq {xs ys : List (Int × Int)} (h1 : xs.Pairwise leQ) (h2 : ys.Pairwise leQ) (p : xs.Perm ys) : xs = ys := List.Perm.eq_of_pairwise (fun a b _ _ x y => by
  unfold leQ at x y
  exact Prod.ext (by omega) (by omega)) h1 h2 p
/-- the pair at a place -/
def pairAt (H : Hp) : V → Int × Int
  | .ref t => match H t with
    | some (.tup [.int i, .int j]) => (i, j)
    | _ => (0, 0)
  | _ => (0, 0)
theorem pairAt_of {G H : Hp} {v : V} {x : Int × Int} (w : At G ω H) (h : Rp.rep K G v x) : (∃ t, v = .ref t ∧ H t = some (.tup [.int (pairAt H v).1, .int (pairAt H v).2])) ∧ pairAt H v = x := by
  obtain ⟨t, i, j, rfl, e, h1, h2⟩ := h
  cases h1
  cases h2
  have e2 := w.get e
  have q : pairAt H (.ref t) = x := by
    unfold pairAt
    dsimp only
    rw [e2]
  rw [q]
  exact ⟨⟨t, rfl, e2⟩, rfl⟩
theorem CaF.sortP {xs : List (Int × Int)} : CaF (rSortedPO K) ω ω [is K xs] (olst K (Lf.sortP xs)) := fun G H vs Q wA pa q => by
  obtain ⟨v, rfl, a, us, rfl, e, ha, l⟩ := PArgs.one pa
  have each : ∀ u ∈ us, ∃ x, Rp.rep K G u x ∧ pairAt H u = x := fun u hu => by
    obtain ⟨i, hi⟩ := List.mem_iff_getElem?.mp hu
    have li : i < xs.length := by
      rw [← Paired.len ha]
      exact (List.getElem?_eq_some_iff.mp hi).1
    obtain ⟨v', ev, pv⟩ := Paired.at_ ha (List.getElem?_eq_getElem li)
    obtain rfl : v' = u := Option.some.inj (ev.symm.trans hi)
    exact ⟨_, pv, (pairAt_of wA pv).2⟩
  have keys : ∀ {vs : List V} {ys : List (Int × Int)}, All K G vs ys → vs.map (pairAt H) = ys := fun h => by
    induction h with
    | nil => rfl
    | cons r t ih => rw [List.map_cons, ih, (pairAt_of wA r).2]
  refine ⟨a, us, pairAt H, rfl, RC.sq_of (wA.lst e), fun u hu => ?_, fun ys b srt stb free => ?_⟩
  · obtain ⟨x, px, _⟩ := each u hu
    exact (pairAt_of wA px).1
  · have al : All K G ys (ys.map (pairAt H)) := by
      have : ∀ zs : List V, (∀ z ∈ zs, z ∈ us) → All K G zs (zs.map (pairAt H)) := fun zs => by
        induction zs with
        | nil => exact fun _ => .nil
        | cons z zs ih =>
          intro h
          obtain ⟨x, px, ex⟩ := each z (h z List.mem_cons_self)
          exact .cons (by rw [ex]; exact px) (ih fun y hy => h y (List.mem_cons_of_mem _ hy))
      exact this ys fun z hz => stb.perm.mem_iff.mp hz
    have en : ys.map (pairAt H) = Lf.sortP xs := by
      refine leQ_eq ?_ (sortP_inc _) (((stb.perm.map _).trans (List.Perm.of_eq (keys ha))).trans (sortP_perm xs).symm)
      rw [List.pairwise_map]
      refine List.Pairwise.imp (fun {x y} h => ?_) srt
      have := SrtO.lexB_no.mp h
      unfold leQ
      omega
    rw [en] at al
    exact q b G _ (Le.refl _) (newL wA free al (by rw [(sortP_perm xs).length_eq]; exact l))
/-! None in a list; x == 1 of what may be None -/
theorem flat_opt {G : Hp} {vs : List V} {xs : List (Option Int)} (h : All K G vs xs) : inV .non vs = decide (none ∈ xs) ∧ vs.all flatV = true := by
  induction h with
  | nil => exact ⟨rfl, rfl⟩
  | @cons v x vs xs r t ih =>
    obtain ⟨h1, h2⟩ := ih
    cases x with
    | none =>
      cases (show v = .non from r)
      refine ⟨by simp [inV, eqV], ?_⟩
      rw [List.all_cons, h2]
      rfl
    | some i =>
      cases (show v = .int i from r.1)
      refine ⟨?_, by rw [List.all_cons, h2]; rfl⟩
      unfold inV at h1 ⊢
      rw [List.any_cons, h1]
      simp [eqV]
theorem OpX.inN {xs : List (Option Int)} : OpX (rIn K false) ω ω (is K ()) (is K xs) (is K (decide (none ∈ xs))) := fun G H u v Q w p1 p2 q => by
  cases (show u = .non from p1)
  obtain ⟨a, us, rfl, ea, ha, _⟩ := p2
  obtain ⟨h1, h2⟩ := flat_opt ha
  exact ⟨a, us, rfl, .inl (RC.sq_of (w.lst ea)), rfl, h2, by rw [if_neg (by decide), h1]; exact q _ G H (Le.refl _) w rfl⟩
/-! {k: x} -/
theorem EvF.done {κ : Type} [KpV κ] {k : κ} {x : α} {tk tv : TE} (h1 : ∀ p, EvX tk Γ (.own p (odic K (Dic.mk [] : Dic κ α)) :: ω) (.own p (odic K (Dic.mk [] : Dic κ α)) :: ω) (is K k)) (h2 : ∀ p, EvX tv Γ (.own p (odic K (Dic.mk [] : Dic κ α)) :: ω) (.own p (odic K (Dic.mk [] : Dic κ α)) :: ω) (is K x)) :
    EvF (tDisp [(tk, tv)]) Γ ω ω (odic K (Dic.mk [(k, x)])) := fun σ G H Q r w q p hp => by
  have w1 : At G (.own p (odic K (Dic.mk [] : Dic κ α)) :: ω) (upd H p (.dK [])) := w.newOwn hp ⟨[], rfl, .nil, Nat.zero_le _⟩
  refine h1 p σ G _ _ r w1 fun v1 G1 H1 s1 w2 p1 => h2 p σ G1 H1 _ (r.mono s1) w2 fun v2 G2 H2 s2 w3 p2 => ?_
  obtain ⟨o, ho, kvs, rfl, ha, _⟩ := w3.ownAt (k := 0) rfl
  cases ha
  have ek : v1 = kV (Kp.key k) := KpV.kv p1
  refine ⟨ho, [(Kp.key k, v2)], by rw [ek]; rfl, by show 1 ≤ 15; decide, q p G2 _ (s1.trans s2) ?_⟩
  exact w3.put (k := 0) (φ' := odic K (Dic.mk [(k, x)])) rfl ⟨_, rfl, .cons ⟨rfl, p2⟩ .nil, by show 1 ≤ sizeLine; decide⟩
/-! a, b, c = .. -/
theorem Go.par3 {i j l : Nat} {tA : TA} {c : MP} {x : Res X} (h : EvA tA Γ ω ω1 [a, b, c]) (k : Go u (((Γ.set i (some a)).set j (some b)).set l (some c)) ω1 Z x) :
    Go (tSeq (tAsg (tTup tA) (gTup K 3 (gCons (gName i) (gCons (gName j) (gCons (gName l) gNil))))) u) Γ ω Z x := fun σ G H D rp w z => h σ G H _ rp w fun vs G2 H2 s w2 p => by
  cases p with
  | @cons v1 _ _ _ p1 t => cases t with
    | @cons v2 _ _ _ p2 t => cases t with
      | @cons v3 _ _ _ p3 t =>
        cases t
        refine ⟨by show 3 ≤ sizeLine; decide, fun e he => ?_⟩
        obtain ⟨w3, s3⟩ := w2.new (o := .tup [v1, v2, v3]) he
        refine ⟨e, [v1, v2, v3], rfl, RC.st_of upd_same, rfl, v1, [v2, v3], rfl, v2, [v3], rfl, v3, [], rfl, rfl, ?_⟩
        exact k _ _ _ D (((((rp.mono s).mono s3).set (a.mono s3 p1)).set (b.mono s3 p2)).set (c.mono s3 p3)) w3 (Z.mono (s.trans s3) z)
/-! [a, .., *xs] -/
theorem EvF.starR {xs zs : List α} {tl : TE} {t0 : TE} {y : α} (h0 : EvX t0 Γ ω ω1 (is K y)) (h : EvX tl Γ ω1 ω2 (is K xs)) (ec : cat [y] xs = some zs) : EvF (tLst (tCons t0 (StX.tStar K tl tNil))) Γ ω ω2 (olst K zs) := fun σ G H Q r w q => h0 σ G H _ r w fun v0 G0 H0 s0 w0 p0 => h σ G0 H0 _ (r.mono s0) w0 fun v G1 H1 s1 w1 p1 => by
  obtain ⟨a, us, rfl, ea, ha, l⟩ := p1
  refine ⟨a, us, rfl, .inr (RC.sq_of (w1.lst ea)), ?_⟩
  unfold cat at ec
  split at ec
  · rename_i c
    cases ec
    have al : All K G1 (v0 :: (us ++ [])) ([y] ++ xs) := by
      rw [List.append_nil]
      exact .cons (Rp.mono s1 p0) ha
    have hl : (v0 :: (us ++ [])).length ≤ sizeLine := by rw [Paired.len al, List.length_append]; exact c
    exact ⟨hl, fun p hp => q p G1 _ (s0.trans s1) (newL w1 hp al (by rw [List.length_append]; exact c))⟩
  · cases ec
end
end Lf
/-! ## The end of a law's walk -/
namespace Lf
open PySem PySem.Spec PyProof.Rows L2 RC
open PySem.W (Frag)
section
variable {P : Program} {w : World} {K : Frag} {mg : Str → Option Value} {base : Heap} {k : Nat} {f : Addr} {fd : FuncData} {ps : List Str} {sp : Sp}
/-- where no error is promised: one cannot come -/
def quiet (sp : Sp) : Sp := fun vs H Q _ => sp vs H Q fun _ _ _ => False
theorem quiet_cr {outer : List Env} {H : Hp} {s : Shared} {Q : VK} {E : XK} {r : Result} {s' : Shared} (h : CR (L2.CX P w) outer P w H s Q (fun _ _ _ => False) r s') : CR CX0 outer P w H s Q E r s' := by
  match r, h with
  | .error e, h =>
    obtain ⟨_, _, _, _, _, _, _, _, _, _, _, _, no⟩ := h
    exact no.elim
  | .ok (.ret u), h => exact h
theorem quietG (F : FnOkG P w K mg base (L2.CX P w) k f fd ps sp) : FnOkG P w K mg base CX0 k f fd ps (quiet sp) :=
  ⟨fun vs H Q _ h => F.len vs H Q _ h, fun A outer s H args us vs Q E hg hr e0 hb r h => codeAny_mono (F.run A outer s H args us vs Q _ hg hr e0 hb r h) fun _ _ h => quiet_cr h⟩
theorem quiet1 (F : FnOk P w K mg base (L2.CX P w) k f fd ps sp) : FnOk P w K mg base CX0 k f fd ps (quiet sp) :=
  ⟨fun vs H Q _ h => F.len vs H Q _ h, fun A outer s H args us vs Q E hr e0 hb r h => codeAny_mono (F.run A outer s H args us vs Q _ hr e0 hb r h) fun _ _ h => quiet_cr h⟩
theorem At.nil {H : Hp} (h : Only H) : At H [] H := ⟨fun b o e => by
    rcases h b with z | ⟨u, xs, z⟩
    · rw [z] at e
      cases e
    · rw [z] at e
      cases e
      exact z, fun _ _ _ e => (nomatch e), fun _ _ _ _ e => (nomatch e)⟩
theorem Says.yes {H : Hp} {m : Res Bool} {E : XK} (e : m = .ok true) : Says K H [] m (fun (r : Bool) => RS.val (is K r) []) (fun v _ => v = .bl true) E := Says.ok' e fun _ _ _ _ _ p => p
theorem PArgs.sc {H : Hp} {a : Addr} {ns : List Int} (h : SqL K H a (ns.map V.int)) : PArgs H [.ref a] [is K (Sc.mk ns)] := .cons ⟨a, rfl, h⟩ .nil
end
end Lf
/-! ## Readings told by plain data: errors raised, caught and kept -/
namespace Lf
open PySem PySem.Spec PyProof.Rows L2
open PySem.W (Frag)
open He (ga)
/-- a kept error -/
instance : Rp Exn := ⟨fun K G v x => ∃ a d u, v = .ref a ∧ G a = some (RC.ErrO (.ref (ga K x.cls)) (some d) a) ∧ G d = some (.xd [(("value" : Str), u)]) ∧ Rp.rep K G u x.val, fun s ⟨a, d, u, e, h1, h2, h3⟩ => ⟨a, d, u, e, s.at h1, s.at h2, Rp.mono s h3⟩⟩
/-- what a try keeps: the error, if it is one of these -/
def Res.caught {R : Type} (L : List Str) : Res R → Res (Option Exn)
  | .ok _ => .ok none
  | .err e => if e.cls ∈ L then .ok (some e) else .bad
  | .bad => .bad
theorem Reps.off {G : Hp} {σ : L2.St} {Γ : Gm} {i : Nat} {o : Option V} (h : Reps G σ Γ) : Reps G (σ.set i o) (Γ.set i none) := by
  refine ⟨by rw [List.length_set, List.length_set, h.1], fun j m e => ?_⟩
  by_cases z : i = j
  · subst z
    by_cases l : i < Γ.length
    · rw [List.getElem?_set_self l] at e
      cases e
    · rw [List.getElem?_eq_none (by rw [List.length_set]; omega)] at e
      cases e
  · rw [List.getElem?_set_ne z] at e ⊢
    exact h.2 j m e
section
variable {K : Frag} {W : WX} {ωe : List Ent} {X R : Type} {Γ : Gm} {ω ω1 : List Ent} {Z : ZF K W ωe X} {u : TS} {ta : TA} {ms : List MP} {sp : Sp} {fo : R → RS}
theorem Go.raise {c : Str} {x : PV} (h : EvA ta Γ ω ω1 [is K x]) (hd : Dr ω1 ωe) : Go (RC.tRaiseE (ga K c) W ta) Γ ω Z (.err ⟨c, ⟨x, none⟩⟩ : Res X) := fun σ G H D rp w z => h σ G H _ rp w fun vs G2 H2 s2 w2 p2 => by
  obtain ⟨v, rfl, pv⟩ := PArgs.one p2
  refine ⟨v, rfl, fun d free => ?_⟩
  obtain ⟨w3, s3⟩ := w2.new (o := .xd [(("value" : Str), v)]) free
  exact Z.err z σ d v _ _ (s2.trans s3) (hd.at w3) upd_same ⟨Rp.mono (α := PV) s3 pv, fun _ z => nomatch z⟩
theorem Go.raiseV {c : Str} {x : VP} (h : EvA ta Γ ω ω1 [is K x]) (hd : Dr ω1 ωe) : Go (RC.tRaiseE (ga K c) W ta) Γ ω Z (.err ⟨c, x⟩ : Res X) := fun σ G H D rp w z => h σ G H _ rp w fun vs G2 H2 s2 w2 p2 => by
  obtain ⟨v, rfl, pv⟩ := PArgs.one p2
  refine ⟨v, rfl, fun d free => ?_⟩
  obtain ⟨w3, s3⟩ := w2.new (o := .xd [(("value" : Str), v)]) free
  exact Z.err z σ d v _ _ (s2.trans s3) (hd.at w3) upd_same (Rp.mono s3 pv)
theorem Go.tryC {mr : Res R} {x : Option Exn → Res X} {L : List Str} {c : Value} {i j : Nat} (h : EvA ta Γ ω ω1 ms) (hs : ∀ E, SpR K sp E ms ω1 ω1 mr fo) (hf : ∀ r, mr = .ok r → (fo r).om = ω1) (hL : ∀ cls ∈ L, PySem.W.exmOne K (.ref (ga K cls)) c = some true)
    (hij : i ≠ j) (hn : Sub Γ ((Γ.set j (some (is K (none : Option Exn)))).set i none)) (k : ∀ y, Res.caught L mr = .ok y → Go u ((Γ.set j (some (is K y))).set i none) ω1 Z (x y)) :
    Go (tSeq (fun D σ H => tSeq (tDrop (tCallS sp (WE (RC.wKeep K c i j D)) ta)) tNext D σ H) u) Γ ω Z (Res.bind (Res.caught L mr) x) := fun σ G H D rp w z => h σ G H _ rp w fun vs G2 H2 s2 w2 p2 => by
  refine hs _ G2 H2 vs _ p2 w2 ⟨fun e => ?_, fun r e => RetQ.lose fun v G3 H3 s3 w3 => ?_, fun e ee σ' d v G3 H3 s3 w3 hd hv => ?_⟩
  · rw [e] at z
    exact Z.nobad z
  · rw [hf r e] at w3
    have ec : Res.caught L mr = .ok none := by rw [e]; rfl
    refine k none ec σ G3 H3 D ((rp.mono (s2.trans s3)).sub hn) w3 (Z.mono (s2.trans s3) ?_)
    rw [ec] at z
    exact z
  · have inL : e.cls ∈ L := by
      by_cases q : e.cls ∈ L
      · exact q
      · have : Res.caught L mr = .bad := by rw [ee]; exact if_neg q
        rw [this] at z
        exact absurd z Z.nobad
    have ec : Res.caught L mr = .ok (some e) := by rw [ee]; exact if_pos inL
    refine ⟨hL _ inL, fun a ha => ?_⟩
    obtain ⟨w4, s4⟩ := w3.new (o := RC.ErrO (.ref (ga K e.cls)) (some d) a) ha
    have pe : (is K (some e)).p (upd G3 a (RC.ErrO (.ref (ga K e.cls)) (some d) a)) (.ref a) := ⟨⟨a, d, v, rfl, upd_same, s4.at hd, Rp.mono s4 hv⟩, fun z => by cases z⟩
    have rp4 := rp.mono (s2.trans (s3.trans s4))
    refine k (some e) ec _ _ _ D ?_ w4 (Z.mono (s2.trans (s3.trans s4)) ?_)
    · have r3 := ((rp4.off (i := i) (o := some (.ref a))).set (i := j) pe).off (i := i) (o := none)
      have eg : ((Γ.set i none).set j (some (is K (some e)))).set i none = (Γ.set j (some (is K (some e)))).set i none := by rw [List.set_comm _ _ hij, List.set_set]
      exact eg ▸ r3
    · rw [ec] at z
      exact z
end
end Lf
/-! ## Readings told by plain data: any values; kept errors asked -/
namespace Lf
open PySem PySem.Spec PyProof.Rows L2
open PySem.W (Frag)
open He (ga)
/-- what is a value of any kind too -/
class ToPV (α : Type) extends Rp α where
  of : α → PV
  conv : ∀ {K : Frag} {G : Hp} {v : V} {x : α}, Rp.rep K G v x → AnyV K G v (of x)
def PV.of {α : Type} [t : ToPV α] (x : α) : PV := t.of x
instance : ToPV PV := { of := fun x => x, conv := fun h => h }
instance : ToPV Int := { of := .int, conv := fun h => by cases h; exact .int _ }
instance : ToPV Bool := { of := .bl, conv := fun h => by cases h; exact .bl _ }
instance : ToPV Str := { of := .str, conv := fun h => by cases h; exact .str _ }
instance : ToPV Unit := { of := fun _ => .non, conv := fun h => by cases h; exact .non }
theorem anyL {α : Type} [t : ToPV α] {K : Frag} {G : Hp} : ∀ {vs : List V} {xs : List α}, All K G vs xs → AnyL K G vs (xs.map t.of)
  | _, _, .nil => .nil
  | _, _, .cons r l => .cons (t.conv r) (anyL l)
instance {α : Type} [t : ToPV α] : ToPV (List α) := { of := fun xs => .lst (xs.map t.of), conv := fun ⟨_, _, e, h, p, _⟩ => e ▸ .lst h (anyL p) }
def PV.isRoll : PV → Bool
  | .roll _ _ => true
  | _ => false
def PV.ty : PV → String
  | .non => "NoneType"
  | .bl _ => "bool"
  | .int _ => "int"
  | .str _ => "str"
  | .lst _ => "list"
  | .tup _ => "tuple"
  | .edict => "dict"
  | .roll _ _ => ""
section
variable {K : Frag} {Γ : Gm} {ω ω1 : List Ent} {te : TE} {α : Type} {a : MP}
theorem EvX.any [t : ToPV α] {x : α} (h : EvX te Γ ω ω1 (is K x)) : EvX te Γ ω ω1 (is K (PV.of x)) := h.as fun _ _ p => t.conv p
theorem EvX.edict (h : EvX te Γ ω ω1 (is K (Dic.mk [] : Dic Int Int))) : EvX te Γ ω ω1 (is K PV.edict) := h.as fun G v p => by
  obtain ⟨a, kvs, rfl, rd, al, _⟩ := p
  cases al
  exact AnyV.edict rd
theorem any_ty {G H : Hp} {v : V} {x : PV} (w : At G ω H) (h : AnyV K G v x) (n : x.isRoll = false) : TyX K H v (.type x.ty) := by
  cases h with
  | non => exact .base .non
  | bl b => exact .base (.bl b)
  | int i => exact .base (.int i)
  | str s => exact .base (.str s)
  | lst h p => exact .base (.lst (w.get h))
  | tup h p => exact .base (.tup (w.get h))
  | edict h =>
    rcases h with e | ⟨o, e⟩
    · exact .base (.dK (w.get e))
    · exact .fDict (w.get e)
  | roll h h1 h2 l1 l2 => cases n
/-! kept errors -/
def rIsE (P : Program) (K : Frag) (mg : Str → Option Value) : List V → Hp → VK → Prop := fun xs H Q => rIsi K xs H Q ∨ RC.rIsErr P K mg xs H Q
theorem call_isE {X : Cx} : CallR X (.builtin "isinstance") (rIsE X.prog X.K X.mg) := fun pins s σ H xs us Q I r h => by
  rcases h with h | h
  · exact call_isi pins s σ H xs us Q I r h
  · exact RC.call_isErr pins s σ H xs us Q I r h
def isE (L : List Str) (o : Option Exn) (c : Str) : Option Bool := match o with
  | none => some false
  | some e => if e.cls ∈ L then some (decide (e.cls = c)) else none
/-- what is asked of the classes of kept errors -/
structure ErrsOk (P : Program) (K : Frag) (mg : Str → Option Value) (L : List Str) (c : Str) : Prop where
  non : PySem.W.kitOne K (.type "NoneType") (.ref (ga K c)) = some false
  err : ∀ e ∈ L, ∃ fI, RC.ErrC P K mg (ga K e) fI ∧ RC.ClsX K (ga K e) ∧ PySem.W.kitOne K (.ref (ga K e)) (.ref (ga K c)) = some (decide (e = c))
theorem CaX.isE {P : Program} {mg : Str → Option Value} {L : List Str} {o : Option Exn} {c : Str} {b : Bool} {u : V} (hu : ClsV u (.ref (ga K c))) (E : ErrsOk P K mg L c) (h : Lf.isE L o c = some b) : CaX (rIsE P K mg) ω ω [is K o, eqv u] (is K b) := fun G H vs Q w pa q => by
  obtain ⟨v, v', rfl, pv, rfl⟩ := PArgs.two pa
  cases o with
  | none =>
    cases h
    cases (show v = .non from pv)
    exact .inl ⟨_, _, _, _, false, rfl, hu, .base .non, E.non, q _ G H (Le.refl _) w rfl⟩
  | some e =>
    unfold Lf.isE at h
    dsimp only at h
    split at h
    · rename_i m
      cases h
      obtain ⟨⟨a, d, y, rfl, ha, hd, _⟩, _⟩ := pv
      obtain ⟨fI, T, X, k⟩ := E.err _ m
      exact .inr ⟨a, ga K e.cls, fI, d, y, _, _, _, rfl, w.get ha, w.get hd, T, X, hu, k, q _ G H (Le.refl _) w rfl⟩
    · cases h
/-- err.value -/
def valE (L : List Str) (o : Option Exn) : Option PV := match o with
  | none => none
  | some e => if e.cls ∈ L then some e.val.x else none
theorem EvX.valE {P : Program} {mg : Str → Option Value} {L : List Str} {o : Option Exn} {c : Str} {x : PV} (he : EvX te Γ ω ω1 (is K o)) (E : ErrsOk P K mg L c) (h : Lf.valE L o = some x) : EvX (RC.tFldE P K mg te) Γ ω ω1 (is K x) := fun σ G H Q r w q => he σ G H _ r w fun v G1 H1 s1 w1 p1 => by
  cases o with
  | none => cases h
  | some e =>
    unfold Lf.valE at h
    dsimp only at h
    split at h
    · rename_i m
      cases h
      obtain ⟨⟨a, d, y, rfl, ha, hd, hy⟩, _⟩ := p1
      obtain ⟨fI, T, _, _⟩ := E.err _ m
      exact ⟨a, ga K e.cls, fI, d, y, rfl, w1.get ha, T, w1.get hd, q y G1 H1 s1 w1 hy.1⟩
    · cases h
/-! repr of any value -/
mutual
def PV.d : PV → Option PyData
  | .non => some .none
  | .bl b => some (.bool b)
  | .int i => some (.int i)
  | .str s => some (.str s)
  | .lst xs => (PV.ds xs).map .list
  | .tup xs => (PV.ds xs).map .tuple
  | .edict => none
  | .roll _ _ => none
def PV.ds : List PV → Option (List PyData)
  | [] => some []
  | x :: xs => match x.d, PV.ds xs with
    | some d, some ds => some (d :: ds)
    | _, _ => none
end
mutual
theorem any_dp {G H : Hp} {ω : List Ent} (w : At G ω H) : ∀ {v : V} {x : PV} {d : PyData}, AnyV K G v x → x.d = some d → Dp K H v d
  | _, _, _, .non, e => by
    cases e
    exact .non
  | _, _, _, .bl b, e => by
    cases e
    exact .bl b
  | _, _, _, .int i, e => by
    cases e
    exact .int i
  | _, _, _, .str s, e => by
    cases e
    exact .str s
  | _, _, _, .lst (xs := xs) h p, e => by
    unfold PV.d at e
    cases q : PV.ds xs with
    | none =>
      rw [q] at e
      cases e
    | some ds =>
      rw [q] at e
      cases e
      exact .lst (RC.sq_of (w.lst h)) (any_dps w p q)
  | _, _, _, .tup (xs := xs) h p, e => by
    unfold PV.d at e
    cases q : PV.ds xs with
    | none =>
      rw [q] at e
      cases e
    | some ds =>
      rw [q] at e
      cases e
      exact .tup (RC.st_of (w.tup h)) (any_dps w p q)
  | _, _, _, .edict _, e => by cases e
  | _, _, _, .roll .., e => by cases e
theorem any_dps {G H : Hp} {ω : List Ent} (w : At G ω H) : ∀ {vs : List V} {xs : List PV} {ds : List PyData}, AnyL K G vs xs → PV.ds xs = some ds → DpAll K H vs ds
  | _, _, _, .nil, e => by
    cases e
    exact .nil
  | _, _, _, .cons (x := x) (xs := xs) h t, e => by
    unfold PV.ds at e
    cases q1 : x.d with
    | none =>
      rw [q1] at e
      cases e
    | some d =>
      cases q2 : PV.ds xs with
      | none =>
        rw [q1, q2] at e
        cases e
      | some ds =>
        rw [q1, q2] at e
        cases e
        exact .cons (any_dp w h q1) (any_dps w t q2)
end
def toldP (x : PV) : Option Str := match x with
  | .edict => some (PyData.dict []).shown
  | x => match x.d with
    | none => none
    | some d => if d.showable = true ∧ d.canLay0 = true ∧ d.depth ≤ 40 ∧ d.shown.length ≤ sizeLine then some d.shown else none
theorem show_any {G H : Hp} {ω : List Ent} (w : At G ω H) {v : V} {x : PV} {t : Str} (h : AnyV K G v x) (e : toldP x = some t) : RC.ShowV K H v t := by
  have data : ∀ d, x.d = some d → (if d.showable = true ∧ d.canLay0 = true ∧ d.depth ≤ 40 ∧ d.shown.length ≤ sizeLine then some d.shown else none) = some t → RC.ShowV K H v t := fun d ed e => by
    split at e
    · rename_i c
      cases e
      exact .data (any_dp w h ed) c.1 c.2.1 c.2.2.1 c.2.2.2
    · cases e
  unfold toldP at e
  split at e
  · cases e
    cases h with
    | edict h =>
      rcases h with q | ⟨o, q⟩
      · exact .edict (.inl (w.get q))
      · exact .edict (.inr ⟨o, w.get q⟩)
  · split at e
    · cases e
    · rename_i d ed
      exact data d ed e
theorem CaX.toldP {x : PV} {t : Str} (h : Lf.toldP x = some t) : CaX (RC.rReprX K) ω ω [is K x] (is K t) := fun G H vs Q w p q => by
  obtain ⟨v, rfl, pv⟩ := PArgs.one p
  exact ⟨v, t, rfl, show_any w pv h, q _ G H (Le.refl _) w rfl⟩
end
/-! a slot told otherwise -/
section
variable {K : Frag} {W : WX} {ωe : List Ent} {X : Type} {Γ : Gm} {ω : List Ent} {Z : ZF K W ωe X} {u : TS}
theorem Go.tell {i : Nat} {m m' : MP} {x : Res X} (hi : Γ[i]? = some (some m)) (imp : ∀ G v, m.p G v → m'.p G v) (k : Go u (Γ.set i (some m')) ω Z x) : Go u Γ ω Z x := fun σ G H D rp w z => by
  refine k σ G H D ⟨by rw [List.length_set]; exact rp.1, fun j n e => ?_⟩ w z
  by_cases c : i = j
  · subst c
    rw [List.getElem?_set_self (List.getElem?_eq_some_iff.mp hi).1] at e
    cases e
    obtain ⟨v, a, b⟩ := rp.2 i m hi
    exact ⟨v, a, imp G v b⟩
  · rw [List.getElem?_set_ne c] at e
    exact rp.2 j n e
end
end Lf

namespace Lf
open PySem PySem.Spec PyProof.Rows L2
open PySem.W (Frag)
section
variable {α : Type} [t : Shw α]
theorem shw_all {K : Frag} {G H : Hp} {ω : List Ent} (w : At G ω H) : ∀ {vs : List V} {xs : List (Option α)}, All K G vs xs → DpAll K H vs (xs.map (Shw.d (α := Option α)))
  | _, _, .nil => .nil
  | _, _, .cons r l => .cons (Shw.dp w r) (shw_all w l)
theorem shw_lay : ∀ xs : List (Option α), PyData.canLayAll0 (xs.map (Shw.d (α := Option α))) = true
  | [] => by simp only [List.map_nil, PyData.canLayAll0]
  | x :: xs => by
    have e := shw_lay xs
    simp only [List.map_cons, PyData.canLayAll0, e, Shw.lay x, Bool.and_self]
theorem shw_dep : ∀ xs : List (Option α), PyData.depthAll (xs.map (Shw.d (α := Option α))) ≤ t.deep + 1
  | [] => by simp only [List.map_nil, PyData.depthAll]; omega
  | x :: xs => by
    have e := shw_dep xs
    have d : (Shw.d (α := Option α) x).depth ≤ t.deep := Shw.dep x
    simp only [List.map_cons, PyData.depthAll]
    omega
instance : Shw (List (Option α)) where
  d xs := .list (xs.map (Shw.d (α := Option α)))
  dp w h := by
    obtain ⟨a, vs, rfl, e, ha, _⟩ := h
    exact .lst (RC.sq_of (w.lst e)) (shw_all w ha)
  lay xs := by
    simp only [PyData.canLay0, shw_lay xs]
  deep := t.deep + 2
  dep xs := by
    have := shw_dep xs
    show (PyData.list (xs.map (Shw.d (α := Option α)))).depth ≤ t.deep + 2
    simp only [PyData.depth]
    omega
end
end Lf
/-! ## Readings told by plain data: while -/
namespace Lf
open PySem PySem.Spec PyProof.Rows L2
open PySem.W (Frag)
/-- a while that is left by its test alone: it is asked at most n times -/
def Res.whl {S : Type} (c : S → Option Bool) (f : S → Res S) : Nat → S → Res S
  | 0, _ => .bad
  | n + 1, s => Res.req (c s) fun b => if b then Res.bind (f s) (Res.whl c f n) else .ok s
section
variable {K : Frag} {W : WX} {ωe : List Ent} {S : Type} {Γ : Gm} {ω : List Ent} {fn : S → Gm × List Ent}
theorem Go.whN {tc : TT} {tb : TS} {c : S → Option Bool} {f : S → Res S} {n : Nat} {s0 : S} (h0 : Sub Γ (fn s0).1) (d0 : Dr ω (fn s0).2) (ht : ∀ s b, c s = some b → EvT tc (fn s).1 (fn s).2 (fn s).2 b) (hb : ∀ s, Go tb (fn s).1 (fn s).2 (zN K W ωe fn) (f s)) :
    Go (tWhile tc tb) Γ ω (zN K W ωe fn) (Res.whl c f n s0) := fun σ G H D rp w z => by
  refine ⟨fun m σ' H' => ∃ s G', Le G G' ∧ Reps G' σ' (fn s).1 ∧ At G' (fn s).2 H' ∧ Res.whl c f m s = Res.whl c f n s0, ⟨n, s0, G, Le.refl _, rp.sub h0, d0.at w, rfl⟩, ?_⟩
  rintro m σ' H' ⟨s, G', sG, r', w', ef⟩
  cases m with
  | zero => exact absurd ef.symm z.1
  | succ m =>
    cases hc : c s with
    | none =>
      refine absurd (ef.symm.trans ?_) z.1
      show Res.req (c s) _ = _
      rw [hc]
      rfl
    | some b =>
      have ef2 : (if b then Res.bind (f s) (Res.whl c f m) else .ok s) = Res.whl c f n s0 := by
        rw [← ef]
        show _ = Res.req (c s) _
        rw [hc]
        rfl
      refine ht s b hc σ' G' H' _ r' w' fun G2 H2 s2 w2 => ?_
      cases b with
      | false => exact (if_neg (fun q => Bool.noConfusion q)).mpr (z.2.1 s ef2.symm σ' G2 H2 (sG.trans s2) (r'.mono s2) w2)
      | true =>
        refine (if_pos rfl).mpr ⟨fun σ3 H3 => ∃ s3 G3, Le G G3 ∧ Reps G3 σ3 (fn s3).1 ∧ At G3 (fn s3).2 H3 ∧ Res.whl c f m s3 = Res.whl c f n s0, fun σ3 H3 q => ⟨m, Nat.lt_succ_self m, q⟩, ?_⟩
        have ef3 : Res.bind (f s) (Res.whl c f m) = Res.whl c f n s0 := ef2
        refine hb s σ' G2 H2 _ (r'.mono s2) w2 ⟨fun q => ?_, fun s5 q σ5 G5 H5 s5' r5 w5 => ?_, fun e q => ?_⟩
        · rw [q] at ef3
          exact z.1 ef3.symm
        · rw [q] at ef3
          exact ⟨s5, G5, sG.trans (s2.trans s5'), r5, w5, ef3⟩
        · rw [q] at ef3
          exact PostE.mono (sG.trans s2) (z.2.2 e ef3.symm)
end
end Lf
/-! ## Readings told by plain data: what may be None compared; membership of data -/
namespace Lf
open PySem PySem.Spec PyProof.Rows L2
open PySem.W (Frag)
instance : Fl (Option Int) where
  v := fun o => match o with
    | none => .non
    | some i => .int i
  of {K H u x} h := by
    cases x with
    | none => exact h
    | some i => exact h.1
  dec := inferInstance
  sc x y := by cases x <;> cases y <;> rfl
  eqv x y := by
    cases x with
    | none =>
      cases y with
      | none => exact ⟨fun _ => rfl, fun _ => rfl⟩
      | some j => exact ⟨fun h => V.noConfusion h, fun h => by cases h⟩
    | some i =>
      cases y with
      | none => exact ⟨fun h => V.noConfusion h, fun h => by cases h⟩
      | some j => exact ⟨fun h => congrArg some (V.int.inj h), fun h => by cases h; rfl⟩
instance : Dat Bool where
  d := .bool
  dp _ h := by
    cases h
    exact .bl _
  lay _ := by simp [PyData.canLay0]
  deep := 0
  dep _ := by simp [PyData.depth]
  dec := inferInstance
  eqv x y := by cases x <;> cases y <;> simp [PyData.eqv]
/-- what is never None -/
class Off (α : Type) [t : Dat α] : Prop where
  l : ∀ x : α, PyData.eqv .none (t.d x) = false
  r : ∀ x : α, PyData.eqv (t.d x) .none = false
instance : Off Int := ⟨fun _ => by simp [Dat.d, PyData.eqv], fun _ => by simp [Dat.d, PyData.eqv]⟩
instance : Off Bool := ⟨fun _ => by simp [Dat.d, PyData.eqv], fun _ => by simp [Dat.d, PyData.eqv]⟩
instance {α β : Type} [Dat α] [Dat β] : Off (α × β) := ⟨fun _ => by simp [Dat.d, PyData.eqv], fun _ => by simp [Dat.d, PyData.eqv]⟩
instance {α : Type} [Dat α] : Off (List α) := ⟨fun _ => by simp [Dat.d, PyData.eqv], fun _ => by simp [Dat.d, PyData.eqv]⟩
instance {α : Type} [Dat α] : Off (Tu α) := ⟨fun _ => by simp [Dat.d, PyData.eqv], fun _ => by simp [Dat.d, PyData.eqv]⟩
def datO {α : Type} [t : Dat α] : Option α → PyData
  | none => .none
  | some x => t.d x
instance {α : Type} [t : Dat α] [n : Off α] : Dat (Option α) where
  d := datO
  dp {K G H ω v x} w h := match x, h with
    | none, h => by
      cases h
      exact .non
    | some x, h => t.dp w h.1
  lay x := match x with
    | none => by simp [datO, PyData.canLay0]
    | some x => t.lay x
  deep := t.deep
  dep x := match x with
    | none => by simp [datO, PyData.depth]
    | some x => t.dep x
  dec := letI := t.dec; inferInstance
  eqv x y := by
    letI := t.dec
    cases x with
    | none =>
      cases y with
      | none => simp [datO, PyData.eqv]
      | some y =>
        show PyData.eqv .none (t.d y) = _
        rw [n.l, decide_eq_false (fun h => by cases h)]
    | some x =>
      cases y with
      | none =>
        show PyData.eqv (t.d x) .none = _
        rw [n.r, decide_eq_false (fun h => by cases h)]
      | some y =>
        show PyData.eqv (t.d x) (t.d y) = _
        rw [t.eqv]
        exact decide_eq_decide.mpr ⟨fun h => congrArg some h, Option.some.inj⟩
theorem any_mem {α : Type} [t : Dat α] (x : α) : ∀ xs : List α, ((xs.map t.d).any fun z => PyData.eqv z (t.d x)) = true ↔ x ∈ xs
  | [] => by simp
  | y :: xs => by
    rw [List.map_cons, List.any_cons, Bool.or_eq_true_iff, any_mem x xs, t.eqv, List.mem_cons]
    refine ⟨fun h => ?_, fun h => ?_⟩
    · rcases h with h | h
      · exact .inl (@of_decide_eq_true _ (t.dec y x) h).symm
      · exact .inr h
    · rcases h with h | h
      · exact .inl (@decide_eq_true _ (t.dec y x) h.symm)
      · exact .inr h
section
variable {K : Frag} {ω : List Ent} {a b : MP} {α : Type} [t : Dat α]
theorem OpX.inA {x : α} {xs : List α} [dc : Decidable (x ∈ xs)] (ha : DtAt K ω a x) (hb : DtAt K ω b xs) (h : t.deep ≤ 63) : OpX (rInD K) ω ω a b (is K (decide (x ∈ xs))) := fun G H u v Q w p1 p2 q => by
  have hl : Dat.deep (List α) ≤ 64 := Nat.succ_le_succ h
  refine ⟨t.d x, xs.map t.d, ha G H u w p1, hb G H v w p2, Dat.shaped (Nat.le_succ_of_le h) x, Dat.shaped hl xs, q _ G H (Le.refl _) w ?_⟩
  refine congrArg _ ?_
  have := any_mem x xs
  by_cases c : x ∈ xs
  · rw [this.mpr c, decide_eq_true c]
  · rw [decide_eq_false c]
    cases e : (xs.map t.d).any fun z => PyData.eqv z (t.d x) with
    | true => exact absurd (this.mp e) c
    | false => rfl
theorem OpX.niA {x : α} {xs : List α} [dc : Decidable (x ∈ xs)] (ha : DtAt K ω a x) (hb : DtAt K ω b xs) (h : t.deep ≤ 63) : OpX (rNotInD K) ω ω a b (is K (!decide (x ∈ xs))) := fun G H u v Q w p1 p2 q => by
  have hl : Dat.deep (List α) ≤ 64 := Nat.succ_le_succ h
  refine ⟨t.d x, xs.map t.d, ha G H u w p1, hb G H v w p2, Dat.shaped (Nat.le_succ_of_le h) x, Dat.shaped hl xs, q _ G H (Le.refl _) w ?_⟩
  refine congrArg _ ?_
  have := any_mem x xs
  by_cases c : x ∈ xs
  · rw [this.mpr c, decide_eq_true c]
  · rw [decide_eq_false c]
    cases e : (xs.map t.d).any fun z => PyData.eqv z (t.d x) with
    | true => exact absurd (this.mp e) c
    | false => rfl
end
end Lf
instance : Lf.Ord1 (List Int) where
  alike xs := by
    constructor
    · intro x hx y hy
      obtain ⟨a, _, rfl⟩ := List.mem_map.mp hx
      obtain ⟨b, _, rfl⟩ := List.mem_map.mp hy
      show PySem.W.alike (.list _) (.list _) = true
      rw [PySem.W.alike]
      exact PySem.W.alike_ints a b
    · intro x hx e
      obtain ⟨a, _, rfl⟩ := List.mem_map.mp hx
      cases e
/-- a pair of one kind, walked over -/
theorem Lf.EvX.tuOf {K : PySem.W.Frag} {Γ : Lf.Gm} {ω ω1 : List Lf.Ent} {te : L2.TE} {α : Type} [Lf.Rp α] {x : α × α} (h : Lf.EvX te Γ ω ω1 (Lf.is K x)) : Lf.EvX te Γ ω ω1 (Lf.is K (Lf.Tu.mk [x.1, x.2])) := h.as fun G v p => by
  obtain ⟨a, u, v, rfl, e, h1, h2⟩ := p
  exact ⟨a, _, rfl, e, .cons h1 (.cons h2 .nil), by show 2 ≤ PySem.sizeLine; decide⟩
/-- a, b, c = e1, e2, e3 -/
theorem Lf.Go.parS {K : PySem.W.Frag} {W : L2.WX} {ωe : List Lf.Ent} {X : Type} {Γ : Lf.Gm} {ω ω1 : List Lf.Ent} {Z : Lf.ZF K W ωe X} {u : L2.TS} {i j l : Nat} {tA : L2.TA} {a b c : Lf.MP} {x : Lf.Res X} (h : Lf.EvA tA Γ ω ω1 [a, b, c]) (k : Lf.Go u (((Γ.set i (some a)).set j (some b)).set l (some c)) ω1 Z x) : Lf.Go (L2.tSeq (L2.tPar3 i j l tA) u) Γ ω Z x := fun σ G H D rp w z => h σ G H _ rp w fun vs G2 H2 s w2 p => by
  cases p with
  | cons p1 q =>
    cases q with
    | cons p2 q =>
      cases q with
      | cons p3 q =>
        cases q
        exact ⟨_, _, _, rfl, k _ G2 H2 D ((((rp.mono s).set p1).set p2).set p3) w2 (Z.mono s z)⟩
theorem _root_.L2.Room.units65 {k : Nat} {A : PySem.Around} (r : L2.Room k A) : A.units + 65 < PySem.cLine := by
  have := r.un
  omega
/-! ## Readings told by plain data: a < b < c; list(range(a, b)) -/
namespace Lf
open PySem PySem.Spec PyProof.Rows L2
open PySem.W (Frag)
section
variable {K : Frag} {Γ : Gm} {ω ω1 ω2 ω3 : List Ent} {ta tb tc : TE} {r r' : R2} {a b c : MP} {x y : Bool}
/-- a chain of two comparisons: the second is asked if the first holds -/
theorem EvT.chain (ha : EvX ta Γ ω ω a) (hb : EvX tb Γ ω ω b) (hr : OpX r ω ω a b (is K x)) (hc : EvX tc Γ ω ω c) (hr' : OpX r' ω ω b c (is K y)) : EvT (tTest (tChain r r' ta tb tc)) Γ ω ω (x && y) := fun σ G H Q rp w q => by
  refine ha σ G H _ rp w fun u G1 H1 s1 w1 p1 => hb σ G1 H1 _ (rp.mono s1) w1 fun v G2 H2 s2 w2 p2 => hr G2 H2 u v _ w2 (a.mono s2 p1) p2 fun t G3 H3 s3 w3 p3 => ?_
  cases (show t = .bl x from p3)
  refine ⟨x, rfl, ?_⟩
  cases x with
  | false => exact (if_neg (fun z => Bool.noConfusion z)).mpr ⟨false, rfl, q G3 H3 (s1.trans (s2.trans s3)) w3⟩
  | true =>
    refine (if_pos rfl).mpr (hc σ G3 H3 _ (rp.mono (s1.trans (s2.trans s3))) w3 fun z G4 H4 s4 w4 p4 => hr' G4 H4 v z _ w4 (b.mono (s3.trans s4) p2) p4 fun t' G5 H5 s5 w5 p5 => ?_)
    cases (show t' = .bl y from p5)
    exact ⟨y, rfl, q G5 H5 (s1.trans (s2.trans (s3.trans (s4.trans s5)))) w5⟩
theorem EvF.lrng {i j : Int} {xs : List Int} (hi : EvX ta Γ ω ω1 (is K i)) (hj : EvX tb Γ ω1 ω2 (is K j)) (e : irng i j = some xs) : EvF (tLstRg (tRg2 ta tb)) Γ ω ω2 (olst K xs) := fun σ G H Q rp w q => hi σ G H _ rp w fun u G1 H1 s1 w1 p1 => hj σ G1 H1 _ (rp.mono s1) w1 fun v G2 H2 s2 w2 p2 => by
  cases (show u = .int i from p1)
  cases (show v = .int j from p2)
  unfold irng at e
  split at e
  · rename_i c
    cases e
    have len := c.2.2.2.2
    rw [sizeLine_eq] at len
    have vs : rgV i j = ((List.range (j - i).toNat).map fun (k : Nat) => i + (k : Int)).map V.int := by
      unfold rgV
      rw [List.map_map]
      rfl
    refine ⟨i, j, rfl, rfl, ⟨by omega, by omega, by omega, by omega, by omega⟩, fun p hp => ?_⟩
    rw [vs]
    exact q p G2 _ (s1.trans s2) (newL w2 hp (all_ints _) (by rw [List.length_map, List.length_range]; exact c.2.2.2.2))
  · cases e
end
end Lf
theorem Lf.CaX.lenP {K : PySem.W.Frag} {ω : List Lf.Ent} {α β : Type} [Lf.Rp α] [Lf.Rp β] {x : α × β} : Lf.CaX (Evl.rLenS K) ω ω [Lf.is K x] (Lf.is K (2 : Int)) := fun G H vs Q w pa q => by
  obtain ⟨v, rfl, a, y, z, rfl, e, _, _⟩ := Lf.PArgs.one pa
  exact ⟨a, [y, z], rfl, .inr (RC.st_of (w.tup e)), q _ G H (Lf.Le.refl _) w rfl⟩
instance {α β : Type} [Lf.Rp α] [Lf.Rp β] : Lf.PyT (α × β) := { t := "tuple", ty := fun w ⟨a, x, y, e, h, _⟩ => by subst e; exact .base (.tup (w.tup h)) }
/-! ## Readings told by plain data: any values asked and compared -/
namespace Lf
open PySem PySem.Spec PyProof.Rows L2
open PySem.W (Frag)
open He (ga)
/-- is it of this built-in kind -/
def PV.isTy (c : String) : PV → Bool
  | .non => false
  | .bl _ => c == "bool" || c == "int"
  | .int _ => c == "int"
  | .str _ => c == "str"
  | .lst _ => c == "list"
  | .tup _ => c == "tuple"
  | .edict => c == "dict"
  | .roll _ _ => false
def PV.asI : PV → Option Int
  | .int i => some i
  | _ => none
def PV.asS : PV → Option Str
  | .str s => some s
  | _ => none
def PV.asL : PV → Option (List PV)
  | .lst xs => if xs.length ≤ sizeLine then some xs else none
  | _ => none
instance {α : Type} [t : ToPV α] : ToPV (Option α) where
  of := fun o => match o with
    | none => .non
    | some x => t.of x
  conv {K G v o} h := match o, h with
    | none, h => by
      cases h
      exact .non
    | some x, h => t.conv h.1
instance {α β : Type} [t : ToPV α] [s : ToPV β] : ToPV (α × β) where
  of := fun p => .tup [t.of p.1, s.of p.2]
  conv {K G v p} h := by
    obtain ⟨a, x, y, rfl, e, h1, h2⟩ := h
    exact .tup e (.cons (t.conv h1) (.cons (s.conv h2) .nil))
section
variable {K : Frag} {Γ : Gm} {ω ω1 ω2 : List Ent} {te to : TE} {a b : MP}
theorem allOf {G : Hp} : ∀ {vs : List V} {xs : List PV}, AnyL K G vs xs → All K G vs xs
  | _, _, .nil => .nil
  | _, _, .cons h t => .cons h (allOf t)
theorem asI_imp {x : PV} {i : Int} (e : x.asI = some i) (G : Hp) (v : V) (p : (is K x).p G v) : (is K i).p G v := by
  cases x with
  | int j =>
    cases e
    cases (show AnyV K G v (.int i) from p)
    rfl
  | _ => cases e
theorem asS_imp {x : PV} {i : Str} (e : x.asS = some i) (G : Hp) (v : V) (p : (is K x).p G v) : (is K i).p G v := by
  cases x with
  | str j =>
    cases e
    cases (show AnyV K G v (.str i) from p)
    rfl
  | _ => cases e
theorem asL_imp {x : PV} {xs : List PV} (e : x.asL = some xs) (G : Hp) (v : V) (p : (is K x).p G v) : (is K xs).p G v := by
  cases x with
  | lst ys =>
    unfold PV.asL at e
    dsimp only at e
    split at e
    · rename_i l
      cases e
      cases (show AnyV K G v (.lst xs) from p) with
      | lst hh pp => exact ⟨_, _, rfl, hh, allOf pp, l⟩
    · cases e
  | _ => cases e
theorem EvX.asI {x : PV} {i : Int} (h : EvX te Γ ω ω1 (is K x)) (e : x.asI = some i) : EvX te Γ ω ω1 (is K i) := h.as (asI_imp e)
theorem EvX.asS {x : PV} {i : Str} (h : EvX te Γ ω ω1 (is K x)) (e : x.asS = some i) : EvX te Γ ω ω1 (is K i) := h.as (asS_imp e)
theorem EvX.asL {x : PV} {xs : List PV} (h : EvX te Γ ω ω1 (is K x)) (e : x.asL = some xs) : EvX te Γ ω ω1 (is K xs) := h.as (asL_imp e)
/-! == of any values -/
def eqV (x y : PV) : Option Bool := match x.d, y.d with
  | some a, some b => if SeqAt.shaped a && SeqAt.shaped b then some (PyData.eqv a b) else none
  | _, _ => none
theorem eqV_inv {x y : PV} {r : Bool} (h : eqV x y = some r) : ∃ c d, x.d = some c ∧ y.d = some d ∧ SeqAt.shaped c = true ∧ SeqAt.shaped d = true ∧ PyData.eqv c d = r := by
  unfold eqV at h
  split at h
  · rename_i c d ec ed
    split at h
    · rename_i s
      cases h
      rw [Bool.and_eq_true] at s
      exact ⟨c, d, ec, ed, s.1, s.2, rfl⟩
    · cases h
  · cases h
theorem OpX.eqV {x y : PV} {r : Bool} (h : Lf.eqV x y = some r) : OpX (rEqD K) ω ω (is K x) (is K y) (is K r) := fun G H u v Q w p1 p2 q => by
  obtain ⟨c, d, ec, ed, sc, sd, e⟩ := eqV_inv h
  refine ⟨c, d, any_dp w p1 ec, any_dp w p2 ed, sc, sd, q _ G H (Le.refl _) w ?_⟩
  show V.bl _ = V.bl _
  rw [e]
theorem OpX.neV {x y : PV} {r : Bool} (h : Lf.eqV x y = some r) : OpX (rNeD K) ω ω (is K x) (is K y) (is K (!r)) := fun G H u v Q w p1 p2 q => by
  obtain ⟨c, d, ec, ed, sc, sd, e⟩ := eqV_inv h
  refine ⟨c, d, any_dp w p1 ec, any_dp w p2 ed, sc, sd, q _ G H (Le.refl _) w ?_⟩
  show V.bl _ = V.bl _
  rw [e]
/-! the first place of an item -/
def idxL {α : Type} [DecidableEq α] (xs : List α) (y : α) : Option Int := (xs.findIdx? fun z => decide (z = y)).map fun (j : Nat) => (j : Int)
theorem EvX.index {α : Type} [t : Dat α] [DecidableEq α] {xs : List α} {y : α} {j : Int} (ht : EvX to Γ ω ω1 (is K xs)) (h : EvX te Γ ω1 ω2 (is K y)) (e : idxL xs y = some j) (hd : t.deep ≤ 63) : EvX (tBM K "list" (rIndexD K) to (tCons te tNil)) Γ ω ω2 (is K j) := fun σ G H Q rp w q => ht σ G H _ rp w fun v G1 H1 s1 w1 p1 => by
  obtain ⟨p, us, rfl, ea, ha, l⟩ := p1
  refine ⟨.inl ⟨rfl, _, RC.sq_of (w1.lst ea)⟩, h σ G1 H1 _ (rp.mono s1) w1 fun v G2 H2 s2 w2 p2 => ?_⟩
  unfold idxL at e
  obtain ⟨i, ei, ej⟩ := Option.map_eq_some_iff.mp e
  obtain ⟨li, ci, no⟩ := List.findIdx?_eq_some_iff_getElem.mp ei
  have hl : Dat.deep (List α) ≤ 64 := Nat.succ_le_succ hd
  have px : Rp.rep K G2 (.ref p) xs := Rp.mono s2 ⟨p, us, rfl, ea, ha, l⟩
  refine ⟨p, v, t.d y, xs.map t.d, i, t.d xs[i], rfl, rfl, Dat.dp w2 px, t.dp w2 p2, Dat.shaped hl xs, Dat.shaped (Nat.le_succ_of_le hd) y, ?_, ?_, fun m z' hm hz => ?_, q _ G2 H2 (s1.trans s2) w2 (by show V.int _ = V.int _; rw [← ej])⟩
  · rw [List.getElem?_map, List.getElem?_eq_getElem li]
    rfl
  · rw [t.eqv]
    exact @decide_eq_true _ (t.dec _ _) (of_decide_eq_true ci)
  · rw [List.getElem?_map, List.getElem?_eq_getElem (by omega)] at hz
    cases hz
    rw [t.eqv]
    exact @decide_eq_false _ (t.dec _ _) fun c => no m hm (decide_eq_true c)
end
end Lf
/-! ## calls by keywords alone -/
namespace RC
open PySem PySem.Spec PyProof.Rows L2
/-- these of the values, in this order -/
def pick {α : Type} (p : List Nat) (zs : List α) : List α := p.filterMap fun i => zs[i]?
theorem vals_get : ∀ {vs : List V} {us : List Value}, Vals vs us → ∀ i : Nat, (vs[i]? = none ∧ us[i]? = none) ∨ ∃ v u, vs[i]? = some v ∧ us[i]? = some u ∧ RelV v u
  | _, _, .nil, i => .inl ⟨rfl, rfl⟩
  | _, _, .cons r _, 0 => .inr ⟨_, _, rfl, rfl, r⟩
  | _, _, .cons _ t, i + 1 => vals_get t i
theorem pick_vals {vs : List V} {us : List Value} (r : Vals vs us) : ∀ p : List Nat, Vals (pick p vs) (pick p us)
  | [] => .nil
  | i :: p => by
    have h := pick_vals r p
    rcases vals_get r i with ⟨a, b⟩ | ⟨v, u, a, b, rv⟩
    · unfold pick at h ⊢
      rw [List.filterMap_cons_none a, List.filterMap_cons_none b]
      exact h
    · unfold pick at h ⊢
      rw [List.filterMap_cons_some a, List.filterMap_cons_some b]
      exact .cons rv h
theorem pick_rel {vs zs : List V} {us ws : List Value} (r : Vals vs us) (p : List Nat) (q : Vals zs ws) : Vals (vs ++ pick p zs) (us ++ pick p ws) := r.append (pick_vals q p)
section
variable {K : PySem.W.Frag} {x qual : Str} {params : Arguments} {body : List Stmt} {scope : Scope} {f : Addr} {fd : FuncData} {ps : List Str}
theorem kb_of (F : FunD K x qual params body scope [] [] f fd) {n : Nat} {ks : List Str} {p : List Nat}
    (h : ∀ (kV doc pm : Value) (an : Option Addr) (cdv ct : Value) (us ws : List Value), us.length = n → ws.length = ks.length → bindArgs (PySem.W.fnOf x qual params body scope .none kV doc pm an cdv ct) ⟨us, ks.zip ws⟩ = pure (ps.zip (us ++ pick p ws))) :
    KBn K fd ps n ks (fun us ws => us ++ pick p ws) (fun vs zs => vs ++ pick p zs) where
  rel a b := pick_rel a p b
  to s us ws _ l1 l2 := by
    have ⟨_, _, _, kv, dc, pm, an, cd, ct, _, made, _, _, dfl, _⟩ := F.ex
    subst made
    match dfl with
    | .inl ⟨_, none_⟩ =>
      subst none_
      exact .of_eq (h kv dc pm an cd ct us ws l1 l2)
    | .inr ⟨some_, _⟩ => exact absurd rfl some_
end
/-- the keywords' values, put in the parameters' order -/
def tPick (p : List Nat) (m : Nat) (tk : TA) : TA := fun σ H Q => tk σ H fun zs H1 => zs.length = m ∧ Q (pick p zs) H1
/-- how a call by keywords alone is written: each has a name, these are the names, nothing is starred -/
structure Named (X : Cx) (at_ : Pos) (kws : List Keyword) (ks : List Str) : Prop where
  each : List.all (backToKw at_ (keywordEach kws X.env)) (fun q => q.1.isSome) = true
  names : List.filterMap (fun q => q.1) (backToKw at_ (keywordEach kws X.env)) = ks
  plain : (List.any (backTo at_ (starEach [] X.env)) (fun q => q.1) || List.any (backToKw at_ (keywordEach kws X.env)) fun q => q.1.isNone) = false
section
variable {X : Cx} {CX : CXT} {n : Nat} {fn C : Addr} {fd : FuncData} {ps ks : List Str} {sp : Sp} {E : XK} {id mn : Str} {p1 p2 p3 : Pos} {obj : Expr} {kws : List Keyword} {ta : TE} {tk : TA} {pi : List Nat}
/-- the values, then what stands behind them -/
theorem kw_run (kw : PK X kws tk) (N : Named X p2 kws ks) {f : Value} {first : List Value} {pins : List (Addr × Obj)} {σ : L2.St} {H : Hp} {s : Shared} {Q : Value → Shared → Prop} {T : List V → Hp → Prop} (I : Inv X pins σ H s) (keep : PySem.W.keepIn X.K f = true) (h : tk σ H T)
    (go : ∀ ws zs s2 H2, Inv X pins σ H2 s2 → Vals zs ws → T zs H2 → wpAny (model X.prog X.w) X.A (call f (first ++ []) (ks.zip ws)) Q X.xe s2) :
    wpAny (model X.prog X.w) X.A (callWith p2 f first (backTo p2 (starEach [] X.env)) (backToKw p2 (keywordEach kws X.env))) Q X.xe s := by
  have run := kw.run p2 pins s σ H T I h
  exact PySem.W.callWith_KW0 (h₀ := X.base) I.ok.mod.kin keep N.each (thn run fun ws s2 ⟨zs, H2, J, r, t⟩ => ⟨J.kIn, N.names.symm ▸ go ws zs s2 H2 J r t⟩) N.plain
/-- f(k = v, ..) -/
theorem pe_fnK (F : FnOk X.prog X.w X.K X.mg X.base CX n fn fd ps sp) (room : Room n X.A) (gl : Gl X id) (here : X.mg id = some (.ref fn)) (keep : PySem.W.keepIn X.K (.ref fn) = true) (kb : KBn X.K fd ps 0 ks (fun us ws => us ++ pick pi ws) (fun vs zs => vs ++ pick pi zs)) (pass : Passes CX X E) (kw : PK X kws tk)
    (N : Named X p2 kws ks := by exact ⟨by rfl, by rfl, by rfl⟩) (db : (id == ("__debug__" : Str)) = false := by decide) : PE X (.Call (.Name id p1) [] kws p2) (tCall sp [] E (tPick pi ks.length tk)) where
  run pins s σ H Q I h := wpAny_Call_Name_kw (ld_glob I gl here (kw_run kw N I keep h fun ws zs s2 H2 J r t => by
    have t2 : sp (pick pi zs ++ []) H2 Q E := t.2
    rw [List.append_nil] at t2
    exact run_fnN (us := []) (vs := []) F room kb pass J .nil r rfl t.1 t2) db)
/-- o.m(k = v, ..) -/
theorem pe_methK {pl : Sem Bool} (he : PE X obj ta) (cl : Cls X.K C) (me : Meth X.K C mn fn) (F : FnOk X.prog X.w X.K X.mg X.base CX n fn fd ps sp) (room : Room n X.A) (kb : KBn X.K fd ps 1 ks (fun us ws => us ++ pick pi ws) (fun vs zs => vs ++ pick pi zs)) (pass : Passes CX X E) (kw : PK X kws tk)
    (N : Named X p2 kws ks := by exact ⟨by rfl, by rfl, by rfl⟩)
    (way : eval (.Call (.Attribute obj mn p3) [] kws p2) X.env = (do
      let o ← eval obj X.env
      standAt p3.atName
      let (m, own) ← holding [o] (getMethod o mn pl)
      callWith p2 m own (backTo p2 (starEach [] X.env)) (backToKw p2 (keywordEach kws X.env))) := by rfl) :
    PE X (.Call (.Attribute obj mn p3) [] kws p2) (tMeth C mn sp [] E ta (tPick pi ks.length tk)) where
  run pins s σ H Q I h := PySem.W.methodCall_KW (pl := pl) (thn (he.run pins s σ H _ I h) fun u s1 ⟨y, H1, I1, ry, a, dx, fs, ey, ea, none_, q⟩ => by
    subst ey
    have same : u = .ref a := ry
    subst same
    exact getmeth_ok I1 ea cl me none_ (kw_run (first := [.ref a]) kw N I1 me.kp q fun ws zs s2 H2 J r t => by
      have t2 : sp (.ref a :: (pick pi zs ++ [])) H2 Q E := t.2
      rw [List.append_nil] at t2
      exact run_fnN (us := [.ref a]) (vs := [.ref a]) F room kb pass J (.cons rfl .nil) r rfl t.1 t2)) way
/-- C(k = v, ..) -/
theorem pe_makeK (M : Mk X.K C fn) (F : FnOk X.prog X.w X.K X.mg X.base CX n fn fd ps sp) (room : Room (n + 1) X.A) (gl : Gl X id) (here : X.mg id = some (.ref C)) (kb : KBn X.K fd ps 1 ks (fun us ws => us ++ pick pi ws) (fun vs zs => vs ++ pick pi zs)) (pass : Passes CX X E) (kw : PK X kws tk)
    (N : Named X p2 kws ks := by exact ⟨by rfl, by rfl, by rfl⟩) (db : (id == ("__debug__" : Str)) = false := by decide) : PE X (.Call (.Name id p1) [] kws p2) (tMake C sp [] E (tPick pi ks.length tk)) where
  run pins s σ H Q I h := wpAny_Call_Name_kw (ld_glob I gl here (kw_run kw N I M.kp h fun ws zs s2 H2 J r t => run_makeK (us := []) (vs := []) M F room kb pass J .nil r rfl t.1 fun y dx f1 f2 f3 => by
    have t2 : sp (.ref y :: (pick pi zs ++ [])) (upd (upd H2 dx (.own y)) y (.ins C dx [])) (fun v H3 => v = .non ∧ Q (.ref y) H3) E := t.2 y dx f1 f2 f3
    rw [List.append_nil] at t2
    exact t2) db)
end
end RC
/-! ## Readings told by plain data: keywords, comprehensions that change what is one's own, while True -/
namespace Lf
open PySem PySem.Spec PyProof.Rows L2
open PySem.W (Frag)
section
variable {K : Frag} {Γ : Gm} {ω ω1 : List Ent} {tk : TA}
theorem paired_get {A B : Type} {F : A → B → Prop} : ∀ {xs : List A} {ys : List B}, Paired F xs ys → ∀ i : Nat, (xs[i]? = none ∧ ys[i]? = none) ∨ ∃ x y, xs[i]? = some x ∧ ys[i]? = some y ∧ F x y
  | _, _, .nil, i => .inl ⟨rfl, rfl⟩
  | _, _, .cons r _, 0 => .inr ⟨_, _, rfl, rfl, r⟩
  | _, _, .cons _ t, i + 1 => paired_get t i
theorem paired_pick {A B : Type} {F : A → B → Prop} {xs : List A} {ys : List B} (h : Paired F xs ys) : ∀ p : List Nat, Paired F (RC.pick p xs) (RC.pick p ys)
  | [] => .nil
  | i :: p => by
    have ih := paired_pick h p
    unfold RC.pick at ih ⊢
    rcases paired_get h i with ⟨a, b⟩ | ⟨x, y, a, b, r⟩
    · rw [List.filterMap_cons_none a, List.filterMap_cons_none b]
      exact ih
    · rw [List.filterMap_cons_some a, List.filterMap_cons_some b]
      exact .cons r ih
theorem EvA.pick {p : List Nat} {m : Nat} {mk ms : List MP} (h : EvA tk Γ ω ω1 mk) (hl : mk.length = m) (e : RC.pick p mk = ms) : EvA (RC.tPick p m tk) Γ ω ω1 ms := fun σ G H Q r w q => h σ G H _ r w fun vs G2 H2 s2 w2 p2 => ⟨(Paired.len p2).trans hl, q _ G2 H2 s2 w2 (e ▸ paired_pick p2 p)⟩
end
/-! comprehensions that draw -/
def mapT {α β S : Type} (f : S → α → Option (S × β)) : List α → S → Option (S × List β)
  | [], s => some (s, [])
  | x :: xs, s => match f s x with
    | none => none
    | some a => match mapT f xs a.1 with
      | none => none
      | some b => some (b.1, a.2 :: b.2)
section
variable {K : Frag} {Γ : Gm} {ω : List Ent} {tt : TT} {te : TE} {α β S : Type} [Rp α] [Rp β]
theorem mapT_drop {f : S → α → Option (S × β)} {xs : List α} {i : Nat} {a : α} (h : xs[i]? = some a) (s : S) : mapT f (xs.drop i) s = match f s a with
    | none => none
    | some c => match mapT f (xs.drop (i + 1)) c.1 with
      | none => none
      | some b => some (b.1, c.2 :: b.2) := by
  rw [List.drop_eq_getElem_cons (List.getElem?_eq_some_iff.mp h).1, (List.getElem?_eq_some_iff.mp h).2]
  rfl
theorem EvX.pairS {f : S → List Ent} {ω1 : List Ent} {a : S} {y : β} {r : S × β} (h : EvX te Γ ω1 (f a) (is K y)) (e : (a, y) = r) : EvX te Γ ω1 (f r.1) (is K r.2) := by
  subst e
  exact h
theorem EvF.lcS {wi : TI} {g : TG} {vs : List Nat} {P : List Ent → Prop} {xs : List α} {s0 : S} {r : S × List β} {fb : S → α → Option (S × β)} {fo : S → List Ent} {Γb : α → Gm} (hi : IterX K wi Γ ω (fo s0) P xs) (hP : ∀ s p φ, P (.own p φ :: fo s)) (ht : TgW K g vs (wipeG Γ vs) Γb) (htt : ∀ Γ ω, EvT tt Γ ω ω true) (h : mapT fb xs s0 = some r)
    (hb : ∀ s a b p φ, fb s a = some b → EvX te (Γb a) (.own p φ :: fo s) (.own p φ :: fo b.1) (is K b.2)) : EvF (tLc wi g tt te vs) Γ ω (fo r.1) (olst K r.2) := fun σ G H Q rp w q => hi σ G H _ rp w fun J G2 H2 s2 w2 wk D hD => by
  have hl := wk.len
  refine ⟨fun i m H' => m = xs.length - i ∧ i ≤ xs.length ∧ ∃ s acc G' r', Le G2 G' ∧ At G' (.own D (olst K acc) :: fo s) H' ∧ acc.length ≤ i ∧ mapT fb (xs.drop i) s = some r' ∧ r'.1 = r.1 ∧ acc ++ r'.2 = r.2, ⟨xs.length, by simp, Nat.zero_le _, s0, [], G2, r, Le.refl _, newL w2 hD .nil (Nat.zero_le _), Nat.le_refl _, h, rfl, rfl⟩, ?_⟩
  rintro i m H' ⟨rfl, hle, s, acc, G', r', sG, w', la, ef, e1, ea⟩
  by_cases hlt : i < xs.length
  · have hx : xs[i]? = some xs[i] := List.getElem?_eq_getElem hlt
    rw [mapT_drop hx] at ef
    refine .inr ⟨wk.go G' _ H' i sG w' (hP _ _ _) hlt, fun H3 => ∃ s acc G3 r', Le G2 G3 ∧ At G3 (.own D (olst K acc) :: fo s) H3 ∧ acc.length ≤ i + 1 ∧ mapT fb (xs.drop (i + 1)) s = some r' ∧ r'.1 = r.1 ∧ acc ++ r'.2 = r.2, fun H3 q => ⟨xs.length - (i + 1), by omega, rfl, hlt, q⟩, fun x H3 y => ?_⟩
    obtain ⟨G3, s3, w3, px⟩ := wk.yld G' _ H' i x H3 _ sG w' (hP _ _ _) hx y
    have rw0 := (rp.mono (s2.trans (sG.trans s3))).wipe vs
    refine ht _ _ G3 H3 _ x _ rw0 w3 px fun σ4 l4 k4 r4 => ⟨?_, ?_⟩
    · refine (wipe_eq l4 k4).trans (wipe_eq (by rw [wipe_length]) fun i hi => ?_)
      rw [wipe_get, if_neg hi]
    · cases ho : fb s xs[i] with
      | none =>
        rw [ho] at ef
        cases ef
      | some b =>
        rw [ho] at ef
        refine htt _ _ σ4 G3 H3 _ r4 w3 fun G4 H4 s4 w4 => RC.if_t rfl ?_
        have ef' : (match mapT fb (xs.drop (i + 1)) b.1 with | none => none | some c => some (c.1, b.2 :: c.2)) = some r' := ef
        split at ef'
        · cases ef'
        · rename_i r2 e2
          cases ef'
          refine hb s _ b D (olst K acc) ho σ4 G4 H4 _ (r4.mono s4) w4 fun v G5 H5 s5 w5 p5 => ?_
          obtain ⟨o, eo, us, rfl, hu, _⟩ := w5.ownAt (k := 0) rfl
          have lu := Paired.len hu
          refine ⟨us, eo, by rw [lu]; omega, b.1, acc ++ [b.2], G5, r2, sG.trans (s3.trans (s4.trans s5)), ?_, by rw [List.length_append]; show acc.length + 1 ≤ _; omega, e2, e1, by rw [List.append_assoc]; exact ea⟩
          exact w5.put (k := 0) (φ' := olst K (acc ++ [b.2])) rfl ⟨_, rfl, Paired.app' hu (.cons p5 .nil), by rw [List.length_append]; show acc.length + 1 ≤ _; omega⟩
  · have e : i = xs.length := by omega
    subst e
    rw [List.drop_length] at ef
    cases ef
    rw [List.append_nil] at ea
    subst ea
    refine .inl ⟨wk.stop G' _ H' sG w' (hP _ _ _), q D G' H' (s2.trans sG) ?_⟩
    rw [← e1]
    exact w'
end
/-! while True, left by a return -/
def Res.whr {S R : Type} (f : S → Res (Ctl S R)) : Nat → S → Res R
  | 0, _ => .bad
  | n + 1, s => Res.bind (f s) fun c => match c with
    | .nx s' => Res.whr f n s'
    | .rt r => .ok r
section
variable {K : Frag} {W : WX} {ωe : List Ent} {S R : Type} {Γ : Gm} {ω : List Ent} {fn : S → Gm × List Ent} {fr : R → RS}
theorem Go.whr {e : Bool} {tc : TT} {tb : TS} {f : S → Res (Ctl S R)} {n : Nat} {s0 : S} (h0 : Sub Γ (fn s0).1) (d0 : Dr ω (fn s0).2) (ht : ∀ Γ ω, EvT tc Γ ω ω true) (hb : ∀ s, Go tb (fn s).1 (fn s).2 (zC K W ωe fn fr) (f s)) :
    Go (tWhile tc tb) Γ ω (zR K W ωe e fr) (Res.whr f n s0) := fun σ G H D rp w z => by
  refine ⟨fun m σ' H' => ∃ s G', Le G G' ∧ Reps G' σ' (fn s).1 ∧ At G' (fn s).2 H' ∧ Res.whr f m s = Res.whr f n s0, ⟨n, s0, G, Le.refl _, rp.sub h0, d0.at w, rfl⟩, ?_⟩
  rintro m σ' H' ⟨s, G', sG, r', w', ef⟩
  cases m with
  | zero => exact absurd ef.symm z.1
  | succ m =>
    refine ht _ _ σ' G' H' _ r' w' fun G2 H2 s2 w2 => (if_pos rfl).mpr ⟨fun σ3 H3 => ∃ s3 G3, Le G G3 ∧ Reps G3 σ3 (fn s3).1 ∧ At G3 (fn s3).2 H3 ∧ Res.whr f m s3 = Res.whr f n s0, fun σ3 H3 q => ⟨m, Nat.lt_succ_self m, q⟩, ?_⟩
    have ef3 : (Res.bind (f s) fun c => match c with
      | .nx s' => Res.whr f m s'
      | .rt r => .ok r) = Res.whr f n s0 := ef
    refine hb s σ' G2 H2 _ (r'.mono s2) w2 ⟨fun q => ?_, fun s5 q σ5 G5 H5 s5' r5 w5 => ?_, fun r5 q => ?_, fun x q => ?_⟩
    · rw [q] at ef3
      exact z.1 ef3.symm
    · rw [q] at ef3
      exact ⟨s5, G5, sG.trans (s2.trans s5'), r5, w5, ef3⟩
    · rw [q] at ef3
      exact RetPost.mono (sG.trans s2) (z.2.1 r5 ef3.symm)
    · rw [q] at ef3
      exact PostE.mono (sG.trans s2) (z.2.2.1 x ef3.symm)
end
end Lf
/-! ## zip(.., strict=True) at the model: it is made, it goes on, it ends -/
namespace Zs
open PySem PySem.W
/-- a zip that says strict=True -/
abbrev IsZipS (h : Heap) (z TI TO : Addr) (f0 : Value) : Prop := h.get? z = some { cls := Value.type "zip", data := Data.fields #[f0, Value.bool false, Value.bool true, Value.ref TI, Value.ref TO] }
theorem item2 {prog : Program} {w : World} {A : Around} {E : Value → Shared → Prop} {s : Shared} {z TI TO i1 i2 : Addr} {fp1 fp2 : List Addr} {n1 n2 i : Nat} {P1 P2 : Nat → Value → Prop}
    {St1 St2 : Nat → Heap → Prop} {a1 a2 : Value} {Q : PySem.Fin → Shared → Prop} (S : ZipSep2 z TI TO i1 i2 fp1 fp2) (D1 : Draws prog w A i1 fp1 n1 P1 St1) (D2 : Draws prog w A i2 fp2 n2 P2 St2)
    (hz : IsZipS s.heap z TI TO Value.none) (hTI : IsTupOf2 s.heap TI (Value.ref i1) (Value.ref i2)) (hTO : IsTupOf2 s.heap TO a1 a2) (st1 : St1 i s.heap) (st2 : St2 i s.heap) (lt1 : i < n1) (lt2 : i < n2)
    (hq : ∀ (x1 x2 : Value) (h' : Heap) (tk : Nat), P1 i x1 → P2 i x2 → IsZipS h' z TI TO (rawInt s.heap.objs.size) → IsTupOf2 h' TO x1 x2 → St1 (i + 1) h' → St2 (i + 1) h' → IsTupOf2 h' s.heap.objs.size x1 x2 → h'.objs.size = s.heap.objs.size + 1 →
      (∀ (c : Addr) (o : Obj), c ≠ z → c ≠ TO → c ≠ i1 → c ≠ i2 → s.heap.get? c = some o → h'.get? c = some o) → Q (Fin.done (Flow.ret (Value.ref s.heap.objs.size))) { heap := h', gens := s.gens, drawn := s.drawn, toks := tk, os := s.os }) :
    wpAny (model prog w) A (PySem.Builtin.«zip.__next__» { pos := [Value.ref z] }) Q E s := by
  obtain ⟨hp, g, dr, tk, os⟩ := s
  unfold PySem.Builtin.«zip.__next__»
  refine wpAny_bind (wpAny_pure ?_)
  dsimp only
  refine wpAny_bind (wpAny_field (i := 2) hz rfl rfl ?_)
  refine wpAny_bind (wpAny_field (i := 3) hz rfl rfl ?_)
  refine wpAny_bind (wpAny_seqItems hTI rfl ?_)
  refine wpAny_ite_false rfl ?_
  refine wpAny_bind (wpAny_bind (wpAny_field (i := 0) hz rfl rfl (wpAny_pure ?_)))
  refine wpAny_ite_true rfl ?_
  refine wpAny_bind (wpAny_rule ?_)
  refine wpAny_bind (wpAny_field (i := 4) hz rfl rfl ?_)
  refine wpAny_bind (wpAny_setField_rec hz (Nat.zero_lt_succ _) fun g0 hz0 hs0 => ?_)
  refine wpAny_bind ?_
  dsimp only [List.zipIdx]
  rw [List.forIn_cons]
  refine wpAny_bind ?_
  have zTI := S.TIz
  have zTO := S.TOz
  have i1z : i1 ≠ z := fun e => S.zf1 (e ▸ S.mem1)
  have i2z : i2 ≠ z := fun e => S.zf2 (e ▸ S.mem2)
  have i1T : i1 ≠ TO := fun e => S.Tf1 (e ▸ S.mem1)
  have i2T : i2 ≠ TO := fun e => S.Tf2 (e ▸ S.mem2)
  refine wpAny_bind (wpAny_onRaise (wpAny_bind (wpAny_attempt (D1.item i _ _ _ lt1 (D1.over st1 hs0 S.zf1) fun x1 p1 tk1 y1 sn1 hp1 => ?_))))
  refine wpAny_pure ?_
  have hU1 : IsTupOf2 p1 TO a1 a2 := hp1.extBut _ _ i1T.symm (hs0.extBut _ _ zTO hTO)
  refine wpAny_bind (wpAny_seqItems hU1 rfl ?_)
  refine wpAny_bind (updateSeq_IsTupOf2 hU1 fun g1 hT1 hs1 => ?_)
  refine wpAny_bind (wpAny_letGo ?_)
  refine wpAny_pure ?_
  dsimp only
  rw [List.forIn_cons]
  refine wpAny_bind ?_
  refine wpAny_bind (wpAny_onRaise (wpAny_bind (wpAny_attempt (D2.item i _ _ _ lt2 (D2.over (D2.over (D2.over st2 hs0 S.zf2) hp1 S.sep1_2) hs1 S.Tf2) fun x2 p2 tk2 y2 sn2 hp2 => ?_))))
  refine wpAny_pure ?_
  have hU2 : IsTupOf2 p2 TO x1 a2 := hp2.extBut _ _ i2T.symm hT1
  refine wpAny_bind (wpAny_seqItems hU2 rfl ?_)
  refine wpAny_bind (updateSeq_IsTupOf2 hU2 fun g2 hT2 hs2 => ?_)
  refine wpAny_bind (wpAny_letGo ?_)
  refine wpAny_pure ?_
  dsimp only
  rw [List.forIn_nil]
  refine wpAny_pure ?_
  dsimp only
  refine wpAny_bind (wpAny_seqItems hT2 rfl ?_)
  refine wpAny_bind (wpAny_newTuple ?_ (by show 2 ≤ sizeLine; decide))
  -- the tuple handed out
  have sz : g2.objs.size = hp.objs.size := by rw [hs2.1, hp2.1, hs1.1, hp1.1, hs0.1]
  have same : ∀ (c : Addr) (o : Obj), c ≠ z → c ≠ TO → c ≠ i1 → c ≠ i2 → hp.get? c = some o → g2.get? c = some o := fun c o n1 n2 n3 n4 e => hs2.extBut _ _ n2 (hp2.extBut _ _ n4 (hs1.extBut _ _ n2 (hp1.extBut _ _ n3 (hs0.extBut _ _ n1 e))))
  have hz2 : g2.get? z = some { cls := Value.type "zip", data := Data.fields #[Value.ellipsis, Value.bool false, Value.bool true, Value.ref TI, Value.ref TO] } := hs2.extBut _ _ zTO.symm (hp2.extBut _ _ i2z.symm (hs1.extBut _ _ zTO.symm (hp1.extBut _ _ i1z.symm hz0)))
  have ne : ∀ {c : Addr} {o : Obj}, g2.get? c = some o → c ≠ g2.objs.size := fun e => Nat.ne_of_lt (Heap.lt_size e)
  show wpAny _ _ (_ >>= _) _ _ _
  refine wpAny_bind (wpAny_bind (wpAny_setField_rec (Heap.get?_push_of_some _ hz2) (Nat.zero_lt_succ _) fun h3 hz3 hs3 => wpAny_setField_rec hz3 (Nat.succ_lt_succ (Nat.zero_lt_succ _)) fun h4 hz4 hs4 => ?_))
  refine wpAny_pure ?_
  have up : ∀ (c : Addr) (o : Obj), c ≠ z → g2.get? c = some o → h4.get? c = some o := fun c o n e => hs4.extBut _ _ n (hs3.extBut _ _ n (Heap.get?_push_of_some _ e))
  have hn : h4.get? hp.objs.size = some { cls := Value.type "tuple", data := Data.seq #[x1, x2] } := by
    have nz : hp.objs.size ≠ z := by
      rw [← sz]
      exact (ne hz2).symm
    refine hs4.extBut _ _ nz (hs3.extBut _ _ nz ?_)
    rw [← sz]
    exact Heap.get?_push_size g2 rfl
  have f1 : ∀ b ∈ fp1, ∀ o, p1.get? b = some o → h4.get? b = some o := fun b hb o e => by
    have b1 : b ≠ z := fun q => S.zf1 (q ▸ hb)
    have b2 : b ≠ TO := fun q => S.Tf1 (q ▸ hb)
    have b3 : b ≠ i2 := fun q => S.sep2_1 (q ▸ hb)
    exact up b o b1 (hs2.extBut _ _ b2 (hp2.extBut _ _ b3 (hs1.extBut _ _ b2 e)))
  have f2 : ∀ b ∈ fp2, ∀ o, p2.get? b = some o → h4.get? b = some o := fun b hb o e => by
    have b1 : b ≠ z := fun q => S.zf2 (q ▸ hb)
    have b2 : b ≠ TO := fun q => S.Tf2 (q ▸ hb)
    exact up b o b1 (hs2.extBut _ _ b2 e)
  rw [show g2.objs.size = hp.objs.size from sz] at hz4
  have fin := hq x1 x2 h4 tk2 y1 y2 hz4 (up TO _ zTO hT2) (D1.frame _ _ _ sn1 f1) (D2.frame _ _ _ sn2 f2) hn (by rw [hs4.1, hs3.1, Heap.size_push, sz]) fun c o n1 n2 n3 n4 e => up c o n1 (same c o n1 n2 n3 n4 e)
  show Q (Fin.done (Flow.ret (Value.ref g2.objs.size))) _
  rw [sz]
  exact fin
theorem stop {α : Type} {prog : Program} {w : World} {A : Around} {E : Value → Shared → Prop} {s : Shared} {Q : α → Shared → Prop} (hh : A.handled = none)
    (hq : ∀ (h' : Heap) (e : Addr), (∀ b o, s.heap.get? b = some o → h'.get? b = some o) → (∃ o, h'.get? e = some o ∧ o.cls = Value.type "StopIteration") → E (Value.ref e) { heap := h', gens := s.gens, drawn := s.drawn, toks := s.toks, os := s.os }) :
    wpAny (model prog w) A (Builtin.SmallTypes.stopIteration : Sem α) Q E s := by
  unfold Builtin.SmallTypes.stopIteration
  refine wpAny_bind (wpAny_bind (wpAny_newObj_type ?_))
  refine wpAny_bind (wpAny_of_eq (show firstArgMember (Value.type "StopIteration") [] = pure _ from rfl) ?_)
  refine wpAny_newObj_type ?_
  unfold raiseNew
  refine wpAny_bind (wpAny_handled ?_)
  rw [hh]
  refine wpAny_throw ?_
  exact hq _ _ (fun b o e => Heap.get?_push_of_some _ (Heap.get?_push_of_some _ e)) ⟨_, Heap.get?_push_size _ rfl, rfl⟩
theorem end2 {prog : Program} {w : World} {A : Around} {E : Value → Shared → Prop} {s : Shared} {z TI TO i1 i2 : Addr} {fp1 fp2 : List Addr} {n : Nat} {P1 P2 : Nat → Value → Prop}
    {St1 St2 : Nat → Heap → Prop} {a1 a2 : Value} {Q : PySem.Fin → Shared → Prop} (hh : A.handled = none) (S : ZipSep2 z TI TO i1 i2 fp1 fp2) (D1 : Draws prog w A i1 fp1 n P1 St1) (D2 : Draws prog w A i2 fp2 n P2 St2)
    (hz : IsZipS s.heap z TI TO Value.none) (hTI : IsTupOf2 s.heap TI (Value.ref i1) (Value.ref i2)) (hTO : IsTupOf2 s.heap TO a1 a2) (st1 : St1 n s.heap) (st2 : St2 n s.heap)
    (hq : ∀ (h' : Heap) (tk : Nat) (e : Addr), (∀ (c : Addr) (o : Obj), c ≠ z → c ≠ TO → c ≠ i1 → c ≠ i2 → s.heap.get? c = some o → h'.get? c = some o) → (∃ o, h'.get? e = some o ∧ o.cls = Value.type "StopIteration") → E (Value.ref e) { heap := h', gens := s.gens, drawn := s.drawn, toks := tk, os := s.os }) :
    wpAny (model prog w) A (PySem.Builtin.«zip.__next__» { pos := [Value.ref z] }) Q E s := by
  obtain ⟨hp, g, dr, tk, os⟩ := s
  unfold PySem.Builtin.«zip.__next__»
  refine wpAny_bind (wpAny_pure ?_)
  dsimp only
  refine wpAny_bind (wpAny_field (i := 2) hz rfl rfl ?_)
  refine wpAny_bind (wpAny_field (i := 3) hz rfl rfl ?_)
  refine wpAny_bind (wpAny_seqItems hTI rfl ?_)
  refine wpAny_ite_false rfl ?_
  refine wpAny_bind (wpAny_bind (wpAny_field (i := 0) hz rfl rfl (wpAny_pure ?_)))
  refine wpAny_ite_true rfl ?_
  refine wpAny_bind (wpAny_rule ?_)
  refine wpAny_bind (wpAny_field (i := 4) hz rfl rfl ?_)
  refine wpAny_bind (wpAny_setField_rec hz (Nat.zero_lt_succ _) fun g0 hz0 hs0 => ?_)
  refine wpAny_bind ?_
  dsimp only [List.zipIdx]
  rw [List.forIn_cons]
  refine wpAny_bind ?_
  have i1z : i1 ≠ z := fun e => S.zf1 (e ▸ S.mem1)
  have i2z : i2 ≠ z := fun e => S.zf2 (e ▸ S.mem2)
  refine wpAny_bind (wpAny_onRaise (wpAny_bind (wpAny_attempt (D1.done _ _ _ (D1.over st1 hs0 S.zf1) fun p1 e1 x1 t1 => ?_))))
  refine wpAny_bind (wpAny_isInstance t1 rfl ?_)
  refine wpAny_ite_true rfl (wpAny_pure ?_)
  dsimp only
  have hz1 : p1.get? z = some { cls := Value.type "zip", data := Data.fields #[Value.ellipsis, Value.bool false, Value.bool true, Value.ref TI, Value.ref TO] } := x1 _ _ i1z.symm hz0
  refine wpAny_bind (wpAny_setField_rec hz1 (Nat.zero_lt_succ _) fun g1 hz2 hs1 => ?_)
  refine wpAny_bind ?_
  refine wpAny_bind ?_
  rw [show (List.drop 1 [Value.ref i1, Value.ref i2]).zipIdx 1 = [(Value.ref i2, 1)] from rfl, List.forIn_cons]
  refine wpAny_bind ?_
  have st2' : St2 n g1 := D2.over (D2.frame _ _ _ (D2.over st2 hs0 S.zf2) fun b hb o e => x1 b o (fun q => S.sep1_2 (q ▸ hb)) e) hs1 S.zf2
  refine wpAny_bind (wpAny_bind (wpAny_attempt (D2.done _ _ _ st2' fun p2 e2 x2 t2 => ?_)))
  refine wpAny_bind (wpAny_isInstance t2 rfl ?_)
  refine wpAny_ite_true rfl (wpAny_pure ?_)
  refine wpAny_ite_false rfl (wpAny_pure ?_)
  dsimp only
  rw [List.forIn_nil]
  refine wpAny_pure ?_
  refine wpAny_bind (wpAny_rule ?_)
  refine stop hh fun h' e up te => ?_
  exact hq h' tk e (fun c o n1 n2 n3 n4 q => up c o (x2 c o n4 (hs1.extBut c o n1 (x1 c o n3 (hs0.extBut c o n1 q))))) te
abbrev kS : List (Str × Value) := [(Str.ofString "strict", Value.bool true)]
example (a b : Value) : checkBuiltinCall "zip.__new__" { pos := [Value.type "zip", a, b], kw := kS } = pure () := by kernel_rfl
example (a b c : Value) : checkBuiltinCall "zip.__new__" { pos := [Value.type "zip", a, b, c], kw := kS } = pure () := by kernel_rfl
example (a b : Value) : checkTypeCall "zip" { pos := [a, b], kw := kS } = pure () := by kernel_rfl
theorem call_zipS {prog : Program} {w : World} {A : Around} {E : Value → Shared → Prop} {s : Shared} {args : List Value} {Q : Value → Shared → Prop} (ct : checkTypeCall "zip" { pos := args, kw := kS } = pure ()) (cn : checkBuiltinCall "zip.__new__" { pos := Value.type "zip" :: args, kw := kS } = pure ())
    (ok : ∀ obj, argsOk "object.__init__" { pos := obj :: args, kw := kS })
    (h : wpAny (model prog w) A.in1.in1 (Builtin.«zip.__new__» { pos := Value.type "zip" :: args, kw := kS }) (fun fin s1 => ∃ v, fin = Fin.done (Flow.ret v) ∧ s1.TypeIs v "zip" ∧ Q v s1) E s) : wpAny (model prog w) A (call (Value.type "zip") args kS) Q E s := by
  have ft := F.called_zip
  obtain ⟨c, tl, hmro⟩ := ft.mro
  refine wpAny_call (codeAny_of_tree ?_)
  refine wpAny_pure ?_
  refine ⟨Code.quiet_builtin _ (by kernel_rfl), codeAny_builtin F.entry_type_call ?_⟩
  rw [Around.under_plain (weight_type_call_type "zip" args kS) (units_type_call_type "zip" args kS)]
  unfold Builtin.«type.__call__»
  dsimp only
  refine wpAny_ite_false (by kernel_rfl) ?_
  refine wpAny_ite_false (by kernel_rfl) ?_
  refine wpAny_bind (wpAny_of_eq ct ?_)
  refine wpAny_bind (wpAny_of_eq hmro ?_)
  refine wpAny_ite_false rfl ?_
  refine wpAny_bind (wpAny_of_eq ft.made ?_)
  refine wpAny_bind (wpAny_pure ?_)
  refine wpAny_bind (wpAny_holding (wpAny_call ?_))
  refine codeAny_call_builtin ft.plain F.entry_zip_new (wpAny_of_eq cn (wpAny_mono h (fun fin s1 hf => ?_) fun e s1 he => he))
  obtain ⟨v, rfl, hT, q⟩ := hf
  refine wpAny_bind (wpAny_isInstance hT ft.sub ?_)
  refine wpAny_ite_false rfl ?_
  refine wpAny_bind (wpAny_holding ?_)
  unfold callSpecial?
  refine wpAny_bind (wpAny_specialOf hT ft.init.lookup ?_)
  refine wpAny_holding (wpAny_bind (wpAny_of_eq (ft.init.bind v) ?_))
  dsimp only
  refine wpAny_bind (wpAny_call (codeAny_call_builtin ft.init.plain F.entry_object_init (ft.init.check _ _ _ _ _ _ _ _ hT (ok v) ?_)))
  unfold Builtin.«object.__init__»
  dsimp only
  refine wpAny_ite_true (by simp) ?_
  refine wpAny_bind (wpAny_typeOf hT ?_)
  refine wpAny_bind (wpAny_of_eq ft.init.lookup ?_)
  refine wpAny_bind (wpAny_of_eq ft.made ?_)
  refine wpAny_ite_false (by kernel_rfl) ?_
  refine wpAny_ite_false (by kernel_rfl) ?_
  refine wpAny_pure ?_
  refine wpAny_pure ?_
  refine wpAny_ite_false rfl ?_
  refine wpAny_pure ?_
  exact q
theorem new2 {prog : Program} {w : World} {A : Around} {E : Value → Shared → Prop} {s : Shared} {v1 v2 : Value} {o1 o2 : Obj} {H1 H2 : Heap → Prop} {Q : PySem.Fin → Shared → Prop} (B1 : Begins v1 o1 H1) (B2 : Begins v2 o2 H2) (h1 : H1 s.heap) (h2 : H2 s.heap)
    (hq : ∀ h' : Heap, IsZipS h' (s.heap.objs.size + 4) (s.heap.objs.size + 2) (s.heap.objs.size + 3) Value.none → IsTupOf2 h' (s.heap.objs.size + 2) (Value.ref s.heap.objs.size) (Value.ref (s.heap.objs.size + 1)) → IsTupOf2 h' (s.heap.objs.size + 3) Value.none Value.none →
      h'.get? s.heap.objs.size = some o1 → h'.get? (s.heap.objs.size + 1) = some o2 → h'.objs.size = s.heap.objs.size + 5 → (∀ (c : Addr) (o : Obj), s.heap.get? c = some o → h'.get? c = some o) → Q (Fin.done (Flow.ret (Value.ref (s.heap.objs.size + 4)))) { heap := h', gens := s.gens, drawn := s.drawn, toks := s.toks, os := s.os }) :
    wpAny (model prog w) A (Builtin.«zip.__new__» { pos := [Value.type "zip", v1, v2], kw := kS }) Q E s := by
  obtain ⟨hp, g, dr, tk, os⟩ := s
  unfold Builtin.«zip.__new__»
  refine wpAny_bind ?_
  unfold Builtin.SmallTypes.newClass
  dsimp only
  refine wpAny_bind (wpAny_pure ?_)
  refine wpAny_ite_false rfl ?_
  refine wpAny_bind (wpAny_of_eq sub_zip ?_)
  refine wpAny_ite_false rfl (wpAny_pure ?_)
  refine wpAny_ite_false rfl ?_
  refine wpAny_ite_false (by kernel_rfl) ?_
  refine wpAny_bind (wpAny_truthy_bool ?_)
  dsimp only
  refine wpAny_bind ?_
  unfold Builtin.SmallTypes.iterAll
  dsimp only
  refine wpAny_bind ?_
  rw [List.forIn_cons]
  refine wpAny_bind (wpAny_bind (wpAny_holding (B1.iter prog w A E _ _ h1 ?_)))
  refine wpAny_pure ?_
  dsimp only
  rw [List.forIn_cons]
  refine wpAny_bind (wpAny_bind (wpAny_holding (B2.iter prog w A E _ _ (B2.keeps _ _ h2 fun b o e => Heap.get?_push_of_some _ e) ?_)))
  refine wpAny_pure ?_
  dsimp only
  rw [List.forIn_nil]
  refine wpAny_pure ?_
  refine wpAny_pure ?_
  refine wpAny_bind (wpAny_newTuple ?_ (by show 2 ≤ sizeLine; decide))
  refine wpAny_bind (wpAny_newTuple ?_ (by show 2 ≤ sizeLine; decide))
  refine wpAny_bind ?_
  unfold Builtin.SmallTypes.newRecord
  dsimp only
  refine wpAny_newObj_type ?_ (by show 5 ≤ sizeLine + 2; decide)
  refine wpAny_pure ?_
  have z1 : (hp.push o1).objs.size = hp.objs.size + 1 := Heap.size_push _ _
  have z2 : ((hp.push o1).push o2).objs.size = hp.objs.size + 2 := by rw [Heap.size_push, z1]
  show Q (Fin.done (Flow.ret (Value.ref ((((hp.push o1).push o2).push { cls := Value.type "tuple", data := Data.seq #[Value.ref hp.objs.size, Value.ref (hp.push o1).objs.size] }).push { cls := Value.type "tuple", data := Data.seq #[Value.none, Value.none] }).objs.size))) { heap := ((((hp.push o1).push o2).push { cls := Value.type "tuple", data := Data.seq #[Value.ref hp.objs.size, Value.ref (hp.push o1).objs.size] }).push { cls := Value.type "tuple", data := Data.seq #[Value.none, Value.none] }).push { cls := Value.type "zip", data := Data.fields #[Value.none, Value.bool false, Value.bool true, Value.ref ((hp.push o1).push o2).objs.size, Value.ref (((hp.push o1).push o2).push { cls := Value.type "tuple", data := Data.seq #[Value.ref hp.objs.size, Value.ref (hp.push o1).objs.size] }).objs.size] }, gens := g, drawn := dr, toks := tk, os := os }
  rw [z1, z2]
  generalize hT : ({ cls := Value.type "tuple", data := Data.seq #[Value.ref hp.objs.size, Value.ref (hp.objs.size + 1)] } : Obj) = oT
  generalize hO : ({ cls := Value.type "tuple", data := Data.seq #[Value.none, Value.none] } : Obj) = oO
  have z3 : (((hp.push o1).push o2).push oT).objs.size = hp.objs.size + 3 := by rw [Heap.size_push, z2]
  have z4 : ((((hp.push o1).push o2).push oT).push oO).objs.size = hp.objs.size + 4 := by rw [Heap.size_push, z3]
  rw [z3, z4]
  have fT : oT.isFreed = false := by rw [← hT]; rfl
  have fO : oO.isFreed = false := by rw [← hO]; rfl
  refine hq _ ?_ ?_ ?_ ?_ ?_ ?_ fun c o e => Heap.get?_push_of_some _ (Heap.get?_push_of_some _ (Heap.get?_push_of_some _ (Heap.get?_push_of_some _ (Heap.get?_push_of_some _ e))))
  · show Heap.get? _ (hp.objs.size + 4) = _
    rw [← z4]
    exact Heap.get?_push_size _ rfl
  · show Heap.get? _ (hp.objs.size + 2) = some _
    rw [hT]
    refine Heap.get?_push_of_some _ (Heap.get?_push_of_some _ ?_)
    rw [← z2]
    exact Heap.get?_push_size _ fT
  · show Heap.get? _ (hp.objs.size + 3) = some _
    rw [hO]
    refine Heap.get?_push_of_some _ ?_
    rw [← z3]
    exact Heap.get?_push_size _ fO
  · exact Heap.get?_push_of_some _ (Heap.get?_push_of_some _ (Heap.get?_push_of_some _ (Heap.get?_push_of_some _ (Heap.get?_push_size _ B1.free))))
  · refine Heap.get?_push_of_some _ (Heap.get?_push_of_some _ (Heap.get?_push_of_some _ ?_))
    rw [← z1]
    exact Heap.get?_push_size _ B2.free
  · show (Heap.push _ _).objs.size = _
    rw [Heap.size_push, z4]
end Zs
/-! ## zip(a, b, c, strict=True) at the model (printed by lf/zs.py, as Zs has it for two) -/
namespace Zs
open PySem PySem.W
theorem item3 {prog : Program} {w : World} {A : Around} {E : Value → Shared → Prop} {s : Shared} {z TI TO i1 i2 i3 : Addr} {fp1 fp2 fp3 : List Addr} {n1 n2 n3 i : Nat} {P1 P2 P3 : Nat → Value → Prop}
    {St1 St2 St3 : Nat → Heap → Prop} {a1 a2 a3 : Value} {Q : PySem.Fin → Shared → Prop} (S : ZipSep3 z TI TO i1 i2 i3 fp1 fp2 fp3) (D1 : Draws prog w A i1 fp1 n1 P1 St1) (D2 : Draws prog w A i2 fp2 n2 P2 St2) (D3 : Draws prog w A i3 fp3 n3 P3 St3)
    (hz : IsZipS s.heap z TI TO Value.none) (hTI : IsTupOf3 s.heap TI (Value.ref i1) (Value.ref i2) (Value.ref i3)) (hTO : IsTupOf3 s.heap TO a1 a2 a3) (st1 : St1 i s.heap) (st2 : St2 i s.heap) (st3 : St3 i s.heap) (lt1 : i < n1) (lt2 : i < n2) (lt3 : i < n3)
    (hq : ∀ (x1 x2 x3 : Value) (h' : Heap) (tk : Nat), P1 i x1 → P2 i x2 → P3 i x3 → IsZipS h' z TI TO (rawInt s.heap.objs.size) → IsTupOf3 h' TO x1 x2 x3 → St1 (i + 1) h' → St2 (i + 1) h' → St3 (i + 1) h' → IsTupOf3 h' s.heap.objs.size x1 x2 x3 → h'.objs.size = s.heap.objs.size + 1 →
      (∀ (c : Addr) (o : Obj), c ≠ z → c ≠ TO → c ≠ i1 → c ≠ i2 → c ≠ i3 → s.heap.get? c = some o → h'.get? c = some o) → Q (Fin.done (Flow.ret (Value.ref s.heap.objs.size))) { heap := h', gens := s.gens, drawn := s.drawn, toks := tk, os := s.os }) :
    wpAny (model prog w) A (PySem.Builtin.«zip.__next__» { pos := [Value.ref z] }) Q E s := by
  obtain ⟨hp, g, dr, tk, os⟩ := s
  unfold PySem.Builtin.«zip.__next__»
  refine wpAny_bind (wpAny_pure ?_)
  dsimp only
  refine wpAny_bind (wpAny_field (i := 2) hz rfl rfl ?_)
  refine wpAny_bind (wpAny_field (i := 3) hz rfl rfl ?_)
  refine wpAny_bind (wpAny_seqItems hTI rfl ?_)
  refine wpAny_ite_false rfl ?_
  refine wpAny_bind (wpAny_bind (wpAny_field (i := 0) hz rfl rfl (wpAny_pure ?_)))
  refine wpAny_ite_true rfl ?_
  refine wpAny_bind (wpAny_rule ?_)
  refine wpAny_bind (wpAny_field (i := 4) hz rfl rfl ?_)
  refine wpAny_bind (wpAny_setField_rec hz (Nat.zero_lt_succ _) fun g0 hz0 hs0 => ?_)
  refine wpAny_bind ?_
  dsimp only [List.zipIdx]
  rw [List.forIn_cons]
  refine wpAny_bind ?_
  have zTI := S.TIz
  have zTO := S.TOz
  have i1z : i1 ≠ z := fun e => S.zf1 (e ▸ S.mem1)
  have i1T : i1 ≠ TO := fun e => S.Tf1 (e ▸ S.mem1)
  have i2z : i2 ≠ z := fun e => S.zf2 (e ▸ S.mem2)
  have i2T : i2 ≠ TO := fun e => S.Tf2 (e ▸ S.mem2)
  have i3z : i3 ≠ z := fun e => S.zf3 (e ▸ S.mem3)
  have i3T : i3 ≠ TO := fun e => S.Tf3 (e ▸ S.mem3)
  refine wpAny_bind (wpAny_onRaise (wpAny_bind (wpAny_attempt (D1.item i _ _ _ lt1 (D1.over st1 hs0 S.zf1) fun x1 p1 tk1 y1 sn1 hp1 => ?_))))
  refine wpAny_pure ?_
  have hU1 : IsTupOf3 p1 TO a1 a2 a3 := hp1.extBut _ _ i1T.symm (hs0.extBut _ _ zTO hTO)
  refine wpAny_bind (wpAny_seqItems hU1 rfl ?_)
  refine wpAny_bind (updateSeq_IsTupOf3 hU1 fun g1 hT1 hs1 => ?_)
  refine wpAny_bind (wpAny_letGo ?_)
  refine wpAny_pure ?_
  dsimp only
  rw [List.forIn_cons]
  refine wpAny_bind ?_
  refine wpAny_bind (wpAny_onRaise (wpAny_bind (wpAny_attempt (D2.item i _ _ _ lt2 (D2.over (D2.over (D2.over st2 hs0 S.zf2) hp1 S.sep1_2) hs1 S.Tf2) fun x2 p2 tk2 y2 sn2 hp2 => ?_))))
  refine wpAny_pure ?_
  have hU2 : IsTupOf3 p2 TO x1 a2 a3 := hp2.extBut _ _ i2T.symm hT1
  refine wpAny_bind (wpAny_seqItems hU2 rfl ?_)
  refine wpAny_bind (updateSeq_IsTupOf3 hU2 fun g2 hT2 hs2 => ?_)
  refine wpAny_bind (wpAny_letGo ?_)
  refine wpAny_pure ?_
  dsimp only
  rw [List.forIn_cons]
  refine wpAny_bind ?_
  refine wpAny_bind (wpAny_onRaise (wpAny_bind (wpAny_attempt (D3.item i _ _ _ lt3 (D3.over (D3.over (D3.over (D3.over (D3.over st3 hs0 S.zf3) hp1 S.sep1_3) hs1 S.Tf3) hp2 S.sep2_3) hs2 S.Tf3) fun x3 p3 tk3 y3 sn3 hp3 => ?_))))
  refine wpAny_pure ?_
  have hU3 : IsTupOf3 p3 TO x1 x2 a3 := hp3.extBut _ _ i3T.symm hT2
  refine wpAny_bind (wpAny_seqItems hU3 rfl ?_)
  refine wpAny_bind (updateSeq_IsTupOf3 hU3 fun g3 hT3 hs3 => ?_)
  refine wpAny_bind (wpAny_letGo ?_)
  refine wpAny_pure ?_
  dsimp only
  rw [List.forIn_nil]
  refine wpAny_pure ?_
  dsimp only
  refine wpAny_bind (wpAny_seqItems hT3 rfl ?_)
  refine wpAny_bind (wpAny_newTuple ?_ (by show 3 ≤ sizeLine; decide))
  have sz : g3.objs.size = hp.objs.size := by rw [hs3.1, hp3.1, hs2.1, hp2.1, hs1.1, hp1.1, hs0.1]
  have same : ∀ (c : Addr) (o : Obj), c ≠ z → c ≠ TO → c ≠ i1 → c ≠ i2 → c ≠ i3 → hp.get? c = some o → g3.get? c = some o := fun c o n0 nT n1 n2 n3 e => (hs3.extBut _ _ nT (hp3.extBut _ _ n3 (hs2.extBut _ _ nT (hp2.extBut _ _ n2 (hs1.extBut _ _ nT (hp1.extBut _ _ n1 (hs0.extBut _ _ n0 e)))))))
  have hz2 : g3.get? z = some { cls := Value.type "zip", data := Data.fields #[Value.ellipsis, Value.bool false, Value.bool true, Value.ref TI, Value.ref TO] } := (hs3.extBut _ _ zTO.symm (hp3.extBut _ _ i3z.symm (hs2.extBut _ _ zTO.symm (hp2.extBut _ _ i2z.symm (hs1.extBut _ _ zTO.symm (hp1.extBut _ _ i1z.symm hz0))))))
  have ne : ∀ {c : Addr} {o : Obj}, g3.get? c = some o → c ≠ g3.objs.size := fun e => Nat.ne_of_lt (Heap.lt_size e)
  show wpAny _ _ (_ >>= _) _ _ _
  refine wpAny_bind (wpAny_bind (wpAny_setField_rec (Heap.get?_push_of_some _ hz2) (Nat.zero_lt_succ _) fun h3 hz3 hs3' => wpAny_setField_rec hz3 (Nat.succ_lt_succ (Nat.zero_lt_succ _)) fun h4 hz4 hs4' => ?_))
  refine wpAny_pure ?_
  have up : ∀ (c : Addr) (o : Obj), c ≠ z → g3.get? c = some o → h4.get? c = some o := fun c o n e => hs4'.extBut _ _ n (hs3'.extBut _ _ n (Heap.get?_push_of_some _ e))
  have hn : h4.get? hp.objs.size = some { cls := Value.type "tuple", data := Data.seq #[x1, x2, x3] } := by
    have nz : hp.objs.size ≠ z := by
      rw [← sz]
      exact (ne hz2).symm
    refine hs4'.extBut _ _ nz (hs3'.extBut _ _ nz ?_)
    rw [← sz]
    exact Heap.get?_push_size g3 rfl
  have f1 : ∀ b ∈ fp1, ∀ o, p1.get? b = some o → h4.get? b = some o := fun b hb o e => by
    have b0 : b ≠ z := fun q => S.zf1 (q ▸ hb)
    have bT : b ≠ TO := fun q => S.Tf1 (q ▸ hb)
    have b2 : b ≠ i2 := fun q => S.sep2_1 (q ▸ hb)
    have b3 : b ≠ i3 := fun q => S.sep3_1 (q ▸ hb)
    exact up b o b0 (hs3.extBut _ _ bT (hp3.extBut _ _ b3 (hs2.extBut _ _ bT (hp2.extBut _ _ b2 (hs1.extBut _ _ bT e)))))
  have f2 : ∀ b ∈ fp2, ∀ o, p2.get? b = some o → h4.get? b = some o := fun b hb o e => by
    have b0 : b ≠ z := fun q => S.zf2 (q ▸ hb)
    have bT : b ≠ TO := fun q => S.Tf2 (q ▸ hb)
    have b3 : b ≠ i3 := fun q => S.sep3_2 (q ▸ hb)
    exact up b o b0 (hs3.extBut _ _ bT (hp3.extBut _ _ b3 (hs2.extBut _ _ bT e)))
  have f3 : ∀ b ∈ fp3, ∀ o, p3.get? b = some o → h4.get? b = some o := fun b hb o e => by
    have b0 : b ≠ z := fun q => S.zf3 (q ▸ hb)
    have bT : b ≠ TO := fun q => S.Tf3 (q ▸ hb)
    exact up b o b0 (hs3.extBut _ _ bT e)
  rw [show g3.objs.size = hp.objs.size from sz] at hz4
  have fin := hq x1 x2 x3 h4 tk3 y1 y2 y3 hz4 (up TO _ zTO hT3) (D1.frame _ _ _ sn1 f1) (D2.frame _ _ _ sn2 f2) (D3.frame _ _ _ sn3 f3) hn (by rw [hs4'.1, hs3'.1, Heap.size_push, sz]) fun c o n0 nT n1 n2 n3 e => up c o n0 (same c o n0 nT n1 n2 n3 e)
  show Q (Fin.done (Flow.ret (Value.ref g3.objs.size))) _
  rw [sz]
  exact fin
theorem end3 {prog : Program} {w : World} {A : Around} {E : Value → Shared → Prop} {s : Shared} {z TI TO i1 i2 i3 : Addr} {fp1 fp2 fp3 : List Addr} {n : Nat} {P1 P2 P3 : Nat → Value → Prop}
    {St1 St2 St3 : Nat → Heap → Prop} {a1 a2 a3 : Value} {Q : PySem.Fin → Shared → Prop} (hh : A.handled = none) (S : ZipSep3 z TI TO i1 i2 i3 fp1 fp2 fp3) (D1 : Draws prog w A i1 fp1 n P1 St1) (D2 : Draws prog w A i2 fp2 n P2 St2) (D3 : Draws prog w A i3 fp3 n P3 St3)
    (hz : IsZipS s.heap z TI TO Value.none) (hTI : IsTupOf3 s.heap TI (Value.ref i1) (Value.ref i2) (Value.ref i3)) (hTO : IsTupOf3 s.heap TO a1 a2 a3) (st1 : St1 n s.heap) (st2 : St2 n s.heap) (st3 : St3 n s.heap)
    (hq : ∀ (h' : Heap) (tk : Nat) (e : Addr), (∀ (c : Addr) (o : Obj), c ≠ z → c ≠ TO → c ≠ i1 → c ≠ i2 → c ≠ i3 → s.heap.get? c = some o → h'.get? c = some o) → (∃ o, h'.get? e = some o ∧ o.cls = Value.type "StopIteration") → E (Value.ref e) { heap := h', gens := s.gens, drawn := s.drawn, toks := tk, os := s.os }) :
    wpAny (model prog w) A (PySem.Builtin.«zip.__next__» { pos := [Value.ref z] }) Q E s := by
  obtain ⟨hp, g, dr, tk, os⟩ := s
  unfold PySem.Builtin.«zip.__next__»
  refine wpAny_bind (wpAny_pure ?_)
  dsimp only
  refine wpAny_bind (wpAny_field (i := 2) hz rfl rfl ?_)
  refine wpAny_bind (wpAny_field (i := 3) hz rfl rfl ?_)
  refine wpAny_bind (wpAny_seqItems hTI rfl ?_)
  refine wpAny_ite_false rfl ?_
  refine wpAny_bind (wpAny_bind (wpAny_field (i := 0) hz rfl rfl (wpAny_pure ?_)))
  refine wpAny_ite_true rfl ?_
  refine wpAny_bind (wpAny_rule ?_)
  refine wpAny_bind (wpAny_field (i := 4) hz rfl rfl ?_)
  refine wpAny_bind (wpAny_setField_rec hz (Nat.zero_lt_succ _) fun g0 hz0 hs0 => ?_)
  refine wpAny_bind ?_
  dsimp only [List.zipIdx]
  rw [List.forIn_cons]
  refine wpAny_bind ?_
  have zTI := S.TIz
  have zTO := S.TOz
  have i1z : i1 ≠ z := fun e => S.zf1 (e ▸ S.mem1)
  have i1T : i1 ≠ TO := fun e => S.Tf1 (e ▸ S.mem1)
  have i2z : i2 ≠ z := fun e => S.zf2 (e ▸ S.mem2)
  have i2T : i2 ≠ TO := fun e => S.Tf2 (e ▸ S.mem2)
  have i3z : i3 ≠ z := fun e => S.zf3 (e ▸ S.mem3)
  have i3T : i3 ≠ TO := fun e => S.Tf3 (e ▸ S.mem3)
  refine wpAny_bind (wpAny_onRaise (wpAny_bind (wpAny_attempt (D1.done _ _ _ (D1.over st1 hs0 S.zf1) fun p1 e1 x1 t1 => ?_))))
  refine wpAny_bind (wpAny_isInstance t1 rfl ?_)
  refine wpAny_ite_true rfl (wpAny_pure ?_)
  dsimp only
  have hz1 : p1.get? z = some { cls := Value.type "zip", data := Data.fields #[Value.ellipsis, Value.bool false, Value.bool true, Value.ref TI, Value.ref TO] } := x1 _ _ i1z.symm hz0
  refine wpAny_bind (wpAny_setField_rec hz1 (Nat.zero_lt_succ _) fun g1 hz2 hs1 => ?_)
  refine wpAny_bind ?_
  refine wpAny_bind ?_
  rw [show (List.drop 1 [Value.ref i1, Value.ref i2, Value.ref i3]).zipIdx 1 = [(Value.ref i2, 1), (Value.ref i3, 2)] from rfl, List.forIn_cons]
  refine wpAny_bind ?_
  refine wpAny_bind (wpAny_bind (wpAny_attempt (D2.done _ _ _ (D2.over (D2.frame _ _ _ (D2.over st2 hs0 S.zf2) fun b hb o e => x1 b o (fun q => S.sep1_2 (q ▸ hb)) e) hs1 S.zf2) fun p2 e2 x2 t2 => ?_)))
  refine wpAny_bind (wpAny_isInstance t2 rfl ?_)
  refine wpAny_ite_true rfl (wpAny_pure ?_)
  refine wpAny_ite_false rfl (wpAny_pure ?_)
  dsimp only
  rw [List.forIn_cons]
  refine wpAny_bind ?_
  refine wpAny_bind (wpAny_bind (wpAny_attempt (D3.done _ _ _ (D3.frame _ _ _ (D3.over (D3.frame _ _ _ (D3.over st3 hs0 S.zf3) fun b hb o e => x1 b o (fun q => S.sep1_3 (q ▸ hb)) e) hs1 S.zf3) fun b hb o e => x2 b o (fun q => S.sep2_3 (q ▸ hb)) e) fun p3 e3 x3 t3 => ?_)))
  refine wpAny_bind (wpAny_isInstance t3 rfl ?_)
  refine wpAny_ite_true rfl (wpAny_pure ?_)
  refine wpAny_ite_false rfl (wpAny_pure ?_)
  dsimp only
  rw [List.forIn_nil]
  refine wpAny_pure ?_
  refine wpAny_bind (wpAny_rule ?_)
  refine stop hh fun h' e up te => ?_
  exact hq h' tk e (fun c o n0 nT n1 n2 n3 q => up c o (x3 c o n3 (x2 c o n2 (hs1.extBut c o n0 (x1 c o n1 (hs0.extBut c o n0 q)))))) te
theorem new3 {prog : Program} {w : World} {A : Around} {E : Value → Shared → Prop} {s : Shared} {v1 v2 v3 : Value} {o1 o2 o3 : Obj} {H1 H2 H3 : Heap → Prop} {Q : PySem.Fin → Shared → Prop} (B1 : Begins v1 o1 H1) (B2 : Begins v2 o2 H2) (B3 : Begins v3 o3 H3) (h1 : H1 s.heap) (h2 : H2 s.heap) (h3 : H3 s.heap)
    (hq : ∀ h' : Heap, IsZipS h' (s.heap.objs.size + 5) (s.heap.objs.size + 3) (s.heap.objs.size + 4) Value.none → IsTupOf3 h' (s.heap.objs.size + 3) (Value.ref s.heap.objs.size) (Value.ref (s.heap.objs.size + 1)) (Value.ref (s.heap.objs.size + 2)) → IsTupOf3 h' (s.heap.objs.size + 4) Value.none Value.none Value.none →
      h'.get? (s.heap.objs.size) = some o1 → h'.get? (s.heap.objs.size + 1) = some o2 → h'.get? (s.heap.objs.size + 2) = some o3 → h'.objs.size = s.heap.objs.size + 6 → (∀ (c : Addr) (o : Obj), s.heap.get? c = some o → h'.get? c = some o) → Q (Fin.done (Flow.ret (Value.ref (s.heap.objs.size + 5)))) { heap := h', gens := s.gens, drawn := s.drawn, toks := s.toks, os := s.os }) :
    wpAny (model prog w) A (Builtin.«zip.__new__» { pos := [Value.type "zip", v1, v2, v3], kw := kS }) Q E s := by
  obtain ⟨hp, g, dr, tk, os⟩ := s
  unfold Builtin.«zip.__new__»
  refine wpAny_bind ?_
  unfold Builtin.SmallTypes.newClass
  dsimp only
  refine wpAny_bind (wpAny_pure ?_)
  refine wpAny_ite_false rfl ?_
  refine wpAny_bind (wpAny_of_eq sub_zip ?_)
  refine wpAny_ite_false rfl (wpAny_pure ?_)
  refine wpAny_ite_false rfl ?_
  refine wpAny_ite_false (by kernel_rfl) ?_
  refine wpAny_bind (wpAny_truthy_bool ?_)
  dsimp only
  refine wpAny_bind ?_
  unfold Builtin.SmallTypes.iterAll
  dsimp only
  refine wpAny_bind ?_
  rw [List.forIn_cons]
  refine wpAny_bind (wpAny_bind (wpAny_holding (B1.iter prog w A E _ _ h1 ?_)))
  refine wpAny_pure ?_
  dsimp only
  rw [List.forIn_cons]
  refine wpAny_bind (wpAny_bind (wpAny_holding (B2.iter prog w A E _ _ (B2.keeps _ _ h2 fun b o e => Heap.get?_push_of_some _ (e)) ?_)))
  refine wpAny_pure ?_
  dsimp only
  rw [List.forIn_cons]
  refine wpAny_bind (wpAny_bind (wpAny_holding (B3.iter prog w A E _ _ (B3.keeps _ _ h3 fun b o e => Heap.get?_push_of_some _ (Heap.get?_push_of_some _ (e))) ?_)))
  refine wpAny_pure ?_
  dsimp only
  rw [List.forIn_nil]
  refine wpAny_pure ?_
  refine wpAny_pure ?_
  refine wpAny_bind (wpAny_newTuple ?_ (by show 3 ≤ sizeLine; decide))
  refine wpAny_bind (wpAny_newTuple ?_ (by show 3 ≤ sizeLine; decide))
  refine wpAny_bind ?_
  unfold Builtin.SmallTypes.newRecord
  dsimp only
  refine wpAny_newObj_type ?_ (by show 5 ≤ sizeLine + 2; decide)
  refine wpAny_pure ?_
  have z1 : (hp.push o1).objs.size = hp.objs.size + 1 := by rw [Heap.size_push]
  have z2 : ((hp.push o1).push o2).objs.size = hp.objs.size + 2 := by rw [Heap.size_push, z1]
  have z3 : (((hp.push o1).push o2).push o3).objs.size = hp.objs.size + 3 := by rw [Heap.size_push, z2]
  show Q (Fin.done (Flow.ret (Value.ref (((((hp.push o1).push o2).push o3).push { cls := Value.type "tuple", data := Data.seq #[Value.ref hp.objs.size, Value.ref (hp.push o1).objs.size, Value.ref ((hp.push o1).push o2).objs.size] }).push { cls := Value.type "tuple", data := Data.seq #[Value.none, Value.none, Value.none] }).objs.size))) { heap := (((((hp.push o1).push o2).push o3).push { cls := Value.type "tuple", data := Data.seq #[Value.ref hp.objs.size, Value.ref (hp.push o1).objs.size, Value.ref ((hp.push o1).push o2).objs.size] }).push { cls := Value.type "tuple", data := Data.seq #[Value.none, Value.none, Value.none] }).push { cls := Value.type "zip", data := Data.fields #[Value.none, Value.bool false, Value.bool true, Value.ref (((hp.push o1).push o2).push o3).objs.size, Value.ref ((((hp.push o1).push o2).push o3).push { cls := Value.type "tuple", data := Data.seq #[Value.ref hp.objs.size, Value.ref (hp.push o1).objs.size, Value.ref ((hp.push o1).push o2).objs.size] }).objs.size] }, gens := g, drawn := dr, toks := tk, os := os }
  rw [z1, z2, z3]
  generalize hT : ({ cls := Value.type "tuple", data := Data.seq (#[Value.ref hp.objs.size, Value.ref (hp.objs.size + 1), Value.ref (hp.objs.size + 2)] : Array Value) } : Obj) = oT
  generalize hO : ({ cls := Value.type "tuple", data := Data.seq #[Value.none, Value.none, Value.none] } : Obj) = oO
  have zT : ((((hp.push o1).push o2).push o3).push oT).objs.size = hp.objs.size + 4 := by rw [Heap.size_push, z3]
  have zO : (((((hp.push o1).push o2).push o3).push oT).push oO).objs.size = hp.objs.size + 5 := by rw [Heap.size_push, zT]
  rw [zT, zO]
  have fT : oT.isFreed = false := by rw [← hT]; rfl
  have fO : oO.isFreed = false := by rw [← hO]; rfl
  refine hq _ ?_ ?_ ?_ ?_ ?_ ?_ ?_ fun c o e => Heap.get?_push_of_some _ (Heap.get?_push_of_some _ (Heap.get?_push_of_some _ (Heap.get?_push_of_some _ (Heap.get?_push_of_some _ (Heap.get?_push_of_some _ (e))))))
  · show Heap.get? _ (hp.objs.size + 5) = _
    rw [← zO]
    exact Heap.get?_push_size _ rfl
  · show Heap.get? _ (hp.objs.size + 3) = some _
    rw [hT]
    refine Heap.get?_push_of_some _ (Heap.get?_push_of_some _ (?_))
    rw [← z3]
    exact Heap.get?_push_size _ fT
  · show Heap.get? _ (hp.objs.size + 4) = some _
    rw [hO]
    refine Heap.get?_push_of_some _ (?_)
    rw [← zT]
    exact Heap.get?_push_size _ fO
  · refine Heap.get?_push_of_some _ (Heap.get?_push_of_some _ (Heap.get?_push_of_some _ (Heap.get?_push_of_some _ (Heap.get?_push_of_some _ (?_)))))
    exact Heap.get?_push_size _ B1.free
  · refine Heap.get?_push_of_some _ (Heap.get?_push_of_some _ (Heap.get?_push_of_some _ (Heap.get?_push_of_some _ (?_))))
    rw [← z1]
    exact Heap.get?_push_size _ B2.free
  · refine Heap.get?_push_of_some _ (Heap.get?_push_of_some _ (Heap.get?_push_of_some _ (?_)))
    rw [← z2]
    exact Heap.get?_push_size _ B3.free
  · show (Heap.push _ _).objs.size = _
    rw [Heap.size_push, zO]
end Zs
/-! ## zip(.., strict=True) in the hand layer: lists and tuples in any mix (printed by lf/zh.py) -/
namespace Zs
open PySem PySem.W PySem.Spec PyProof.Rows L2
/-- a list (or with t a tuple); an iterator over it -/
def SqIs : Bool → Heap → Addr → Array Value → Prop
  | true, h, a, xs => h.IsTuple a xs
  | false, h, a, xs => h.IsList a xs
def ItIs : Bool → Heap → Addr → Addr → Nat → Prop
  | true, h, it, a, i => h.IsTupleIter it a i
  | false, h, it, a, i => h.IsListIter it a i
def itObj : Bool → Addr → Obj
  | true, a => { cls := .type "tuple_iterator", data := .fields #[.ref a, .int 0 0] }
  | false, a => { cls := .type "list_iterator", data := .fields #[.ref a, .int 0 0] }
theorem begins (t : Bool) (a : Addr) (items : Array Value) : Begins (.ref a) (itObj t a) (fun h => SqIs t h a items) := by
  cases t
  · exact begins_list a items
  · exact begins_tuple a items
theorem draws {prog : Program} {w : World} {A : Around} (hh : A.handled = none) (t : Bool) (it a : Addr) (ne : a ≠ it) (items : Array Value) : Draws prog w A it [it, a] items.size (fun i v => items[i]? = some v) (fun i h => ItIs t h it a i ∧ SqIs t h a items) := by
  cases t
  · exact Draws.list hh it a ne items
  · exact Draws.tuple hh it a ne items
section
variable {t t' : Bool} {h h' : Heap} {it a : Addr} {i : Nat}
theorem itObj_is (e : h.get? it = some (itObj t a)) : ItIs t h it a 0 := by
  cases t <;> exact ⟨_, e, rfl, rfl⟩
theorem ItIs.keep (s : ItIs t h it a i) (k : ∀ o, h.get? it = some o → h'.get? it = some o) : ItIs t h' it a i := by
  cases t <;> (obtain ⟨o, e, c, d⟩ := s; exact ⟨o, k o e, c, d⟩)
theorem ItIs.there (s : ItIs t h it a i) : ∃ o, h.get? it = some o ∧ ∀ v, o.data ≠ .cell v := by
  cases t <;> (obtain ⟨o, e, c, d⟩ := s; exact ⟨o, e, fun v q => by rw [d] at q; cases q⟩)
theorem SqIs.there {xs : Array Value} (s : SqIs t h a xs) : ∃ o, h.get? a = some o := by
  cases t <;> (obtain ⟨o, e, _⟩ := s; exact ⟨o, e⟩)
theorem SqIs.inj {xs ys : Array Value} (p : SqIs t h a xs) (q : SqIs t h a ys) : xs = ys := by
  cases t <;>
  · obtain ⟨o, e, c, n, d⟩ := p
    obtain ⟨o', e', c', n', d'⟩ := q
    rw [e] at e'
    cases e'
    rw [d] at d'
    cases d'
    rfl
end
/-- a list (or with t a tuple) at the hand layer's heap -/
def SqK (K : Frag) : Bool → Hp → Addr → List V → Prop
  | true, H, a, xs => SqT K H a xs
  | false, H, a, xs => SqL K H a xs
theorem SqK.real {X : Cx} {pins : List (Addr × Obj)} {σ : L2.St} {H : Hp} {s : Shared} {t : Bool} {a : Addr} {xs : List V} (I : Inv X pins σ H s) (h : SqK X.K t H a xs) : ∃ its, Vals xs its ∧ SqIs t s.heap a its.toArray ∧ xs.length ≤ sizeLine := by
  cases t
  · obtain ⟨its, rv, p, l⟩ := I.list h
    exact ⟨its, rv, p.isList, l⟩
  · obtain ⟨its, rv, p, l⟩ := I.tuple h
    exact ⟨its, rv, p, l⟩
theorem SqK.one {X : Cx} {pins : List (Addr × Obj)} {σ : L2.St} {H : Hp} {s : Shared} {t : Bool} {a : Addr} {xs ys : List V} (I : Inv X pins σ H s) (h : SqK X.K t H a xs) (h' : SqK X.K t H a ys) : xs = ys := by
  obtain ⟨its, rv, p, _⟩ := h.real I
  obtain ⟨its', rv', p', _⟩ := h'.real I
  have e : its = its' := by
    have := p.inj p'
    simpa using this
  subst e
  exact rv.inj rv'
theorem go_zip {prog : Program} {w : World} {A : Around} {E : Value → Shared → Prop} {s : Shared} {elts : List Expr} {k : Nat} {pos : Pos} {z TI TO T : Addr} {Q : Unit → Shared → Prop} (hz : IsZipS s.heap z TI TO (rawInt T)) (hq : ∀ h' : Heap, IsZipS h' z TI TO .none → Heap.SameBut z s.heap h' → Q () { heap := h', gens := s.gens, drawn := s.drawn, toks := s.toks, os := s.os }) :
    wpAny (model prog w) A (letOwnedTupleGo (.Tuple elts k pos) (.ref z) (.ref T)) Q E s := by
  unfold letOwnedTupleGo
  dsimp only
  refine wpAny_bind (wpAny_load hz ?_)
  dsimp only
  rw [if_pos (by simp)]
  refine wpAny_bind (wpAny_rule ?_)
  exact wpAny_setField_rec hz (Nat.zero_lt_succ _) fun h' hz' hs' => hq h' hz' hs'
theorem iter_zip {prog : Program} {w : World} {A : Around} {E : Value → Shared → Prop} {s : Shared} {z TI TO : Addr} {f0 : Value} {Q : Value → Shared → Prop} (hz : IsZipS s.heap z TI TO f0) (h : Q (.ref z) s) : wpAny (model prog w) A (pyIter (.ref z)) Q E s := by
  have hT : ∃ o, s.heap.get? z = some o ∧ o.cls = Value.type "zip" := ⟨_, hz, rfl⟩
  exact wpAny_pyIter_slot hT F.slot_zip_iter (wpAny_call_entry F.slot_zip_iter hT F.entry_zip_iter (wpAny_pure ⟨.ref z, rfl, "zip", .builtin "zip.__next__", hT, F.slot_zip_next.lookup, h⟩) (F.args_zip_iter_1 (.ref z)))
theorem next_zip {prog : Program} {w : World} {A : Around} {E : Value → Shared → Prop} {s : Shared} {z TI TO : Addr} {f0 : Value} {Q : Option Value → Shared → Prop} (hz : IsZipS s.heap z TI TO f0)
    (h : wpAny (model prog w) A.in1 (PySem.Builtin.«zip.__next__» { pos := [Value.ref z] }) (fun fin s' => ∃ v, fin = Fin.done (Flow.ret v) ∧ Q (some v) s') (fun e s' => s'.TypeIs e "StopIteration" ∧ Q none s') s) : wpAny (model prog w) A (pyNext (.ref z)) Q E s := by
  have hT : ∃ o, s.heap.get? z = some o ∧ o.cls = Value.type "zip" := ⟨_, hz, rfl⟩
  unfold pyNext
  refine wpAny_bind (wpAny_attempt (wpAny_callSpecial?_slot hT F.slot_zip_next (wpAny_call_entry F.slot_zip_next hT F.entry_zip_next ?_ (F.args_zip_next_1 (Value.ref z)))))
  refine wpAny_mono h (fun fin s' ⟨v, e, q⟩ => ⟨v, e, wpAny_pure q⟩) fun e s' ⟨t, q⟩ => ?_
  refine wpAny_bind (wpAny_isInstance t rfl ?_)
  exact wpAny_ite_true rfl (wpAny_pure q)
theorem in1_handled {A : Around} (h : A.handled = none) : A.in1.handled = none := h
/-- zip of 2, all of one length -/
def Itz2 (K : Frag) (t1 : Bool) (a1 : Addr) (t2 : Bool) (a2 : Addr) : It where
  go i H := ∃ xs1 xs2 x1 x2, SqK K t1 H a1 xs1 ∧ SqK K t2 H a2 xs2 ∧ xs1[i]? = some x1 ∧ xs2[i]? = some x2
  yld i H v H' := ∃ T x1 x2, v = .ref T ∧ H T = none ∧ H' = upd H T (.tup [x1, x2]) ∧ (∀ xs, SqK K t1 H a1 xs → xs[i]? = some x1) ∧ (∀ xs, SqK K t2 H a2 xs → xs[i]? = some x2)
  stop i H := ∃ xs1 xs2, SqK K t1 H a1 xs1 ∧ SqK K t2 H a2 xs2 ∧ xs1.length = i ∧ xs2.length = i
structure Ap2 (z TI TO i1 i2 a1 a2 : Addr) : Prop where
  TI_z : TI ≠ z
  TO_z : TO ≠ z
  TI_TO : TI ≠ TO
  TI_i1 : TI ≠ i1
  TI_i2 : TI ≠ i2
  TO_i1 : TO ≠ i1
  TO_i2 : TO ≠ i2
  i1_z : i1 ≠ z
  i2_z : i2 ≠ z
  i1_i2 : i1 ≠ i2
  a1_z : a1 ≠ z
  a1_TO : a1 ≠ TO
  a1_i1 : a1 ≠ i1
  a1_i2 : a1 ≠ i2
  a2_z : a2 ≠ z
  a2_TO : a2 ≠ TO
  a2_i1 : a2 ≠ i1
  a2_i2 : a2 ≠ i2
theorem Ap2.sep {z TI TO i1 i2 a1 a2 : Addr} (D : Ap2 z TI TO i1 i2 a1 a2) : ZipSep2 z TI TO i1 i2 [i1, a1] [i2, a2] := by
  constructor <;> simp [D.TI_z, D.TI_z.symm, D.TO_z, D.TO_z.symm, D.TI_TO, D.TI_TO.symm, D.TI_i1, D.TI_i1.symm, D.TI_i2, D.TI_i2.symm, D.TO_i1, D.TO_i1.symm, D.TO_i2, D.TO_i2.symm, D.i1_z, D.i1_z.symm, D.i2_z, D.i2_z.symm, D.i1_i2, D.i1_i2.symm, D.a1_z, D.a1_z.symm, D.a1_TO, D.a1_TO.symm, D.a1_i1, D.a1_i1.symm, D.a1_i2, D.a1_i2.symm, D.a2_z, D.a2_z.symm, D.a2_TO, D.a2_TO.symm, D.a2_i1, D.a2_i1.symm, D.a2_i2, D.a2_i2.symm]
def tn2 (t1 : Bool) (a1 : Addr) (t2 : Bool) (a2 : Addr) (z TI TO i1 i2 : Addr) (i : Nat) (h : Heap) : Prop := IsZipS h z TI TO .none ∧ IsTupOf2 h TI (Value.ref i1) (Value.ref i2) ∧ (∃ u1 u2, IsTupOf2 h TO u1 u2) ∧ ItIs t1 h i1 a1 i ∧ ItIs t2 h i2 a2 i
theorem turn2 {P : Program} {w : World} {K : Frag} {elts : List Expr} {kk : Nat} {tpos : Pos} {t1 t2 : Bool} {z TI TO i1 i2 a1 a2 : Addr} (D : Ap2 z TI TO i1 i2 a1 a2) :
    Turn P w K (.Tuple elts kk tpos) (Itz2 K t1 a1 t2 a2) [z, TI, TO, i1, i2] z (tn2 t1 a1 t2 a2 z TI TO i1 i2) where
  mem := List.mem_cons_self
  obj i h st c hc := by
    obtain ⟨hz, hTI, ⟨u1, u2, hTO⟩, q1, q2⟩ := st
    simp only [List.mem_cons, List.not_mem_nil, or_false] at hc
    rcases hc with rfl | rfl | rfl | rfl | rfl
    · exact ⟨_, hz, fun v q => by cases q⟩
    · exact ⟨_, hTI, fun v q => by cases q⟩
    · exact ⟨_, hTO, fun v q => by cases q⟩
    · exact q1.there
    · exact q2.there
  keep i h h' st k := by
    obtain ⟨hz, hTI, ⟨u1, u2, hTO⟩, q1, q2⟩ := st
    exact ⟨k z (by simp) _ hz, k TI (by simp) _ hTI, ⟨u1, u2, k TO (by simp) _ hTO⟩, q1.keep fun o e => k i1 (by simp) o e, q2.keep fun o e => k i2 (by simp) o e⟩
  item X hP hw hK hc i pins s σ H E I hf st hg := by
    subst hP hw hK
    obtain ⟨hz, hTI, ⟨u1, u2, hTO⟩, q1, q2⟩ := st
    obtain ⟨xs1, xs2, x1, x2, s1, s2, e1, e2⟩ := hg
    obtain ⟨its1, rv1, p1, _⟩ := s1.real I
    obtain ⟨v1, hv1, r1⟩ := rv1.get e1
    have w1 : its1.toArray[i]? = some v1 := by rw [List.getElem?_toArray]; exact hv1
    obtain ⟨its2, rv2, p2, _⟩ := s2.real I
    obtain ⟨v2, hv2, r2⟩ := rv2.get e2
    have w2 : its2.toArray[i]? = some v2 := by rw [List.getElem?_toArray]; exact hv2
    have hh := in1_handled (I.ok.hd hc)
    refine next_zip hz (item2 D.sep (draws hh t1 i1 a1 D.a1_i1 its1.toArray) (draws hh t2 i2 a2 D.a2_i2 its2.toArray) hz hTI hTO ⟨q1, p1⟩ ⟨q2, p2⟩ (Array.getElem?_eq_some_iff.mp w1).1 (Array.getElem?_eq_some_iff.mp w2).1 fun y1 y2 h' tk b1 b2 z1 z2 n1 n2 z3 z4 z5 => ⟨_, rfl, _, rfl, ?_⟩)
    rw [w1] at b1
    cases b1
    rw [w2] at b2
    cases b2
    refine go_zip z1 fun h'' g1 g2 => ?_
    have fresh : H s.heap.objs.size = none := I.hok.fresh (Nat.le_refl _)
    have up : ∀ (c : Addr) (o : Obj), c ∉ [z, TI, TO, i1, i2] → s.heap.get? c = some o → h''.get? c = some o := fun c o hn e => by
      simp only [List.mem_cons, List.not_mem_nil, or_false, not_or] at hn
      exact g2.extBut c o hn.1 (z5 c o hn.1 hn.2.2.1 hn.2.2.2.1 hn.2.2.2.2 e)
    have nz : s.heap.objs.size ≠ z := fun q => by
      have := Heap.lt_size hz
      rw [q] at this
      exact Nat.lt_irrefl _ this
    have hT : h''.get? s.heap.objs.size = some { cls := .type "tuple", data := .seq #[v1, v2] } := g2.extBut _ _ nz z3
    refine ⟨.ref s.heap.objs.size, _, I.turnedNew (T := s.heap.objs.size) (ob := .tup [x1, x2]) up hf (Nat.le_refl _) ⟨by show 2 ≤ sizeLine; decide, [v1, v2], .cons r1 (.cons r2 (.nil)), _, hT, rfl, _, rfl⟩, rfl, ⟨s.heap.objs.size, x1, x2, rfl, fresh, rfl, fun xs h => by rw [h.one I s1]; exact e1, fun xs h => by rw [h.one I s2]; exact e2⟩, ?_, fun b hb => ?_⟩
    · refine ⟨g1, g2.extBut _ _ D.TI_z (z5 _ _ D.TI_z D.TI_TO D.TI_i1 D.TI_i2 hTI), ⟨v1, v2, g2.extBut _ _ D.TO_z z2⟩, n1.1.keep fun o e => g2.extBut _ _ D.i1_z e, n2.1.keep fun o e => g2.extBut _ _ D.i2_z e⟩
    · have nb : b ≠ s.heap.objs.size := fun q => by
        have : ∃ o, s.heap.get? b = some o := by
          simp only [List.mem_cons, List.not_mem_nil, or_false] at hb
          rcases hb with rfl | rfl | rfl | rfl | rfl
          · exact ⟨_, hz⟩
          · exact ⟨_, hTI⟩
          · exact ⟨_, hTO⟩
          · exact q1.there.imp fun o h => h.1
          · exact q2.there.imp fun o h => h.1
        obtain ⟨o, e⟩ := this
        have := Heap.lt_size e
        rw [q] at this
        exact Nat.lt_irrefl _ this
      rw [upd_ne nb]
      exact (hf b hb).1
  done X hP hw hK hc i pins s σ H E I hf st hg := by
    subst hP hw hK
    obtain ⟨hz, hTI, ⟨u1, u2, hTO⟩, q1, q2⟩ := st
    obtain ⟨xs1, xs2, s1, s2, e1, e2⟩ := hg
    obtain ⟨its1, rv1, p1, _⟩ := s1.real I
    have w1 : its1.toArray.size = i := by rw [List.size_toArray, ← rv1.length]; exact e1
    obtain ⟨its2, rv2, p2, _⟩ := s2.real I
    have w2 : its2.toArray.size = i := by rw [List.size_toArray, ← rv2.length]; exact e2
    have hh := in1_handled (I.ok.hd hc)
    have d1 := draws (prog := X.prog) (w := X.w) hh t1 i1 a1 D.a1_i1 its1.toArray
    rw [w1] at d1
    have d2 := draws (prog := X.prog) (w := X.w) hh t2 i2 a2 D.a2_i2 its2.toArray
    rw [w2] at d2
    refine next_zip hz (end2 hh D.sep d1 d2 hz hTI hTO ⟨q1, p1⟩ ⟨q2, p2⟩ fun h' tk e up te => ⟨te, rfl, I.turnedL (ch := [z, TI, TO, i1, i2]) (fun c o hn q => ?_) hf⟩)
    simp only [List.mem_cons, List.not_mem_nil, or_false, not_or] at hn
    exact up c o hn.1 hn.2.2.1 hn.2.2.2.1 hn.2.2.2.2 q
  self A i s Q E st h := iter_zip st.1 h
def iZip2 (K : Frag) (ta tk : TA) : TI := fun σ H R => ta σ H fun vs H1 => tk σ H1 fun ks H2 => ks = [.bl true] ∧ ∃ (t1 : Bool) (a1 : Addr) (xs1 : List V) (t2 : Bool) (a2 : Addr) (xs2 : List V), vs = [.ref a1, .ref a2] ∧ SqK K t1 H2 a1 xs1 ∧ SqK K t2 H2 a2 xs2 ∧ R (Itz2 K t1 a1 t2 a2) H2
theorem pi_zip2 {X : Cx} {e1 e2 : Expr} {ta tk : TA} {p pos tpos : Pos} {elts : List Expr} {kk : Nat} {kws : List Keyword} (hg : Gl X "zip") (hm : X.mg "zip" = none) (ha : PA X [e1, e2] ta) (hk : PK X kws tk)
    (he : starEach [e1, e2] X.env = (false, eval e1 X.env) :: starEach [e2] X.env := by rfl) (hpl : ((List.any (backTo pos (starEach [e1, e2] X.env)) (fun x => x.1)) || List.any (backToKw pos (keywordEach kws X.env)) (fun x => x.1.isNone)) = false := by rfl)
    (hall : List.all (backToKw pos (keywordEach kws X.env)) (fun x => x.1.isSome) = true := by rfl) (hn : List.filterMap (fun x => x.1) (backToKw pos (keywordEach kws X.env)) = [Str.ofString "strict"] := by rfl) :
    PI X (.Tuple elts kk tpos) (.Call (.Name "zip" p) [e1, e2] kws pos) (iZip2 X.K ta tk) where
  run pins s σ H R I h := by
    refine wpAny_Call_Name_kw (ld_blt I hg hm boot_zip ?_)
    refine callWith_of (P := fun _ => True) hpl (fun h _ => ⟨.machine, .inr (.inl rfl), fun A Q E s k q => wpAny_pure q⟩) (evalArgs_kw2 hall ?_ he)
    refine thn (ha.run pos pins s σ H _ I h) fun us s0 ⟨vs, H1, I0, r1, q0⟩ => thn (hk.run pos pins s0 σ H1 _ I0 q0) fun ks s1 ⟨zs, H2, I1, rk, ek, t1, a1, xs1, t2, a2, xs2, ev, w1, w2, q⟩ => ?_
    subst ev ek
    refine ⟨trivial, ?_⟩
    rw [hn]
    have eu : us = [Value.ref a1, Value.ref a2] := by
      clear q0 h q
      cases r1 with
      | cons c1 r1 =>
        cases r1 with
        | cons c2 r1 =>
          cases r1
          cases c1
          cases c2
          rfl
    have ekk : ks = [Value.bool true] := by
      cases rk with
      | cons c rk =>
        cases rk
        cases c
        rfl
    subst eu ekk
    obtain ⟨its1, rv1, p1, _⟩ := w1.real I1
    obtain ⟨its2, rv2, p2, _⟩ := w2.real I1
    refine call_zipS (by kernel_rfl) (by kernel_rfl) (fun obj => by kernel_rfl) (new2 (begins t1 a1 its1.toArray) (begins t2 a2 its2.toArray) p1 p2 fun h' z1 z2 z3 o1 o2 sz up => ⟨_, rfl, ⟨_, z1, rfl⟩, ?_⟩)
    have I2 := I1.kept (t' := s1.toks) up
    have lt : ∀ {a : Addr} {o : Obj}, s1.heap.get? a = some o → a < s1.heap.objs.size := fun e => Heap.lt_size e
    have l1 : @LT.lt Nat _ a1 s1.heap.objs.size := let ⟨o, e⟩ := p1.there; lt e
    have l2 : @LT.lt Nat _ a2 s1.heap.objs.size := let ⟨o, e⟩ := p2.there; lt e
    refine iter_zip z1 ⟨s1.heap.objs.size + 4, [s1.heap.objs.size + 4, s1.heap.objs.size + 2, s1.heap.objs.size + 3, s1.heap.objs.size, (s1.heap.objs.size + 1)], tn2 t1 a1 t2 a2 (s1.heap.objs.size + 4) (s1.heap.objs.size + 2) (s1.heap.objs.size + 3) s1.heap.objs.size (s1.heap.objs.size + 1), Itz2 X.K t1 a1 t2 a2, H2, rfl, I2, turn2 ?_, ⟨z1, z2, ⟨_, _, z3⟩, itObj_is o1, itObj_is o2⟩, fun b hb => ?_, q⟩
    · constructor <;> first | exact Nat.ne_of_lt (by omega) | exact Nat.ne_of_gt (by omega)
    · have le : s1.heap.objs.size ≤ b := by
        simp only [List.mem_cons, List.not_mem_nil, or_false] at hb
        rcases hb with h | h | h | h | h <;> (rw [h]; first | exact Nat.le_refl _ | exact Nat.le_add_right _ _)
      exact I1.fpOk le (I1.hok.fresh le)
/-- zip of 3, all of one length -/
def Itz3 (K : Frag) (t1 : Bool) (a1 : Addr) (t2 : Bool) (a2 : Addr) (t3 : Bool) (a3 : Addr) : It where
  go i H := ∃ xs1 xs2 xs3 x1 x2 x3, SqK K t1 H a1 xs1 ∧ SqK K t2 H a2 xs2 ∧ SqK K t3 H a3 xs3 ∧ xs1[i]? = some x1 ∧ xs2[i]? = some x2 ∧ xs3[i]? = some x3
  yld i H v H' := ∃ T x1 x2 x3, v = .ref T ∧ H T = none ∧ H' = upd H T (.tup [x1, x2, x3]) ∧ (∀ xs, SqK K t1 H a1 xs → xs[i]? = some x1) ∧ (∀ xs, SqK K t2 H a2 xs → xs[i]? = some x2) ∧ (∀ xs, SqK K t3 H a3 xs → xs[i]? = some x3)
  stop i H := ∃ xs1 xs2 xs3, SqK K t1 H a1 xs1 ∧ SqK K t2 H a2 xs2 ∧ SqK K t3 H a3 xs3 ∧ xs1.length = i ∧ xs2.length = i ∧ xs3.length = i
structure Ap3 (z TI TO i1 i2 i3 a1 a2 a3 : Addr) : Prop where
  TI_z : TI ≠ z
  TO_z : TO ≠ z
  TI_TO : TI ≠ TO
  TI_i1 : TI ≠ i1
  TI_i2 : TI ≠ i2
  TI_i3 : TI ≠ i3
  TO_i1 : TO ≠ i1
  TO_i2 : TO ≠ i2
  TO_i3 : TO ≠ i3
  i1_z : i1 ≠ z
  i2_z : i2 ≠ z
  i3_z : i3 ≠ z
  i1_i2 : i1 ≠ i2
  i1_i3 : i1 ≠ i3
  i2_i3 : i2 ≠ i3
  a1_z : a1 ≠ z
  a1_TO : a1 ≠ TO
  a1_i1 : a1 ≠ i1
  a1_i2 : a1 ≠ i2
  a1_i3 : a1 ≠ i3
  a2_z : a2 ≠ z
  a2_TO : a2 ≠ TO
  a2_i1 : a2 ≠ i1
  a2_i2 : a2 ≠ i2
  a2_i3 : a2 ≠ i3
  a3_z : a3 ≠ z
  a3_TO : a3 ≠ TO
  a3_i1 : a3 ≠ i1
  a3_i2 : a3 ≠ i2
  a3_i3 : a3 ≠ i3
theorem Ap3.sep {z TI TO i1 i2 i3 a1 a2 a3 : Addr} (D : Ap3 z TI TO i1 i2 i3 a1 a2 a3) : ZipSep3 z TI TO i1 i2 i3 [i1, a1] [i2, a2] [i3, a3] := by
  constructor <;> simp [D.TI_z, D.TI_z.symm, D.TO_z, D.TO_z.symm, D.TI_TO, D.TI_TO.symm, D.TI_i1, D.TI_i1.symm, D.TI_i2, D.TI_i2.symm, D.TI_i3, D.TI_i3.symm, D.TO_i1, D.TO_i1.symm, D.TO_i2, D.TO_i2.symm, D.TO_i3, D.TO_i3.symm, D.i1_z, D.i1_z.symm, D.i2_z, D.i2_z.symm, D.i3_z, D.i3_z.symm, D.i1_i2, D.i1_i2.symm, D.i1_i3, D.i1_i3.symm, D.i2_i3, D.i2_i3.symm, D.a1_z, D.a1_z.symm, D.a1_TO, D.a1_TO.symm, D.a1_i1, D.a1_i1.symm, D.a1_i2, D.a1_i2.symm, D.a1_i3, D.a1_i3.symm, D.a2_z, D.a2_z.symm, D.a2_TO, D.a2_TO.symm, D.a2_i1, D.a2_i1.symm, D.a2_i2, D.a2_i2.symm, D.a2_i3, D.a2_i3.symm, D.a3_z, D.a3_z.symm, D.a3_TO, D.a3_TO.symm, D.a3_i1, D.a3_i1.symm, D.a3_i2, D.a3_i2.symm, D.a3_i3, D.a3_i3.symm]
def tn3 (t1 : Bool) (a1 : Addr) (t2 : Bool) (a2 : Addr) (t3 : Bool) (a3 : Addr) (z TI TO i1 i2 i3 : Addr) (i : Nat) (h : Heap) : Prop := IsZipS h z TI TO .none ∧ IsTupOf3 h TI (Value.ref i1) (Value.ref i2) (Value.ref i3) ∧ (∃ u1 u2 u3, IsTupOf3 h TO u1 u2 u3) ∧ ItIs t1 h i1 a1 i ∧ ItIs t2 h i2 a2 i ∧ ItIs t3 h i3 a3 i
theorem turn3 {P : Program} {w : World} {K : Frag} {elts : List Expr} {kk : Nat} {tpos : Pos} {t1 t2 t3 : Bool} {z TI TO i1 i2 i3 a1 a2 a3 : Addr} (D : Ap3 z TI TO i1 i2 i3 a1 a2 a3) :
    Turn P w K (.Tuple elts kk tpos) (Itz3 K t1 a1 t2 a2 t3 a3) [z, TI, TO, i1, i2, i3] z (tn3 t1 a1 t2 a2 t3 a3 z TI TO i1 i2 i3) where
  mem := List.mem_cons_self
  obj i h st c hc := by
    obtain ⟨hz, hTI, ⟨u1, u2, u3, hTO⟩, q1, q2, q3⟩ := st
    simp only [List.mem_cons, List.not_mem_nil, or_false] at hc
    rcases hc with rfl | rfl | rfl | rfl | rfl | rfl
    · exact ⟨_, hz, fun v q => by cases q⟩
    · exact ⟨_, hTI, fun v q => by cases q⟩
    · exact ⟨_, hTO, fun v q => by cases q⟩
    · exact q1.there
    · exact q2.there
    · exact q3.there
  keep i h h' st k := by
    obtain ⟨hz, hTI, ⟨u1, u2, u3, hTO⟩, q1, q2, q3⟩ := st
    exact ⟨k z (by simp) _ hz, k TI (by simp) _ hTI, ⟨u1, u2, u3, k TO (by simp) _ hTO⟩, q1.keep fun o e => k i1 (by simp) o e, q2.keep fun o e => k i2 (by simp) o e, q3.keep fun o e => k i3 (by simp) o e⟩
  item X hP hw hK hc i pins s σ H E I hf st hg := by
    subst hP hw hK
    obtain ⟨hz, hTI, ⟨u1, u2, u3, hTO⟩, q1, q2, q3⟩ := st
    obtain ⟨xs1, xs2, xs3, x1, x2, x3, s1, s2, s3, e1, e2, e3⟩ := hg
    obtain ⟨its1, rv1, p1, _⟩ := s1.real I
    obtain ⟨v1, hv1, r1⟩ := rv1.get e1
    have w1 : its1.toArray[i]? = some v1 := by rw [List.getElem?_toArray]; exact hv1
    obtain ⟨its2, rv2, p2, _⟩ := s2.real I
    obtain ⟨v2, hv2, r2⟩ := rv2.get e2
    have w2 : its2.toArray[i]? = some v2 := by rw [List.getElem?_toArray]; exact hv2
    obtain ⟨its3, rv3, p3, _⟩ := s3.real I
    obtain ⟨v3, hv3, r3⟩ := rv3.get e3
    have w3 : its3.toArray[i]? = some v3 := by rw [List.getElem?_toArray]; exact hv3
    have hh := in1_handled (I.ok.hd hc)
    refine next_zip hz (item3 D.sep (draws hh t1 i1 a1 D.a1_i1 its1.toArray) (draws hh t2 i2 a2 D.a2_i2 its2.toArray) (draws hh t3 i3 a3 D.a3_i3 its3.toArray) hz hTI hTO ⟨q1, p1⟩ ⟨q2, p2⟩ ⟨q3, p3⟩ (Array.getElem?_eq_some_iff.mp w1).1 (Array.getElem?_eq_some_iff.mp w2).1 (Array.getElem?_eq_some_iff.mp w3).1 fun y1 y2 y3 h' tk b1 b2 b3 z1 z2 n1 n2 n3 z3 z4 z5 => ⟨_, rfl, _, rfl, ?_⟩)
    rw [w1] at b1
    cases b1
    rw [w2] at b2
    cases b2
    rw [w3] at b3
    cases b3
    refine go_zip z1 fun h'' g1 g2 => ?_
    have fresh : H s.heap.objs.size = none := I.hok.fresh (Nat.le_refl _)
    have up : ∀ (c : Addr) (o : Obj), c ∉ [z, TI, TO, i1, i2, i3] → s.heap.get? c = some o → h''.get? c = some o := fun c o hn e => by
      simp only [List.mem_cons, List.not_mem_nil, or_false, not_or] at hn
      exact g2.extBut c o hn.1 (z5 c o hn.1 hn.2.2.1 hn.2.2.2.1 hn.2.2.2.2.1 hn.2.2.2.2.2 e)
    have nz : s.heap.objs.size ≠ z := fun q => by
      have := Heap.lt_size hz
      rw [q] at this
      exact Nat.lt_irrefl _ this
    have hT : h''.get? s.heap.objs.size = some { cls := .type "tuple", data := .seq #[v1, v2, v3] } := g2.extBut _ _ nz z3
    refine ⟨.ref s.heap.objs.size, _, I.turnedNew (T := s.heap.objs.size) (ob := .tup [x1, x2, x3]) up hf (Nat.le_refl _) ⟨by show 3 ≤ sizeLine; decide, [v1, v2, v3], .cons r1 (.cons r2 (.cons r3 (.nil))), _, hT, rfl, _, rfl⟩, rfl, ⟨s.heap.objs.size, x1, x2, x3, rfl, fresh, rfl, fun xs h => by rw [h.one I s1]; exact e1, fun xs h => by rw [h.one I s2]; exact e2, fun xs h => by rw [h.one I s3]; exact e3⟩, ?_, fun b hb => ?_⟩
    · refine ⟨g1, g2.extBut _ _ D.TI_z (z5 _ _ D.TI_z D.TI_TO D.TI_i1 D.TI_i2 D.TI_i3 hTI), ⟨v1, v2, v3, g2.extBut _ _ D.TO_z z2⟩, n1.1.keep fun o e => g2.extBut _ _ D.i1_z e, n2.1.keep fun o e => g2.extBut _ _ D.i2_z e, n3.1.keep fun o e => g2.extBut _ _ D.i3_z e⟩
    · have nb : b ≠ s.heap.objs.size := fun q => by
        have : ∃ o, s.heap.get? b = some o := by
          simp only [List.mem_cons, List.not_mem_nil, or_false] at hb
          rcases hb with rfl | rfl | rfl | rfl | rfl | rfl
          · exact ⟨_, hz⟩
          · exact ⟨_, hTI⟩
          · exact ⟨_, hTO⟩
          · exact q1.there.imp fun o h => h.1
          · exact q2.there.imp fun o h => h.1
          · exact q3.there.imp fun o h => h.1
        obtain ⟨o, e⟩ := this
        have := Heap.lt_size e
        rw [q] at this
        exact Nat.lt_irrefl _ this
      rw [upd_ne nb]
      exact (hf b hb).1
  done X hP hw hK hc i pins s σ H E I hf st hg := by
    subst hP hw hK
    obtain ⟨hz, hTI, ⟨u1, u2, u3, hTO⟩, q1, q2, q3⟩ := st
    obtain ⟨xs1, xs2, xs3, s1, s2, s3, e1, e2, e3⟩ := hg
    obtain ⟨its1, rv1, p1, _⟩ := s1.real I
    have w1 : its1.toArray.size = i := by rw [List.size_toArray, ← rv1.length]; exact e1
    obtain ⟨its2, rv2, p2, _⟩ := s2.real I
    have w2 : its2.toArray.size = i := by rw [List.size_toArray, ← rv2.length]; exact e2
    obtain ⟨its3, rv3, p3, _⟩ := s3.real I
    have w3 : its3.toArray.size = i := by rw [List.size_toArray, ← rv3.length]; exact e3
    have hh := in1_handled (I.ok.hd hc)
    have d1 := draws (prog := X.prog) (w := X.w) hh t1 i1 a1 D.a1_i1 its1.toArray
    rw [w1] at d1
    have d2 := draws (prog := X.prog) (w := X.w) hh t2 i2 a2 D.a2_i2 its2.toArray
    rw [w2] at d2
    have d3 := draws (prog := X.prog) (w := X.w) hh t3 i3 a3 D.a3_i3 its3.toArray
    rw [w3] at d3
    refine next_zip hz (end3 hh D.sep d1 d2 d3 hz hTI hTO ⟨q1, p1⟩ ⟨q2, p2⟩ ⟨q3, p3⟩ fun h' tk e up te => ⟨te, rfl, I.turnedL (ch := [z, TI, TO, i1, i2, i3]) (fun c o hn q => ?_) hf⟩)
    simp only [List.mem_cons, List.not_mem_nil, or_false, not_or] at hn
    exact up c o hn.1 hn.2.2.1 hn.2.2.2.1 hn.2.2.2.2.1 hn.2.2.2.2.2 q
  self A i s Q E st h := iter_zip st.1 h
def iZip3 (K : Frag) (ta tk : TA) : TI := fun σ H R => ta σ H fun vs H1 => tk σ H1 fun ks H2 => ks = [.bl true] ∧ ∃ (t1 : Bool) (a1 : Addr) (xs1 : List V) (t2 : Bool) (a2 : Addr) (xs2 : List V) (t3 : Bool) (a3 : Addr) (xs3 : List V), vs = [.ref a1, .ref a2, .ref a3] ∧ SqK K t1 H2 a1 xs1 ∧ SqK K t2 H2 a2 xs2 ∧ SqK K t3 H2 a3 xs3 ∧ R (Itz3 K t1 a1 t2 a2 t3 a3) H2
theorem pi_zip3 {X : Cx} {e1 e2 e3 : Expr} {ta tk : TA} {p pos tpos : Pos} {elts : List Expr} {kk : Nat} {kws : List Keyword} (hg : Gl X "zip") (hm : X.mg "zip" = none) (ha : PA X [e1, e2, e3] ta) (hk : PK X kws tk)
    (he : starEach [e1, e2, e3] X.env = (false, eval e1 X.env) :: starEach [e2, e3] X.env := by rfl) (hpl : ((List.any (backTo pos (starEach [e1, e2, e3] X.env)) (fun x => x.1)) || List.any (backToKw pos (keywordEach kws X.env)) (fun x => x.1.isNone)) = false := by rfl)
    (hall : List.all (backToKw pos (keywordEach kws X.env)) (fun x => x.1.isSome) = true := by rfl) (hn : List.filterMap (fun x => x.1) (backToKw pos (keywordEach kws X.env)) = [Str.ofString "strict"] := by rfl) :
    PI X (.Tuple elts kk tpos) (.Call (.Name "zip" p) [e1, e2, e3] kws pos) (iZip3 X.K ta tk) where
  run pins s σ H R I h := by
    refine wpAny_Call_Name_kw (ld_blt I hg hm boot_zip ?_)
    refine callWith_of (P := fun _ => True) hpl (fun h _ => ⟨.machine, .inr (.inl rfl), fun A Q E s k q => wpAny_pure q⟩) (evalArgs_kw2 hall ?_ he)
    refine thn (ha.run pos pins s σ H _ I h) fun us s0 ⟨vs, H1, I0, r1, q0⟩ => thn (hk.run pos pins s0 σ H1 _ I0 q0) fun ks s1 ⟨zs, H2, I1, rk, ek, t1, a1, xs1, t2, a2, xs2, t3, a3, xs3, ev, w1, w2, w3, q⟩ => ?_
    subst ev ek
    refine ⟨trivial, ?_⟩
    rw [hn]
    have eu : us = [Value.ref a1, Value.ref a2, Value.ref a3] := by
      clear q0 h q
      cases r1 with
      | cons c1 r1 =>
        cases r1 with
        | cons c2 r1 =>
          cases r1 with
          | cons c3 r1 =>
            cases r1
            cases c1
            cases c2
            cases c3
            rfl
    have ekk : ks = [Value.bool true] := by
      cases rk with
      | cons c rk =>
        cases rk
        cases c
        rfl
    subst eu ekk
    obtain ⟨its1, rv1, p1, _⟩ := w1.real I1
    obtain ⟨its2, rv2, p2, _⟩ := w2.real I1
    obtain ⟨its3, rv3, p3, _⟩ := w3.real I1
    refine call_zipS (by kernel_rfl) (by kernel_rfl) (fun obj => by kernel_rfl) (new3 (begins t1 a1 its1.toArray) (begins t2 a2 its2.toArray) (begins t3 a3 its3.toArray) p1 p2 p3 fun h' z1 z2 z3 o1 o2 o3 sz up => ⟨_, rfl, ⟨_, z1, rfl⟩, ?_⟩)
    have I2 := I1.kept (t' := s1.toks) up
    have lt : ∀ {a : Addr} {o : Obj}, s1.heap.get? a = some o → a < s1.heap.objs.size := fun e => Heap.lt_size e
    have l1 : @LT.lt Nat _ a1 s1.heap.objs.size := let ⟨o, e⟩ := p1.there; lt e
    have l2 : @LT.lt Nat _ a2 s1.heap.objs.size := let ⟨o, e⟩ := p2.there; lt e
    have l3 : @LT.lt Nat _ a3 s1.heap.objs.size := let ⟨o, e⟩ := p3.there; lt e
    refine iter_zip z1 ⟨s1.heap.objs.size + 5, [s1.heap.objs.size + 5, s1.heap.objs.size + 3, s1.heap.objs.size + 4, s1.heap.objs.size, (s1.heap.objs.size + 1), (s1.heap.objs.size + 2)], tn3 t1 a1 t2 a2 t3 a3 (s1.heap.objs.size + 5) (s1.heap.objs.size + 3) (s1.heap.objs.size + 4) s1.heap.objs.size (s1.heap.objs.size + 1) (s1.heap.objs.size + 2), Itz3 X.K t1 a1 t2 a2 t3 a3, H2, rfl, I2, turn3 ?_, ⟨z1, z2, ⟨_, _, _, z3⟩, itObj_is o1, itObj_is o2, itObj_is o3⟩, fun b hb => ?_, q⟩
    · constructor <;> first | exact Nat.ne_of_lt (by omega) | exact Nat.ne_of_gt (by omega)
    · have le : s1.heap.objs.size ≤ b := by
        simp only [List.mem_cons, List.not_mem_nil, or_false] at hb
        rcases hb with h | h | h | h | h | h <;> (rw [h]; first | exact Nat.le_refl _ | exact Nat.le_add_right _ _)
      exact I1.fpOk le (I1.hok.fresh le)
end Zs
/-! ## zip without strict, of lists and tuples in any mix (printed by lf/zh.py) -/
namespace Zs
open PySem PySem.W PySem.Spec PyProof.Rows L2
def tm2 (t1 : Bool) (a1 : Addr) (t2 : Bool) (a2 : Addr) (z TI TO i1 i2 : Addr) (i : Nat) (h : Heap) : Prop := IsZip h z TI TO .none ∧ IsTupOf2 h TI (Value.ref i1) (Value.ref i2) ∧ (∃ u1 u2, IsTupOf2 h TO u1 u2) ∧ ItIs t1 h i1 a1 i ∧ ItIs t2 h i2 a2 i
theorem turm2 {P : Program} {w : World} {K : Frag} {elts : List Expr} {kk : Nat} {tpos : Pos} {t1 t2 : Bool} {z TI TO i1 i2 a1 a2 : Addr} (D : Ap2 z TI TO i1 i2 a1 a2) :
    Turn P w K (.Tuple elts kk tpos) (Itz2 K t1 a1 t2 a2) [z, TI, TO, i1, i2] z (tm2 t1 a1 t2 a2 z TI TO i1 i2) where
  mem := List.mem_cons_self
  obj i h st c hc := by
    obtain ⟨hz, hTI, ⟨u1, u2, hTO⟩, q1, q2⟩ := st
    simp only [List.mem_cons, List.not_mem_nil, or_false] at hc
    rcases hc with rfl | rfl | rfl | rfl | rfl
    · exact ⟨_, hz, fun v q => by cases q⟩
    · exact ⟨_, hTI, fun v q => by cases q⟩
    · exact ⟨_, hTO, fun v q => by cases q⟩
    · exact q1.there
    · exact q2.there
  keep i h h' st k := by
    obtain ⟨hz, hTI, ⟨u1, u2, hTO⟩, q1, q2⟩ := st
    exact ⟨k z (by simp) _ hz, k TI (by simp) _ hTI, ⟨u1, u2, k TO (by simp) _ hTO⟩, q1.keep fun o e => k i1 (by simp) o e, q2.keep fun o e => k i2 (by simp) o e⟩
  item X hP hw hK hc i pins s σ H E I hf st hg := by
    subst hP hw hK
    obtain ⟨hz, hTI, ⟨u1, u2, hTO⟩, q1, q2⟩ := st
    obtain ⟨xs1, xs2, x1, x2, s1, s2, e1, e2⟩ := hg
    obtain ⟨its1, rv1, p1, _⟩ := s1.real I
    obtain ⟨v1, hv1, r1⟩ := rv1.get e1
    have w1 : its1.toArray[i]? = some v1 := by rw [List.getElem?_toArray]; exact hv1
    obtain ⟨its2, rv2, p2, _⟩ := s2.real I
    obtain ⟨v2, hv2, r2⟩ := rv2.get e2
    have w2 : its2.toArray[i]? = some v2 := by rw [List.getElem?_toArray]; exact hv2
    have hh := in1_handled (I.ok.hd hc)
    refine (wpAny_pyNext_zipD2_item D.sep (draws hh t1 i1 a1 D.a1_i1 its1.toArray) (draws hh t2 i2 a2 D.a2_i2 its2.toArray) hz hTI hTO ⟨q1, p1⟩ ⟨q2, p2⟩ (Array.getElem?_eq_some_iff.mp w1).1 (Array.getElem?_eq_some_iff.mp w2).1 fun y1 y2 h' tk b1 b2 z1 z2 n1 n2 z3 z4 z5 => ⟨_, rfl, ?_⟩)
    rw [w1] at b1
    cases b1
    rw [w2] at b2
    cases b2
    refine wpAny_letOwnedTupleGo_zip z1 fun h'' g1 g2 => ?_
    have fresh : H s.heap.objs.size = none := I.hok.fresh (Nat.le_refl _)
    have up : ∀ (c : Addr) (o : Obj), c ∉ [z, TI, TO, i1, i2] → s.heap.get? c = some o → h''.get? c = some o := fun c o hn e => by
      simp only [List.mem_cons, List.not_mem_nil, or_false, not_or] at hn
      exact g2.extBut c o hn.1 (z5 c o hn.1 hn.2.2.1 hn.2.2.2.1 hn.2.2.2.2 e)
    have nz : s.heap.objs.size ≠ z := fun q => by
      have := Heap.lt_size hz
      rw [q] at this
      exact Nat.lt_irrefl _ this
    have hT : h''.get? s.heap.objs.size = some { cls := .type "tuple", data := .seq #[v1, v2] } := g2.extBut _ _ nz z3
    refine ⟨.ref s.heap.objs.size, _, I.turnedNew (T := s.heap.objs.size) (ob := .tup [x1, x2]) up hf (Nat.le_refl _) ⟨by show 2 ≤ sizeLine; decide, [v1, v2], .cons r1 (.cons r2 (.nil)), _, hT, rfl, _, rfl⟩, rfl, ⟨s.heap.objs.size, x1, x2, rfl, fresh, rfl, fun xs h => by rw [h.one I s1]; exact e1, fun xs h => by rw [h.one I s2]; exact e2⟩, ?_, fun b hb => ?_⟩
    · refine ⟨g1, g2.extBut _ _ D.TI_z (z5 _ _ D.TI_z D.TI_TO D.TI_i1 D.TI_i2 hTI), ⟨v1, v2, g2.extBut _ _ D.TO_z z2⟩, n1.1.keep fun o e => g2.extBut _ _ D.i1_z e, n2.1.keep fun o e => g2.extBut _ _ D.i2_z e⟩
    · have nb : b ≠ s.heap.objs.size := fun q => by
        have : ∃ o, s.heap.get? b = some o := by
          simp only [List.mem_cons, List.not_mem_nil, or_false] at hb
          rcases hb with rfl | rfl | rfl | rfl | rfl
          · exact ⟨_, hz⟩
          · exact ⟨_, hTI⟩
          · exact ⟨_, hTO⟩
          · exact q1.there.imp fun o h => h.1
          · exact q2.there.imp fun o h => h.1
        obtain ⟨o, e⟩ := this
        have := Heap.lt_size e
        rw [q] at this
        exact Nat.lt_irrefl _ this
      rw [upd_ne nb]
      exact (hf b hb).1
  done X hP hw hK hc i pins s σ H E I hf st hg := by
    subst hP hw hK
    obtain ⟨hz, hTI, ⟨u1, u2, hTO⟩, q1, q2⟩ := st
    obtain ⟨xs1, xs2, s1, s2, e1, e2⟩ := hg
    obtain ⟨its1, rv1, p1, _⟩ := s1.real I
    have w1 : its1.toArray.size = i := by rw [List.size_toArray, ← rv1.length]; exact e1
    obtain ⟨its2, rv2, p2, _⟩ := s2.real I
    have w2 : its2.toArray.size = i := by rw [List.size_toArray, ← rv2.length]; exact e2
    have hh := in1_handled (I.ok.hd hc)
    have d1 := draws (prog := X.prog) (w := X.w) hh t1 i1 a1 D.a1_i1 its1.toArray
    rw [w1] at d1
    have d2 := draws (prog := X.prog) (w := X.w) hh t2 i2 a2 D.a2_i2 its2.toArray
    rw [w2] at d2
    refine (wpAny_pyNext_zipD2_end D.sep d1 d2 hz hTI hTO ⟨q1, p1⟩ ⟨q2, p2⟩ (Nat.le_refl _) (Nat.le_refl _) (.inl rfl) fun h' tk up => ⟨rfl, I.turnedL (ch := [z, TI, TO, i1, i2]) (fun c o hn q => ?_) hf⟩)
    simp only [List.mem_cons, List.not_mem_nil, or_false, not_or] at hn
    exact up c o hn.1 hn.2.2.1 hn.2.2.2.1 hn.2.2.2.2 q
  self A i s Q E st h := wpAny_pyIter_zip st.1 h
def iZin2 (K : Frag) (ta : TA) : TI := fun σ H R => ta σ H fun vs H2 => ∃ (t1 : Bool) (a1 : Addr) (xs1 : List V) (t2 : Bool) (a2 : Addr) (xs2 : List V), vs = [.ref a1, .ref a2] ∧ SqK K t1 H2 a1 xs1 ∧ SqK K t2 H2 a2 xs2 ∧ R (Itz2 K t1 a1 t2 a2) H2
theorem pi_zin2 {X : Cx} {e1 e2 : Expr} {ta : TA} {p pos tpos : Pos} {elts : List Expr} {kk : Nat} (hg : Gl X "zip") (hm : X.mg "zip" = none) (ha : PA X [e1, e2] ta)
    (he : starEach [e1, e2] X.env = (false, eval e1 X.env) :: starEach [e2] X.env := by rfl) (hpl : (List.any (backTo pos (starEach [e2] X.env)) fun x => x.1) = false := by rfl) :
    PI X (.Tuple elts kk tpos) (.Call (.Name "zip" p) [e1, e2] [] pos) (iZin2 X.K ta) where
  run pins s σ H R I h := by
    refine PyProof.Rows.Call_ (ld_blt I hg hm boot_zip (PyProof.Rows.callWith_type1 ?_ he hpl))
    refine thn (ha.run pos pins s σ H _ I h) fun us s1 ⟨vs, H2, I1, r1, t1, a1, xs1, t2, a2, xs2, ev, w1, w2, q⟩ => ?_
    subst ev
    have eu : us = [Value.ref a1, Value.ref a2] := by
      clear h q
      cases r1 with
      | cons c1 r1 =>
        cases r1 with
        | cons c2 r1 =>
          cases r1
          cases c1
          cases c2
          rfl
    subst eu
    obtain ⟨its1, rv1, p1, _⟩ := w1.real I1
    obtain ⟨its2, rv2, p2, _⟩ := w2.real I1
    refine (zip_begins2 (begins t1 a1 its1.toArray) (begins t2 a2 its2.toArray) p1 p2 fun h' z1 z2 z3 o1 o2 sz up => ?_)
    have I2 := I1.kept (t' := s1.toks) up
    have lt : ∀ {a : Addr} {o : Obj}, s1.heap.get? a = some o → a < s1.heap.objs.size := fun e => Heap.lt_size e
    have l1 : @LT.lt Nat _ a1 s1.heap.objs.size := let ⟨o, e⟩ := p1.there; lt e
    have l2 : @LT.lt Nat _ a2 s1.heap.objs.size := let ⟨o, e⟩ := p2.there; lt e
    refine wpAny_pyIter_zip z1 ⟨s1.heap.objs.size + 4, [s1.heap.objs.size + 4, s1.heap.objs.size + 2, s1.heap.objs.size + 3, s1.heap.objs.size, (s1.heap.objs.size + 1)], tm2 t1 a1 t2 a2 (s1.heap.objs.size + 4) (s1.heap.objs.size + 2) (s1.heap.objs.size + 3) s1.heap.objs.size (s1.heap.objs.size + 1), Itz2 X.K t1 a1 t2 a2, H2, rfl, I2, turm2 ?_, ⟨z1, z2, ⟨_, _, z3⟩, itObj_is o1, itObj_is o2⟩, fun b hb => ?_, q⟩
    · constructor <;> first | exact Nat.ne_of_lt (by omega) | exact Nat.ne_of_gt (by omega)
    · have le : s1.heap.objs.size ≤ b := by
        simp only [List.mem_cons, List.not_mem_nil, or_false] at hb
        rcases hb with h | h | h | h | h <;> (rw [h]; first | exact Nat.le_refl _ | exact Nat.le_add_right _ _)
      exact I1.fpOk le (I1.hok.fresh le)
def tm3 (t1 : Bool) (a1 : Addr) (t2 : Bool) (a2 : Addr) (t3 : Bool) (a3 : Addr) (z TI TO i1 i2 i3 : Addr) (i : Nat) (h : Heap) : Prop := IsZip h z TI TO .none ∧ IsTupOf3 h TI (Value.ref i1) (Value.ref i2) (Value.ref i3) ∧ (∃ u1 u2 u3, IsTupOf3 h TO u1 u2 u3) ∧ ItIs t1 h i1 a1 i ∧ ItIs t2 h i2 a2 i ∧ ItIs t3 h i3 a3 i
theorem turm3 {P : Program} {w : World} {K : Frag} {elts : List Expr} {kk : Nat} {tpos : Pos} {t1 t2 t3 : Bool} {z TI TO i1 i2 i3 a1 a2 a3 : Addr} (D : Ap3 z TI TO i1 i2 i3 a1 a2 a3) :
    Turn P w K (.Tuple elts kk tpos) (Itz3 K t1 a1 t2 a2 t3 a3) [z, TI, TO, i1, i2, i3] z (tm3 t1 a1 t2 a2 t3 a3 z TI TO i1 i2 i3) where
  mem := List.mem_cons_self
  obj i h st c hc := by
    obtain ⟨hz, hTI, ⟨u1, u2, u3, hTO⟩, q1, q2, q3⟩ := st
    simp only [List.mem_cons, List.not_mem_nil, or_false] at hc
    rcases hc with rfl | rfl | rfl | rfl | rfl | rfl
    · exact ⟨_, hz, fun v q => by cases q⟩
    · exact ⟨_, hTI, fun v q => by cases q⟩
    · exact ⟨_, hTO, fun v q => by cases q⟩
    · exact q1.there
    · exact q2.there
    · exact q3.there
  keep i h h' st k := by
    obtain ⟨hz, hTI, ⟨u1, u2, u3, hTO⟩, q1, q2, q3⟩ := st
    exact ⟨k z (by simp) _ hz, k TI (by simp) _ hTI, ⟨u1, u2, u3, k TO (by simp) _ hTO⟩, q1.keep fun o e => k i1 (by simp) o e, q2.keep fun o e => k i2 (by simp) o e, q3.keep fun o e => k i3 (by simp) o e⟩
  item X hP hw hK hc i pins s σ H E I hf st hg := by
    subst hP hw hK
    obtain ⟨hz, hTI, ⟨u1, u2, u3, hTO⟩, q1, q2, q3⟩ := st
    obtain ⟨xs1, xs2, xs3, x1, x2, x3, s1, s2, s3, e1, e2, e3⟩ := hg
    obtain ⟨its1, rv1, p1, _⟩ := s1.real I
    obtain ⟨v1, hv1, r1⟩ := rv1.get e1
    have w1 : its1.toArray[i]? = some v1 := by rw [List.getElem?_toArray]; exact hv1
    obtain ⟨its2, rv2, p2, _⟩ := s2.real I
    obtain ⟨v2, hv2, r2⟩ := rv2.get e2
    have w2 : its2.toArray[i]? = some v2 := by rw [List.getElem?_toArray]; exact hv2
    obtain ⟨its3, rv3, p3, _⟩ := s3.real I
    obtain ⟨v3, hv3, r3⟩ := rv3.get e3
    have w3 : its3.toArray[i]? = some v3 := by rw [List.getElem?_toArray]; exact hv3
    have hh := in1_handled (I.ok.hd hc)
    refine (wpAny_pyNext_zipD3_item D.sep (draws hh t1 i1 a1 D.a1_i1 its1.toArray) (draws hh t2 i2 a2 D.a2_i2 its2.toArray) (draws hh t3 i3 a3 D.a3_i3 its3.toArray) hz hTI hTO ⟨q1, p1⟩ ⟨q2, p2⟩ ⟨q3, p3⟩ (Array.getElem?_eq_some_iff.mp w1).1 (Array.getElem?_eq_some_iff.mp w2).1 (Array.getElem?_eq_some_iff.mp w3).1 fun y1 y2 y3 h' tk b1 b2 b3 z1 z2 n1 n2 n3 z3 z4 z5 => ⟨_, rfl, ?_⟩)
    rw [w1] at b1
    cases b1
    rw [w2] at b2
    cases b2
    rw [w3] at b3
    cases b3
    refine wpAny_letOwnedTupleGo_zip z1 fun h'' g1 g2 => ?_
    have fresh : H s.heap.objs.size = none := I.hok.fresh (Nat.le_refl _)
    have up : ∀ (c : Addr) (o : Obj), c ∉ [z, TI, TO, i1, i2, i3] → s.heap.get? c = some o → h''.get? c = some o := fun c o hn e => by
      simp only [List.mem_cons, List.not_mem_nil, or_false, not_or] at hn
      exact g2.extBut c o hn.1 (z5 c o hn.1 hn.2.2.1 hn.2.2.2.1 hn.2.2.2.2.1 hn.2.2.2.2.2 e)
    have nz : s.heap.objs.size ≠ z := fun q => by
      have := Heap.lt_size hz
      rw [q] at this
      exact Nat.lt_irrefl _ this
    have hT : h''.get? s.heap.objs.size = some { cls := .type "tuple", data := .seq #[v1, v2, v3] } := g2.extBut _ _ nz z3
    refine ⟨.ref s.heap.objs.size, _, I.turnedNew (T := s.heap.objs.size) (ob := .tup [x1, x2, x3]) up hf (Nat.le_refl _) ⟨by show 3 ≤ sizeLine; decide, [v1, v2, v3], .cons r1 (.cons r2 (.cons r3 (.nil))), _, hT, rfl, _, rfl⟩, rfl, ⟨s.heap.objs.size, x1, x2, x3, rfl, fresh, rfl, fun xs h => by rw [h.one I s1]; exact e1, fun xs h => by rw [h.one I s2]; exact e2, fun xs h => by rw [h.one I s3]; exact e3⟩, ?_, fun b hb => ?_⟩
    · refine ⟨g1, g2.extBut _ _ D.TI_z (z5 _ _ D.TI_z D.TI_TO D.TI_i1 D.TI_i2 D.TI_i3 hTI), ⟨v1, v2, v3, g2.extBut _ _ D.TO_z z2⟩, n1.1.keep fun o e => g2.extBut _ _ D.i1_z e, n2.1.keep fun o e => g2.extBut _ _ D.i2_z e, n3.1.keep fun o e => g2.extBut _ _ D.i3_z e⟩
    · have nb : b ≠ s.heap.objs.size := fun q => by
        have : ∃ o, s.heap.get? b = some o := by
          simp only [List.mem_cons, List.not_mem_nil, or_false] at hb
          rcases hb with rfl | rfl | rfl | rfl | rfl | rfl
          · exact ⟨_, hz⟩
          · exact ⟨_, hTI⟩
          · exact ⟨_, hTO⟩
          · exact q1.there.imp fun o h => h.1
          · exact q2.there.imp fun o h => h.1
          · exact q3.there.imp fun o h => h.1
        obtain ⟨o, e⟩ := this
        have := Heap.lt_size e
        rw [q] at this
        exact Nat.lt_irrefl _ this
      rw [upd_ne nb]
      exact (hf b hb).1
  done X hP hw hK hc i pins s σ H E I hf st hg := by
    subst hP hw hK
    obtain ⟨hz, hTI, ⟨u1, u2, u3, hTO⟩, q1, q2, q3⟩ := st
    obtain ⟨xs1, xs2, xs3, s1, s2, s3, e1, e2, e3⟩ := hg
    obtain ⟨its1, rv1, p1, _⟩ := s1.real I
    have w1 : its1.toArray.size = i := by rw [List.size_toArray, ← rv1.length]; exact e1
    obtain ⟨its2, rv2, p2, _⟩ := s2.real I
    have w2 : its2.toArray.size = i := by rw [List.size_toArray, ← rv2.length]; exact e2
    obtain ⟨its3, rv3, p3, _⟩ := s3.real I
    have w3 : its3.toArray.size = i := by rw [List.size_toArray, ← rv3.length]; exact e3
    have hh := in1_handled (I.ok.hd hc)
    have d1 := draws (prog := X.prog) (w := X.w) hh t1 i1 a1 D.a1_i1 its1.toArray
    rw [w1] at d1
    have d2 := draws (prog := X.prog) (w := X.w) hh t2 i2 a2 D.a2_i2 its2.toArray
    rw [w2] at d2
    have d3 := draws (prog := X.prog) (w := X.w) hh t3 i3 a3 D.a3_i3 its3.toArray
    rw [w3] at d3
    refine (wpAny_pyNext_zipD3_end D.sep d1 d2 d3 hz hTI hTO ⟨q1, p1⟩ ⟨q2, p2⟩ ⟨q3, p3⟩ (Nat.le_refl _) (Nat.le_refl _) (Nat.le_refl _) (.inl rfl) fun h' tk up => ⟨rfl, I.turnedL (ch := [z, TI, TO, i1, i2, i3]) (fun c o hn q => ?_) hf⟩)
    simp only [List.mem_cons, List.not_mem_nil, or_false, not_or] at hn
    exact up c o hn.1 hn.2.2.1 hn.2.2.2.1 hn.2.2.2.2.1 hn.2.2.2.2.2 q
  self A i s Q E st h := wpAny_pyIter_zip st.1 h
def iZin3 (K : Frag) (ta : TA) : TI := fun σ H R => ta σ H fun vs H2 => ∃ (t1 : Bool) (a1 : Addr) (xs1 : List V) (t2 : Bool) (a2 : Addr) (xs2 : List V) (t3 : Bool) (a3 : Addr) (xs3 : List V), vs = [.ref a1, .ref a2, .ref a3] ∧ SqK K t1 H2 a1 xs1 ∧ SqK K t2 H2 a2 xs2 ∧ SqK K t3 H2 a3 xs3 ∧ R (Itz3 K t1 a1 t2 a2 t3 a3) H2
theorem pi_zin3 {X : Cx} {e1 e2 e3 : Expr} {ta : TA} {p pos tpos : Pos} {elts : List Expr} {kk : Nat} (hg : Gl X "zip") (hm : X.mg "zip" = none) (ha : PA X [e1, e2, e3] ta)
    (he : starEach [e1, e2, e3] X.env = (false, eval e1 X.env) :: starEach [e2, e3] X.env := by rfl) (hpl : (List.any (backTo pos (starEach [e2, e3] X.env)) fun x => x.1) = false := by rfl) :
    PI X (.Tuple elts kk tpos) (.Call (.Name "zip" p) [e1, e2, e3] [] pos) (iZin3 X.K ta) where
  run pins s σ H R I h := by
    refine PyProof.Rows.Call_ (ld_blt I hg hm boot_zip (PyProof.Rows.callWith_type1 ?_ he hpl))
    refine thn (ha.run pos pins s σ H _ I h) fun us s1 ⟨vs, H2, I1, r1, t1, a1, xs1, t2, a2, xs2, t3, a3, xs3, ev, w1, w2, w3, q⟩ => ?_
    subst ev
    have eu : us = [Value.ref a1, Value.ref a2, Value.ref a3] := by
      clear h q
      cases r1 with
      | cons c1 r1 =>
        cases r1 with
        | cons c2 r1 =>
          cases r1 with
          | cons c3 r1 =>
            cases r1
            cases c1
            cases c2
            cases c3
            rfl
    subst eu
    obtain ⟨its1, rv1, p1, _⟩ := w1.real I1
    obtain ⟨its2, rv2, p2, _⟩ := w2.real I1
    obtain ⟨its3, rv3, p3, _⟩ := w3.real I1
    refine (zip_begins3 (begins t1 a1 its1.toArray) (begins t2 a2 its2.toArray) (begins t3 a3 its3.toArray) p1 p2 p3 fun h' z1 z2 z3 o1 o2 o3 sz up => ?_)
    have I2 := I1.kept (t' := s1.toks) up
    have lt : ∀ {a : Addr} {o : Obj}, s1.heap.get? a = some o → a < s1.heap.objs.size := fun e => Heap.lt_size e
    have l1 : @LT.lt Nat _ a1 s1.heap.objs.size := let ⟨o, e⟩ := p1.there; lt e
    have l2 : @LT.lt Nat _ a2 s1.heap.objs.size := let ⟨o, e⟩ := p2.there; lt e
    have l3 : @LT.lt Nat _ a3 s1.heap.objs.size := let ⟨o, e⟩ := p3.there; lt e
    refine wpAny_pyIter_zip z1 ⟨s1.heap.objs.size + 5, [s1.heap.objs.size + 5, s1.heap.objs.size + 3, s1.heap.objs.size + 4, s1.heap.objs.size, (s1.heap.objs.size + 1), (s1.heap.objs.size + 2)], tm3 t1 a1 t2 a2 t3 a3 (s1.heap.objs.size + 5) (s1.heap.objs.size + 3) (s1.heap.objs.size + 4) s1.heap.objs.size (s1.heap.objs.size + 1) (s1.heap.objs.size + 2), Itz3 X.K t1 a1 t2 a2 t3 a3, H2, rfl, I2, turm3 ?_, ⟨z1, z2, ⟨_, _, _, z3⟩, itObj_is o1, itObj_is o2, itObj_is o3⟩, fun b hb => ?_, q⟩
    · constructor <;> first | exact Nat.ne_of_lt (by omega) | exact Nat.ne_of_gt (by omega)
    · have le : s1.heap.objs.size ≤ b := by
        simp only [List.mem_cons, List.not_mem_nil, or_false] at hb
        rcases hb with h | h | h | h | h | h <;> (rw [h]; first | exact Nat.le_refl _ | exact Nat.le_add_right _ _)
      exact I1.fpOk le (I1.hok.fresh le)
end Zs
/-! ## Readings told by plain data: zip of lists and tuples; tuples of three -/
namespace Lf
open PySem PySem.Spec PyProof.Rows L2 Zs
open PySem.W (Frag)
structure T3 (α β γ : Type) where
  a : α
  b : β
  c : γ
deriving DecidableEq
instance {α β γ : Type} [Rp α] [Rp β] [Rp γ] : Rp (T3 α β γ) := ⟨fun K H v t => ∃ p x y z, v = .ref p ∧ H p = some (.tup [x, y, z]) ∧ Rp.rep K H x t.a ∧ Rp.rep K H y t.b ∧ Rp.rep K H z t.c, fun s ⟨p, x, y, z, e, q, h1, h2, h3⟩ => ⟨p, x, y, z, e, s.at q, Rp.mono s h1, Rp.mono s h2, Rp.mono s h3⟩⟩
/-- a list or a tuple -/
structure Sq (α : Type) where
  l : List α
def seqO (t : Bool) (vs : List V) : HO := if t then .tup vs else .lst vs
theorem seqO_at {G G' : Hp} (s : Le G G') {t : Bool} {a : Addr} {vs : List V} (e : G a = some (seqO t vs)) : G' a = some (seqO t vs) := by
  cases t
  · exact s.at e
  · exact s.at e
instance {α : Type} [Rp α] : Rp (Sq α) := ⟨fun K H v t => ∃ (b : Bool) (a : Addr) (vs : List V), v = .ref a ∧ H a = some (seqO b vs) ∧ All K H vs t.l ∧ t.l.length ≤ sizeLine, fun s ⟨b, a, vs, e, q, p, l⟩ => ⟨b, a, vs, e, seqO_at s q, All.mono s p, l⟩⟩
theorem sqk {K : Frag} {G H : Hp} {ω : List Ent} (w : At G ω H) {t : Bool} {a : Addr} {vs : List V} (e : G a = some (seqO t vs)) : SqK K t H a vs := by
  cases t
  · exact RC.sq_of (w.lst e)
  · exact RC.st_of (w.tup e)
/-- what is known as a list or a tuple of these -/
def SqM {α : Type} [Rp α] (K : Frag) (m : MP) (xs : List α) : Prop := ∀ (G : Hp) (v : V), m.p G v → ∃ (t : Bool) (a : Addr) (vs : List V), v = .ref a ∧ G a = some (seqO t vs) ∧ All K G vs xs ∧ xs.length ≤ sizeLine
section
variable {α β γ : Type} [Rp α] [Rp β] [Rp γ] {K : Frag}
theorem SqM.l {xs : List α} : SqM K (is K xs) xs := fun G v ⟨a, vs, e, q, p, l⟩ => ⟨false, a, vs, e, q, p, l⟩
theorem SqM.t {xs : Tu α} : SqM K (is K xs) xs.l := fun G v ⟨a, vs, e, q, p, l⟩ => ⟨true, a, vs, e, q, p, l⟩
theorem SqM.q {xs : Sq α} : SqM K (is K xs) xs.l := fun G v h => h
theorem sq_l {xs : List α} (G : Hp) (v : V) (p : (is K xs).p G v) : (is K (Sq.mk xs)).p G v := SqM.l G v p
theorem sq_t {xs : Tu α} (G : Hp) (v : V) (p : (is K xs).p G v) : (is K (Sq.mk xs.l)).p G v := SqM.t G v p
theorem zip_get {xs : List α} {ys : List β} {i : Nat} {z : α × β} (h : (xs.zip ys)[i]? = some z) : xs[i]? = some z.1 ∧ ys[i]? = some z.2 := by
  rw [List.getElem?_zip_eq_some] at h
  exact h
theorem walk_zip2 {G0 : Hp} {t1 t2 : Bool} {a1 a2 : Addr} {u1 u2 : List V} {xs : List α} {ys : List β} (e1 : G0 a1 = some (seqO t1 u1)) (e2 : G0 a2 = some (seqO t2 u2)) (h1 : All K G0 u1 xs) (h2 : All K G0 u2 ys) (l1 : xs.length ≤ sizeLine) (le : xs.length = ys.length) : WalkX K G0 Any (Itz2 K t1 a1 t2 a2) (xs.zip ys) := by
  have len : (xs.zip ys).length = xs.length := by
    rw [List.length_zip]
    omega
  have n1 := Paired.len h1
  have n2 := Paired.len h2
  refine ⟨by rw [len]; exact l1, fun G ω H i s w _ hi => ?_, fun G ω H s w _ => ?_, fun G ω H i x H' z s w _ hz y => ?_⟩
  · rw [len] at hi
    exact ⟨u1, u2, u1[i]'(by omega), u2[i]'(by omega), sqk w (seqO_at s e1), sqk w (seqO_at s e2), List.getElem?_eq_getElem _, List.getElem?_eq_getElem _⟩
  · exact ⟨u1, u2, sqk w (seqO_at s e1), sqk w (seqO_at s e2), by omega, by omega⟩
  · obtain ⟨T, x1, x2, rfl, free, rfl, q1, q2⟩ := y
    obtain ⟨z1, z2⟩ := zip_get hz
    have g1 := q1 u1 (sqk w (seqO_at s e1))
    have g2 := q2 u2 (sqk w (seqO_at s e2))
    obtain ⟨v1, ev1, r1⟩ := Paired.at_ h1 z1
    obtain ⟨v2, ev2, r2⟩ := Paired.at_ h2 z2
    rw [ev1] at g1
    rw [ev2] at g2
    cases g1
    cases g2
    obtain ⟨w2, s2⟩ := w.new (o := .tup [x1, x2]) free
    exact ⟨_, s2, w2, T, x1, x2, rfl, upd_same, Rp.mono (s.trans s2) r1, Rp.mono (s.trans s2) r2⟩
/-- three of one length -/
def zip3 : List α → List β → List γ → List (T3 α β γ)
  | x :: xs, y :: ys, z :: zs => ⟨x, y, z⟩ :: zip3 xs ys zs
  | _, _, _ => []
theorem zip3_len : ∀ {xs : List α} {ys : List β} {zs : List γ}, xs.length = ys.length → ys.length = zs.length → (zip3 xs ys zs).length = xs.length
  | [], [], [], _, _ => rfl
  | x :: xs, y :: ys, z :: zs, h1, h2 => by
    show (zip3 xs ys zs).length + 1 = xs.length + 1
    rw [zip3_len (Nat.succ.inj h1) (Nat.succ.inj h2)]
theorem zip3_get : ∀ {xs : List α} {ys : List β} {zs : List γ} {i : Nat} {t : T3 α β γ}, (zip3 xs ys zs)[i]? = some t → xs[i]? = some t.a ∧ ys[i]? = some t.b ∧ zs[i]? = some t.c
  | x :: xs, y :: ys, z :: zs, 0, t, h => by
    cases h
    exact ⟨rfl, rfl, rfl⟩
  | x :: xs, y :: ys, z :: zs, i + 1, t, h => by
    have := zip3_get (xs := xs) (ys := ys) (zs := zs) (i := i) (t := t) h
    exact this
  | [], _, _, _, _, h => by cases h
  | _ :: _, [], _, _, _, h => by cases h
  | _ :: _, _ :: _, [], _, _, h => by cases h
theorem walk_zip3 {G0 : Hp} {t1 t2 t3 : Bool} {a1 a2 a3 : Addr} {u1 u2 u3 : List V} {xs : List α} {ys : List β} {zs : List γ} (e1 : G0 a1 = some (seqO t1 u1)) (e2 : G0 a2 = some (seqO t2 u2)) (e3 : G0 a3 = some (seqO t3 u3)) (h1 : All K G0 u1 xs) (h2 : All K G0 u2 ys) (h3 : All K G0 u3 zs) (l1 : xs.length ≤ sizeLine) (le : xs.length = ys.length) (le2 : ys.length = zs.length) : WalkX K G0 Any (Itz3 K t1 a1 t2 a2 t3 a3) (zip3 xs ys zs) := by
  have len := zip3_len le le2
  have n1 := Paired.len h1
  have n2 := Paired.len h2
  have n3 := Paired.len h3
  refine ⟨by rw [len]; exact l1, fun G ω H i s w _ hi => ?_, fun G ω H s w _ => ?_, fun G ω H i x H' z s w _ hz y => ?_⟩
  · rw [len] at hi
    exact ⟨u1, u2, u3, u1[i]'(by omega), u2[i]'(by omega), u3[i]'(by omega), sqk w (seqO_at s e1), sqk w (seqO_at s e2), sqk w (seqO_at s e3), List.getElem?_eq_getElem _, List.getElem?_eq_getElem _, List.getElem?_eq_getElem _⟩
  · exact ⟨u1, u2, u3, sqk w (seqO_at s e1), sqk w (seqO_at s e2), sqk w (seqO_at s e3), by omega, by omega, by omega⟩
  · obtain ⟨T, x1, x2, x3, rfl, free, rfl, q1, q2, q3⟩ := y
    obtain ⟨z1, z2, z3⟩ := zip3_get hz
    have g1 := q1 u1 (sqk w (seqO_at s e1))
    have g2 := q2 u2 (sqk w (seqO_at s e2))
    have g3 := q3 u3 (sqk w (seqO_at s e3))
    obtain ⟨v1, ev1, r1⟩ := Paired.at_ h1 z1
    obtain ⟨v2, ev2, r2⟩ := Paired.at_ h2 z2
    obtain ⟨v3, ev3, r3⟩ := Paired.at_ h3 z3
    rw [ev1] at g1
    rw [ev2] at g2
    rw [ev3] at g3
    cases g1
    cases g2
    cases g3
    obtain ⟨w2, s2⟩ := w.new (o := .tup [x1, x2, x3]) free
    exact ⟨_, s2, w2, T, x1, x2, x3, rfl, upd_same, Rp.mono (s.trans s2) r1, Rp.mono (s.trans s2) r2, Rp.mono (s.trans s2) r3⟩
def zipE (xs : List α) (ys : List β) : Option (List (α × β)) := if xs.length = ys.length then some (xs.zip ys) else none
def zipE3 (xs : List α) (ys : List β) (zs : List γ) : Option (List (T3 α β γ)) := if xs.length = ys.length ∧ ys.length = zs.length then some (zip3 xs ys zs) else none
variable {Γ : Gm} {ω ω1 : List Ent} {m1 m2 m3 : MP} {tA tk : TA} {xs : List α} {ys : List β} {zs : List γ}
theorem PArgs.three {G : Hp} {vs : List V} {a b c : MP} (h : PArgs G vs [a, b, c]) : ∃ x y z, vs = [x, y, z] ∧ a.p G x ∧ b.p G y ∧ c.p G z := by
  cases h with
  | cons h1 t =>
    cases t with
    | cons h2 t =>
      cases t with
      | cons h3 t =>
        cases t
        exact ⟨_, _, _, rfl, h1, h2, h3⟩
theorem IterX.zip2 {zs : List (α × β)} (h : EvA tA Γ ω ω1 [m1, m2]) (hk : EvA tk Γ ω1 ω1 [is K true]) (s1 : SqM K m1 xs) (s2 : SqM K m2 ys) (e : zipE xs ys = some zs) : IterX K (iZip2 K tA tk) Γ ω ω1 Any zs := fun σ G H R r w q => h σ G H _ r w fun vs G1 H1 le1 w1 p1 => hk σ G1 H1 _ (r.mono le1) w1 fun ks G2 H2 le2 w2 p2 => by
  obtain ⟨k, rfl, pk⟩ := PArgs.one p2
  cases pk
  obtain ⟨x, y, rfl, px, py⟩ := PArgs.two p1
  obtain ⟨t1, a1, u1, rfl, e1, h1, l1⟩ := s1 G2 x (m1.mono le2 px)
  obtain ⟨t2, a2, u2, rfl, e2, h2, l2⟩ := s2 G2 y (m2.mono le2 py)
  unfold zipE at e
  split at e
  · rename_i c
    cases e
    exact ⟨rfl, t1, a1, u1, t2, a2, u2, rfl, sqk w2 e1, sqk w2 e2, q _ G2 H2 (le1.trans le2) w2 (walk_zip2 e1 e2 h1 h2 l1 c)⟩
  · cases e
theorem IterX.zin2 {zs : List (α × β)} (h : EvA tA Γ ω ω1 [m1, m2]) (s1 : SqM K m1 xs) (s2 : SqM K m2 ys) (e : zipE xs ys = some zs) : IterX K (iZin2 K tA) Γ ω ω1 Any zs := fun σ G H R r w q => h σ G H _ r w fun vs G1 H1 le1 w1 p1 => by
  obtain ⟨x, y, rfl, px, py⟩ := PArgs.two p1
  obtain ⟨t1, a1, u1, rfl, e1, h1, l1⟩ := s1 G1 x px
  obtain ⟨t2, a2, u2, rfl, e2, h2, l2⟩ := s2 G1 y py
  unfold zipE at e
  split at e
  · rename_i c
    cases e
    exact ⟨t1, a1, u1, t2, a2, u2, rfl, sqk w1 e1, sqk w1 e2, q _ G1 H1 le1 w1 (walk_zip2 e1 e2 h1 h2 l1 c)⟩
  · cases e
theorem IterX.zip3 {ts : List (T3 α β γ)} (h : EvA tA Γ ω ω1 [m1, m2, m3]) (hk : EvA tk Γ ω1 ω1 [is K true]) (s1 : SqM K m1 xs) (s2 : SqM K m2 ys) (s3 : SqM K m3 zs) (e : zipE3 xs ys zs = some ts) : IterX K (iZip3 K tA tk) Γ ω ω1 Any ts := fun σ G H R r w q => h σ G H _ r w fun vs G1 H1 le1 w1 p1 => hk σ G1 H1 _ (r.mono le1) w1 fun ks G2 H2 le2 w2 p2 => by
  obtain ⟨k, rfl, pk⟩ := PArgs.one p2
  cases pk
  obtain ⟨x, y, z, rfl, px, py, pz⟩ := PArgs.three p1
  obtain ⟨t1, a1, u1, rfl, e1, h1, l1⟩ := s1 G2 x (m1.mono le2 px)
  obtain ⟨t2, a2, u2, rfl, e2, h2, l2⟩ := s2 G2 y (m2.mono le2 py)
  obtain ⟨t3, a3, u3, rfl, e3, h3, l3⟩ := s3 G2 z (m3.mono le2 pz)
  unfold zipE3 at e
  split at e
  · rename_i c
    cases e
    exact ⟨rfl, t1, a1, u1, t2, a2, u2, t3, a3, u3, rfl, sqk w2 e1, sqk w2 e2, sqk w2 e3, q _ G2 H2 (le1.trans le2) w2 (walk_zip3 e1 e2 e3 h1 h2 h3 l1 c.1 c.2)⟩
  · cases e
theorem TgX.triple {g1 g2 g3 : TG} {Γ1 : α → Gm} {Γ2 : α → β → Gm} {Γ3 : α → β → γ → Gm} (h1 : TgX (α := α) K g1 Γ Γ1) (h2 : ∀ a, TgX (α := β) K g2 (Γ1 a) (Γ2 a)) (h3 : ∀ a b, TgX (α := γ) K g3 (Γ2 a b) (Γ3 a b)) : TgX (α := T3 α β γ) K (gTup K 3 (gCons g1 (gCons g2 (gCons g3 gNil)))) Γ fun t => Γ3 t.a t.b t.c := fun t σ G H ω v Q r w p q => by
  obtain ⟨a, x, y, z, rfl, e, p1, p2, p3⟩ := p
  exact ⟨a, [x, y, z], rfl, RC.st_of (w.tup e), rfl, x, [y, z], rfl, h1 t.a σ G H ω x _ r w p1 fun σ1 r1 => ⟨y, [z], rfl, h2 t.a t.b σ1 G H ω y _ r1 w p2 fun σ2 r2 => ⟨z, [], rfl, h3 t.a t.b t.c σ2 G H ω z _ r2 w p3 fun σ3 r3 => ⟨rfl, q σ3 r3⟩⟩⟩⟩
end
end Lf
/-! ## Readings told by plain data: comprehensions of two clauses; targets of three -/
namespace Lf
open PySem PySem.Spec PyProof.Rows L2
open PySem.W (Frag)
/-- the items, turn by turn -/
def lcO {α β δ : Type} (inner : α → Option (List β)) (fb : α → β → Option (Option δ)) : List α → Option (List δ)
  | [] => some []
  | x :: xs => match inner x with
    | none => none
    | some ys => match mapO (fb x) ys with
      | none => none
      | some zs => match lcO inner fb xs with
        | none => none
        | some r => some (zs ++ r)
/-- .. if they are not too many -/
def lcB {α β δ : Type} (inner : α → Option (List β)) (fb : α → β → Option (Option δ)) (xs : List α) : Option (List δ) := match lcO inner fb xs with
  | some r => if r.length ≤ sizeLine then some r else none
  | none => none
section
variable {K : Frag} {Γ : Gm} {ω : List Ent} {tt1 : TT} {te : TE} {α β γ δ : Type} [Rp α] [Rp β] [Rp γ] [Rp δ]
theorem EvF.lc2 {wi wi1 : TI} {g g1 : TG} {vs vs1 : List Nat} {P P1 : List Ent → Prop} {xs : List α} {ys : List δ} {inner : α → Option (List β)} {fb : α → β → Option (Option δ)} {Γb : α → Gm} {Γc : α → β → Gm}
    (hi : IterX K wi Γ ω ω P xs) (hP : P ω) (hP' : ∀ p φ, P ω → P (.own p φ :: ω)) (ht : TgW K g vs (wipeG Γ vs) Γb) (h : lcB inner fb xs = some ys)
    (hi1 : ∀ a bs p φ, inner a = some bs → IterX K wi1 (Γb a) (.own p φ :: ω) (.own p φ :: ω) P1 bs) (hP1 : ∀ p φ, P1 (.own p φ :: ω)) (ht1 : ∀ a, TgW K g1 vs1 (wipeG (Γb a) vs1) (Γc a))
    (hb : ∀ a b o p φ, fb a b = some o → Elt K tt1 te (Γc a b) (.own p φ :: ω) o) : EvF (tLc2 wi g tYes wi1 g1 tt1 te vs vs1) Γ ω ω (olst K ys) := fun σ G H Q rp w q => hi σ G H _ rp w fun J G2 H2 s2 w2 wk D hD => by
  have hl := wk.len
  have hy : lcO inner fb xs = some ys ∧ ys.length ≤ sizeLine := by
    unfold lcB at h
    split at h
    · rename_i r e
      split at h
      · rename_i c
        cases h
        exact ⟨e, c⟩
      · cases h
    · cases h
  obtain ⟨hy, ly⟩ := hy
  refine ⟨fun i m H' => m = xs.length - i ∧ i ≤ xs.length ∧ ∃ acc G' ys', Le G2 G' ∧ At G' (.own D (olst K acc) :: ω) H' ∧ lcO inner fb (xs.drop i) = some ys' ∧ acc ++ ys' = ys, ⟨xs.length, by simp, Nat.zero_le _, [], G2, ys, Le.refl _, newL w2 hD .nil (Nat.zero_le _), hy, rfl⟩, ?_⟩
  rintro i m H' ⟨rfl, hle, acc, G', ys', sG, w', ef, ea⟩
  by_cases hlt : i < xs.length
  · have hx : xs[i]? = some xs[i] := List.getElem?_eq_getElem hlt
    rw [List.drop_eq_getElem_cons hlt] at ef
    have ef' : (match inner xs[i] with
      | none => none
      | some ys => match mapO (fb xs[i]) ys with
        | none => none
        | some zs => match lcO inner fb (xs.drop (i + 1)) with
          | none => none
          | some r => some (zs ++ r)) = some ys' := ef
    split at ef'
    · cases ef'
    rename_i bs eb
    split at ef'
    · cases ef'
    rename_i zs ez
    split at ef'
    · cases ef'
    rename_i r er
    cases ef'
    refine .inr ⟨wk.go G' _ H' i sG w' (hP' _ _ hP) hlt, fun H3 => ∃ acc G3 ys', Le G2 G3 ∧ At G3 (.own D (olst K acc) :: ω) H3 ∧ lcO inner fb (xs.drop (i + 1)) = some ys' ∧ acc ++ ys' = ys, fun H3 q => ⟨xs.length - (i + 1), by omega, rfl, hlt, q⟩, fun x H3 y => ?_⟩
    obtain ⟨G3, s3, w3, px⟩ := wk.yld G' _ H' i x H3 _ sG w' (hP' _ _ hP) hx y
    have rw0 := (rp.mono (s2.trans (sG.trans s3))).wipe vs
    refine ht _ _ G3 H3 _ x _ rw0 w3 px fun σ4 l4 k4 r4 => ⟨?_, ?_⟩
    · refine (wipe_eq l4 k4).trans (wipe_eq (by rw [wipe_length]) fun i hi => ?_)
      rw [wipe_get, if_neg hi]
    · unfold tYes
      dsimp only
      rw [if_pos rfl]
      refine hi1 xs[i] bs D (olst K acc) eb σ4 G3 H3 _ r4 w3 fun J1 G4 H4 s4 w4 wk1 => ?_
      refine ⟨fun j k H' => k = bs.length - j ∧ j ≤ bs.length ∧ ∃ acc1 G' zs', Le G4 G' ∧ At G' (.own D (olst K acc1) :: ω) H' ∧ mapO (fb xs[i]) (bs.drop j) = some zs' ∧ acc1 ++ (zs' ++ r) = ys, ⟨bs.length, by simp, Nat.zero_le _, acc, G4, zs, Le.refl _, w4, ez, ea⟩, ?_⟩
      rintro j k H5 ⟨rfl, hle1, acc1, G5, zs', sG5, w5, ez', ea'⟩
      by_cases hlt1 : j < bs.length
      · have hxb : bs[j]? = some bs[j] := List.getElem?_eq_getElem hlt1
        rw [mapO_drop hxb] at ez'
        refine .inr ⟨wk1.go G5 _ H5 j sG5 w5 (hP1 _ _) hlt1, fun H' => ∃ acc1 G' zs', Le G4 G' ∧ At G' (.own D (olst K acc1) :: ω) H' ∧ mapO (fb xs[i]) (bs.drop (j + 1)) = some zs' ∧ acc1 ++ (zs' ++ r) = ys, fun H' q => ⟨bs.length - (j + 1), by omega, rfl, hlt1, q⟩, fun x1 H6 y1 => ?_⟩
        obtain ⟨G6, s6, w6, px1⟩ := wk1.yld G5 _ H5 j x1 H6 _ sG5 w5 (hP1 _ _) hxb y1
        have rw1 := (r4.mono (s4.trans (sG5.trans s6))).wipe vs1
        refine ht1 _ _ _ G6 H6 _ x1 _ rw1 w6 px1 fun σ7 l7 k7 r7 => ⟨?_, ?_⟩
        · refine (wipe_eq l7 k7).trans (wipe_eq (by rw [wipe_length]) fun i hi => ?_)
          rw [wipe_get, if_neg hi]
        · cases ho : fb xs[i] bs[j] with
          | none =>
            rw [ho] at ez'
            cases ez'
          | some o =>
            rw [ho] at ez'
            obtain ⟨c, hc, h1, h2⟩ := hb _ _ o D (olst K acc1) ho
            refine hc σ7 G6 H6 _ r7 w6 fun G7 H7 s7 w7 => ?_
            cases c with
            | false =>
              have e := h1 rfl
              subst e
              exact RC.if_f rfl ⟨acc1, G7, zs', sG5.trans (s6.trans s7), w7, ez', ea'⟩
            | true =>
              obtain ⟨z, e, hz⟩ := h2 rfl
              subst e
              have ez2 : (match mapO (fb xs[i]) (bs.drop (j + 1)) with | none => none | some ys => some (z :: ys)) = some zs' := ez'
              split at ez2
              · cases ez2
              · rename_i zs2 e2
                cases ez2
                refine RC.if_t rfl (hz σ7 G7 H7 _ (r7.mono s7) w7 fun v G8 H8 s8 w8 p8 => ?_)
                obtain ⟨o, eo, us, rfl, hu, _⟩ := w8.ownAt (k := 0) rfl
                have lu := Paired.len hu
                have la : acc1.length < sizeLine := by
                  have : (acc1 ++ (z :: zs2 ++ r)).length ≤ sizeLine := by rw [ea']; exact ly
                  rw [List.length_append, List.length_append, List.length_cons] at this
                  omega
                refine ⟨us, eo, by rw [lu]; exact la, acc1 ++ [z], G8, zs2, sG5.trans (s6.trans (s7.trans s8)), ?_, e2, by rw [List.append_assoc]; exact ea'⟩
                exact w8.put (k := 0) (φ' := olst K (acc1 ++ [z])) rfl ⟨_, rfl, Paired.app' hu (.cons p8 .nil), by rw [List.length_append]; show acc1.length + 1 ≤ _; omega⟩
      · have e : j = bs.length := by omega
        subst e
        rw [List.drop_length] at ez'
        cases ez'
        exact .inl ⟨wk1.stop G5 _ H5 sG5 w5 (hP1 _ _), acc1, G5, r, sG.trans (s3.trans (s4.trans sG5)), w5, er, ea'⟩
  · have e : i = xs.length := by omega
    subst e
    rw [List.drop_length] at ef
    cases ef
    rw [List.append_nil] at ea
    subst ea
    exact .inl ⟨wk.stop G' _ H' sG w' (hP' _ _ hP), q D G' H' (s2.trans sG) w'⟩
theorem TgW.triple {g1 g2 g3 : TG} {vs : List Nat} {Γ1 : α → Gm} {Γ2 : α → β → Gm} {Γ3 : α → β → γ → Gm} (h1 : TgW (α := α) K g1 vs Γ Γ1) (h2 : ∀ a, TgW (α := β) K g2 vs (Γ1 a) (Γ2 a)) (h3 : ∀ a b, TgW (α := γ) K g3 vs (Γ2 a b) (Γ3 a b)) : TgW (α := T3 α β γ) K (gTup K 3 (gCons g1 (gCons g2 (gCons g3 gNil)))) vs Γ fun t => Γ3 t.a t.b t.c := fun t σ G H ω v Q r w p q => by
  obtain ⟨a, x, y, z, rfl, e, p1, p2, p3⟩ := p
  exact ⟨a, [x, y, z], rfl, RC.st_of (w.tup e), rfl, x, [y, z], rfl, h1 t.a σ G H ω x _ r w p1 fun σ1 l1 k1 r1 => ⟨y, [z], rfl, h2 t.a t.b σ1 G H ω y _ r1 w p2 fun σ2 l2 k2 r2 => ⟨z, [], rfl, h3 t.a t.b t.c σ2 G H ω z _ r2 w p3 fun σ3 l3 k3 r3 => ⟨rfl, q σ3 (l3.trans (l2.trans l1)) (fun i hi => (k3 i hi).trans ((k2 i hi).trans (k1 i hi))) r3⟩⟩⟩⟩
end
end Lf
/-! ## A counter's memo: made, filled, read -/
namespace Lf
open PySem PySem.Spec PyProof.Rows L2
open PySem.W (Frag)
open He (ga)
instance : Rp Mm := ⟨fun _ H v m => ∃ a b, v = .ref a ∧ H a = some (memo m b), fun s ⟨a, _, e, h⟩ => let ⟨b', _, h'⟩ := s.memo h; ⟨a, b', e, h'⟩⟩
def memoD (d : Addr) (m : Mm) : HO := .dK [(.inr "rows", .ref d), (.inr "first", .int m.f)]
section
variable {K : Frag} {W : WX} {ωe : List Ent} {X : Type} {Γ : Gm} {ω ω1 ω2 : List Ent} {Z : ZF K W ωe X} {t u : TS} {te : TE} {mc : MP} {m : Mm} {G H : Hp} {p a : Addr}
/-- an empty dict of one's own is a memo from here on -/
theorem At.memo {α κ : Type} [Kp κ] [Rp α] (w : At G (.own p (odic K (Dic.mk [] : Dic κ α)) :: ω) H) (m : Mm) : At (upd G p (Lf.memo m false)) ω H ∧ Le G (upd G p (Lf.memo m false)) := by
  obtain ⟨np, o, e, kvs, rfl, q, _⟩ := w.own 0 p _ rfl
  cases q
  have s : Le G (upd G p (Lf.memo m false)) := Le.new np
  have d := w.drop
  refine ⟨⟨fun b v eb => ?_, fun i r ψ hi => ?_, d.nd⟩, s⟩
  · by_cases z : b = p
    · subst z
      rw [upd_same] at eb
      cases eb
      exact ⟨m, false, rfl, .inl ⟨rfl, e⟩⟩
    · rw [upd_ne z] at eb
      exact (d.sh b v eb).mono s
  · obtain ⟨x, o, b, c⟩ := d.own i r ψ hi
    have z : r ≠ p := fun z => by
      have := w.nd (i + 1) 0 _ _ hi rfl z
      omega
    exact ⟨by rw [upd_ne z]; exact x, o, b, ψ.mono s c⟩
theorem EvX.memo {α κ : Type} [Kp κ] [Rp α] (m : Mm) (h : EvF te Γ ω ω1 (odic K (Dic.mk [] : Dic κ α))) : EvX te Γ ω ω1 (is K m) := fun σ G H Q r w q => h σ G H Q r w fun p G2 H2 s w2 => by
  obtain ⟨w3, s3⟩ := w2.memo m
  exact q _ _ _ (s.trans s3) w3 ⟨p, false, rfl, upd_same⟩
/-- what is known as a counter with this memo at a place; the same, its memo filled -/
def HasMemo (K : Frag) (mc : MP) (m : Mm) (a : Addr) : Prop := ∀ G v, mc.p G v → ∃ p dx fs b, v = .ref p ∧ G p = some (.ins (ga K "Counter") dx fs) ∧ fs.lookup ("found" : Str) = some (.ref a) ∧ G a = some (memo m b)
def filled (K : Frag) (m : Mm) (a : Addr) : MP := ⟨fun G v => ∃ p dx fs, v = .ref p ∧ G p = some (.ins (ga K "Counter") dx fs) ∧ fs.lookup ("found" : Str) = some (.ref a) ∧ G a = some (memo m true), fun s ⟨p, dx, fs, e, h, l, g⟩ => let ⟨_, hb, g'⟩ := s.memo g; ⟨p, dx, fs, e, s.at h, l, by rw [g', hb rfl]⟩⟩
/-- what a memo holds, told with its being filled -/
def isF (K : Frag) (m : Mm) (a : Addr) : MP := ⟨fun G v => Rp.rep K G v m.D ∧ G a = some (memo m true), fun s ⟨r, g⟩ => let ⟨_, hb, g'⟩ := s.memo g; ⟨Rp.mono s r, by rw [g', hb rfl]⟩⟩
/-- it is filled: so it is known -/
theorem At.fill {b : Bool} {d : Addr} (w : At G ω H) (e : G a = some (Lf.memo m b)) (h : H a = some (memoD d m)) (r : ∀ K : Frag, Rp.rep K G (.ref d) m.D) : At (upd G a (Lf.memo m true)) ω H ∧ Le G (upd G a (Lf.memo m true)) := by
  have s : Le G (upd G a (Lf.memo m true)) := fun c o ec => by
    by_cases z : c = a
    · subst z
      rw [e] at ec
      cases ec
      cases b
      · exact .inr ⟨_, .inr (.inl ⟨m, rfl, rfl⟩), upd_same⟩
      · exact .inl upd_same
    · exact .inl (by rw [upd_ne z]; exact ec)
  refine ⟨⟨fun c o ec => ?_, fun i q φ hi => ?_, w.nd⟩, s⟩
  · by_cases z : c = a
    · subst z
      rw [upd_same] at ec
      cases ec
      exact ⟨m, true, rfl, .inr ⟨d, h, fun K => Rp.mono s (r K)⟩⟩
    · rw [upd_ne z] at ec
      exact (w.sh c o ec).mono s
  · obtain ⟨x, o, y, c⟩ := w.own i q φ hi
    have z : q ≠ a := fun z => by
      rw [z, e] at x
      cases x
    exact ⟨by rw [upd_ne z]; exact x, o, y, φ.mono s c⟩
/-- the memo's dict is another one: it is filled now -/
theorem At.refill {b : Bool} {d : Addr} (w : At G ω H) (e : G a = some (Lf.memo m b)) (r : ∀ K : Frag, Rp.rep K G (.ref d) m.D) : At (upd G a (Lf.memo m true)) ω (upd H a (memoD d m)) ∧ Le G (upd G a (Lf.memo m true)) := by
  have w2 : At G ω (upd H a (memoD d m)) := ⟨fun c o ec => by
    by_cases z : c = a
    · subst z
      rw [e] at ec
      cases ec
      exact ⟨m, b, rfl, .inr ⟨d, upd_same, r⟩⟩
    · rw [upd_ne z]
      exact w.sh c o ec, fun i q φ hi => by
    obtain ⟨x, o, y, c⟩ := w.own i q φ hi
    have z : q ≠ a := fun z => by
      rw [z, e] at x
      cases x
    exact ⟨x, o, by rw [upd_ne z]; exact y, c⟩, w.nd⟩
  exact w2.fill e upd_same r
theorem At.memoIs {b : Bool} (w : At G ω H) (e : G a = some (Lf.memo m b)) : (b = false ∧ H a = some (.dK [])) ∨ ∃ d : Addr, H a = some (memoD d m) ∧ ∀ K : Frag, Rp.rep K G (.ref d) m.D := by
  obtain ⟨m', b', e', h⟩ := w.sh a _ e
  obtain ⟨rfl, rfl⟩ := memoL_inj e'
  exact h
/-- the end of the block that fills it: what it made is what it is to hold -/
def zM (K : Frag) (W : WX) (ωe : List Ent) (m : Mm) (fn : Gm × List Ent) : ZF K W ωe Mm where
  z x D G := x = .ok m ∧ NxPost D G fn
  mono s h := ⟨h.1, h.2.mono s⟩
  nobad h := by cases h.1
  err h := by cases h.1
theorem set_ref {σ : L2.St} {i : Nat} {v : V} (e : σ[i]? = some (some v)) : σ.set i (some v) = σ := by
  refine List.ext_getElem? fun j => ?_
  by_cases z : i = j
  · subst z
    rw [e, List.getElem?_set_self (List.getElem?_eq_some_iff.mp e).1]
  · rw [List.getElem?_set_ne z]
theorem Go.memoIf {i : Nat} {bm : Res Mm} {x : Res X} (cl : Cls K (ga K "Counter")) (na : NoAttr K (ga K "Counter") "found") (hm : HasMemo K mc m a) (hi : Γ[i]? = some (some mc)) (eb : bm = .ok m) (h1 : Go t Γ ω (zM K W ωe m (Γ.set i (some (filled K m a)), ω)) bm) (h2 : Go u (Γ.set i (some (filled K m a))) ω Z x) :
    Go (tSeq (tIfS (tTest (tDNotIn (tC (.str "rows")) (tFld K (tVar i) "found"))) t tNext) u) Γ ω Z x := fun σ G H D rp w z => by
  obtain ⟨v, ev, pv⟩ := rp.2 i _ hi
  obtain ⟨p, dx, fs, b, rfl, hp, hl, ha⟩ := hm G v pv
  rcases w.memoIs ha with ⟨rfl, hd⟩ | ⟨d, hd, r⟩
  · refine ⟨.ref p, ev, p, _, dx, fs, .ref a, rfl, w.get hp, cl, na, hl, a, none, rfl, .inl ⟨[], .inr "rows", .inl hd, rfl, rfl⟩, true, rfl, ?_⟩
    dsimp only
    rw [if_pos rfl]
    exact h1 σ G H _ rp w ⟨eb, fun σ2 G2 H2 s2 r2 w2 => h2 σ2 G2 H2 D r2 w2 (Z.mono s2 z)⟩
  · refine ⟨.ref p, ev, p, _, dx, fs, .ref a, rfl, w.get hp, cl, na, hl, a, some (.ref d), rfl, .inl ⟨_, .inr "rows", .inl hd, rfl, rfl⟩, false, rfl, ?_⟩
    dsimp only
    rw [if_neg (by decide)]
    obtain ⟨w2, s2⟩ := w.fill ha hd r
    have pf : (filled K m a).p (upd G a (Lf.memo m true)) (.ref p) := ⟨p, dx, fs, rfl, s2.at hp, hl, upd_same⟩
    have r2 := (rp.mono s2).set (i := i) pf
    rw [set_ref ev] at r2
    exact h2 σ _ H D r2 w2 (Z.mono s2 z)
theorem Go.memoEnd {i j s : Nat} {d : Dic Int (Int × Tu Int)} {sums : List Int} {y : Int} (cl : Cls K (ga K "Counter")) (na : NoAttr K (ga K "Counter") "found") (hm : HasMemo K mc m a) (hi : Γ[i]? = some (some mc)) (hj : Γ[j]? = some (some (is K d))) (hs : Γ[s]? = some (some (is K sums))) (e : atI sums 0 = some y) {fn : Gm × List Ent} (sub : Sub (Γ.set i (some (filled K m a))) fn.1) (dr : Dr ω fn.2) :
    Go (tSeq (sDPut (tFld K (tVar i) "found") (tC (.str "rows")) (tVar j)) (tSeq (sDPut (tFld K (tVar i) "found") (tC (.str "first")) (tOp (rIxL K) (tVar s) (tC (.int 0)))) tNext)) Γ ω (zM K W ωe m fn) (.ok ⟨d, y⟩) := fun σ G H D rp w z => by
  obtain ⟨z1, z2⟩ := z
  cases z1
  obtain ⟨v, ev, pv⟩ := rp.2 i _ hi
  obtain ⟨p, dx, fs, b, rfl, hp, hl, ha⟩ := hm G v pv
  obtain ⟨vd, evd, ad, kvs, rfl, rd, al, ld⟩ := rp.2 j _ hj
  obtain ⟨vs, evs, as_, us, rfl, hus, au, lu⟩ := rp.2 s _ hs
  have rD : ∀ K : Frag, Rp.rep K G (.ref ad) d := fun K' => ⟨ad, kvs, rfl, rd, Paired.mono' (fun _ _ r => r) al, ld⟩
  have np : p ≠ a := fun q => by
    rw [q, ha] at hp
    cases hp
  have ns : as_ ≠ a := fun q => by
    rw [q, ha] at hus
    cases hus
  obtain ⟨kv0, hk0, put1⟩ : ∃ kv0, H a = some (.dK kv0) ∧ (kv0 = [] ∨ ∃ d0, kv0 = [(.inr "rows", .ref d0), (.inr "first", .int y)]) := by
    rcases w.memoIs ha with ⟨_, hd⟩ | ⟨d0, hd, _⟩
    · exact ⟨[], hd, .inl rfl⟩
    · exact ⟨_, hd, .inr ⟨d0, rfl⟩⟩
  have len0 : kv0.length < sizeLine := by
    rcases put1 with rfl | ⟨d0, rfl⟩
    · show 0 < sizeLine
      decide
    · show 2 < sizeLine
      decide
  refine ⟨.ref ad, evd, .ref p, ev, p, _, dx, fs, .ref a, rfl, w.get hp, cl, na, hl, a, _, rfl, .inl ⟨kv0, .inr "rows", hk0, rfl, len0, rfl⟩, ?_⟩
  obtain ⟨v0, ev0, pv0⟩ := All.atI au e
  refine ⟨.ref as_, evs, as_, us, 0, v0, rfl, rfl, RC.sq_of (by rw [upd_ne ns]; exact w.lst hus), ev0, .ref p, ev, p, _, dx, fs, .ref a, rfl, by rw [upd_ne np]; exact w.get hp, cl, na, hl, a, _, rfl, .inl ⟨_, .inr "first", upd_same, rfl, ?_, rfl⟩, ?_⟩
  · rcases put1 with rfl | ⟨d0, rfl⟩
    · show 1 < sizeLine
      decide
    · show 2 < sizeLine
      decide
  · have pv0' : v0 = .int y := pv0
    subst pv0'
    have eh : upd (upd H a (.dK (putK kv0 (.inr "rows") (.ref ad)))) a (.dK (putK (putK kv0 (.inr "rows") (.ref ad)) (.inr "first") (.int y))) = upd H a (memoD ad ⟨d, y⟩) := by
      funext c
      by_cases q : c = a
      · subst q
        rw [upd_same, upd_same]
        rcases put1 with rfl | ⟨d0, rfl⟩
        · rfl
        · rfl
      · rw [upd_ne q, upd_ne q, upd_ne q]
    rw [eh]
    obtain ⟨w2, s2⟩ := w.refill (d := ad) ha rD
    have pf : (filled K ⟨d, y⟩ a).p (upd G a (Lf.memo ⟨d, y⟩ true)) (.ref p) := ⟨p, dx, fs, rfl, s2.at hp, hl, upd_same⟩
    have r2 := (rp.mono s2).set (i := i) pf
    rw [set_ref ev] at r2
    exact z2 σ _ _ s2 (r2.sub sub) (dr.at w2)
/-- the memo read -/
theorem EvX.memoRows {i : Nat} (cl : Cls K (ga K "Counter")) (na : NoAttr K (ga K "Counter") "found") (hi : Γ[i]? = some (some (filled K m a))) : EvX (tDGet (tFld K (tVar i) "found") (tC (.str "rows"))) Γ ω ω (isF K m a) := fun σ G H Q rp w q => by
  obtain ⟨v, ev, p, dx, fs, rfl, hp, hl, ha⟩ := rp.2 i _ hi
  rcases w.memoIs ha with ⟨z, _⟩ | ⟨d, hd, r⟩
  · cases z
  · exact ⟨.ref p, ev, p, _, dx, fs, .ref a, rfl, w.get hp, cl, na, hl, a, .ref d, rfl, .inl ⟨_, .inr "rows", .inl hd, rfl, rfl⟩, q _ G H (Le.refl _) w ⟨r K, ha⟩⟩
theorem EvX.memoFirst {i : Nat} (cl : Cls K (ga K "Counter")) (na : NoAttr K (ga K "Counter") "found") (hi : Γ[i]? = some (some (filled K m a))) : EvX (tDGet (tFld K (tVar i) "found") (tC (.str "first"))) Γ ω ω (is K m.f) := fun σ G H Q rp w q => by
  obtain ⟨v, ev, p, dx, fs, rfl, hp, hl, ha⟩ := rp.2 i _ hi
  rcases w.memoIs ha with ⟨z, _⟩ | ⟨d, hd, r⟩
  · cases z
  · exact ⟨.ref p, ev, p, _, dx, fs, .ref a, rfl, w.get hp, cl, na, hl, a, .int m.f, rfl, .inl ⟨_, .inr "first", .inl hd, rfl, rfl⟩, q _ G H (Le.refl _) w rfl⟩
/-- something is known there: it may be named from here on -/
theorem Go.open_ {i : Nat} {A : Type} {f : A → MP} {x : Res X} (hi : Γ[i]? = some (some mc)) (imp : ∀ G v, mc.p G v → ∃ y, (f y).p G v) (k : ∀ y, Go u (Γ.set i (some (f y))) ω Z x) : Go u Γ ω Z x := fun σ G H D rp w z => by
  obtain ⟨v, ev, pv⟩ := rp.2 i _ hi
  obtain ⟨y, py⟩ := imp G v pv
  have r2 := rp.set (i := i) py
  rw [set_ref ev] at r2
  exact k y σ G H D r2 w z
/-- what two names tell together -/
theorem Go.tell2 {i j : Nat} {mj mi' mj' : MP} {x : Res X} (hi : Γ[i]? = some (some mc)) (hj : Γ[j]? = some (some mj)) (imp : ∀ G v v', mc.p G v → mj.p G v' → mi'.p G v ∧ mj'.p G v') (k : Go u ((Γ.set i (some mi')).set j (some mj')) ω Z x) : Go u Γ ω Z x := fun σ G H D rp w z => by
  obtain ⟨v, ev, pv⟩ := rp.2 i _ hi
  obtain ⟨v', ev', pv'⟩ := rp.2 j _ hj
  obtain ⟨q1, q2⟩ := imp G v v' pv pv'
  have r2 := (rp.set (i := i) q1).set (i := j) q2
  rw [set_ref ev, set_ref ev'] at r2
  exact k σ G H D r2 w z
theorem IterX.eq {α : Type} [Rp α] {wi : TI} {P : List Ent → Prop} {xs ys : List α} (h : IterX K wi Γ ω ω1 P xs) (e : xs = ys) : IterX K wi Γ ω ω1 P ys := e ▸ h
end
end Lf
namespace Zs
open PySem PySem.W
theorem tm0 {prog : Program} {w : World} {A : Around} {E : Value → Shared → Prop} {Q : PySem.Fin → Shared → Prop} (l : Addr) (items : Array Value) (n : Nat) (dd : Option Addr) (sl : Array (Option Value)) (u : Tok) (hp : Heap) (g : Array GenState) (d : Drawn) (tk : Nat) (os : OsState) (hl : hp.get? l = some { cls := Value.type "tuple", dict := dd, data := Data.seq items n, slots := sl }) (ni : items.isEmpty = false)
   (hq : Q (Fin.done (Flow.ret (Value.ref hp.objs.size))) { heap := hp.push { cls := Value.type "tuple", data := Data.seq #[] }, gens := g, drawn := d, toks := tk, os := os }) :
   wpAny (model prog w) A (Builtin.«tuple.__mul__» { pos := [Value.ref l, Value.int 0 u] }) Q E { heap := hp, gens := g, drawn := d, toks := tk, os := os } := by
  refine (wpAny_bind (wpAny_bind (wpAny_pure (wpAny_pure ((wpAny_bind (wpAny_bind (wpAny_seqItems hl rfl (wpAny_pure (wpAny_ite_false (show decide ((items.isEmpty || (0 : Int) == 1) = true) = false by rw [ni]; rfl) (wpAny_ite_true (show decide ((decide ((0 : Int) ≤ 0) || items.isEmpty) = true) = true by rfl) (wpAny_bind ?_))))))))))))
  exact wpAny_newObj_type (wpAny_pure hq)
theorem tm1 {prog : Program} {w : World} {A : Around} {E : Value → Shared → Prop} {Q : PySem.Fin → Shared → Prop} (l : Addr) (items : Array Value) (n : Nat) (dd : Option Addr) (sl : Array (Option Value)) (u : Tok) (hp : Heap) (g : Array GenState) (d : Drawn) (tk : Nat) (os : OsState) (hl : hp.get? l = some { cls := Value.type "tuple", dict := dd, data := Data.seq items n, slots := sl })
   (hq : Q (Fin.done (Flow.ret (Value.ref l))) { heap := hp, gens := g, drawn := d, toks := tk, os := os }) :
   wpAny (model prog w) A (Builtin.«tuple.__mul__» { pos := [Value.ref l, Value.int 1 u] }) Q E { heap := hp, gens := g, drawn := d, toks := tk, os := os } := by
  refine (wpAny_bind (wpAny_bind (wpAny_pure (wpAny_pure ((wpAny_bind (wpAny_bind (wpAny_seqItems hl rfl (wpAny_pure (wpAny_ite_true (show decide ((items.isEmpty || (1 : Int) == 1) = true) = true by rw [show ((1 : Int) == 1) = true from rfl, Bool.or_true]; rfl) (wpAny_bind ?_)))))))))))
  refine wpAny_bind (wpAny_typeOf ⟨_, hl, rfl⟩ (wpAny_pure ?_))
  refine wpAny_ite_true rfl (wpAny_bind (wpAny_rule (wpAny_pure hq)))
theorem mul0 (l : Addr) (items : Array Value) (n : Nat) (dd : Option Addr) (sl : Array (Option Value)) (u : Tok) (ni : items.isEmpty = false) :
    Meets (Builtin.«tuple.__mul__» ⟨[.ref l, .int 0 u], []⟩) (fun _ R s => s.heap.get? l = some { cls := .type "tuple", dict := dd, data := .seq items n, slots := sl } ∧ R (.ok (.ret (Value.ref s.heap.objs.size))) { s with heap := s.heap.push { cls := Value.type "tuple", data := Data.seq #[] } }) :=
  .of_wp fun prog w A R s h => by
    obtain ⟨hp, g, d, tk, os⟩ := s
    exact tm0 l items n dd sl u hp g d tk os h.1 ni ⟨_, rfl, h.2⟩
theorem mul1 (l : Addr) (items : Array Value) (n : Nat) (dd : Option Addr) (sl : Array (Option Value)) (u : Tok) :
    Meets (Builtin.«tuple.__mul__» ⟨[.ref l, .int 1 u], []⟩) (fun _ R s => s.heap.get? l = some { cls := .type "tuple", dict := dd, data := .seq items n, slots := sl } ∧ R (.ok (.ret (Value.ref l))) s) :=
  .of_wp fun prog w A R s h => by
    obtain ⟨hp, g, d, tk, os⟩ := s
    exact tm1 l items n dd sl u hp g d tk os h.1 ⟨_, rfl, h.2⟩
end Zs
namespace RC
open PySem PySem.Spec PyProof.Rows L2
open PySem.W (Frag)
/-- a tuple of some items, so many times: none, once (the same one), more -/
def rTimes (K : Frag) : R2 := fun x y H Q => ∃ (l : Addr) (k : Int) (xs : List V), x = .ref l ∧ y = .int k ∧ SqT K H l xs ∧ xs ≠ [] ∧ 0 ≤ k ∧ k ≤ 1000 ∧ xs.length ≤ 1000 ∧
  (k = 1 → Q (.ref l) H) ∧ (k ≠ 1 → ∀ p, H p = none → Q (.ref p) (upd H p (.tup (List.replicate k.toNat xs).flatten)))
theorem op_times {X : Cx} : OpR X (binaryOp .Mult) (rTimes X.K) := by
  intro pins s σ H x y v u Q I rx ry ⟨l, k, xs, ex, ey, ht, some_, low, high, long, same, new⟩
  by_cases two : 2 ≤ k
  · exact op_repT pins s σ H x y v u Q I rx ry ⟨l, k, xs, ex, ey, ht, some_, two, high, long, new (by omega)⟩
  subst ex ey
  cases rx
  obtain ⟨tok, rfl⟩ := ry
  obtain ⟨its, rv, ⟨⟨c, dict, data, sl⟩, at_, hc, n, hd⟩, _⟩ := I.tuple ht
  dsimp only at hc hd
  subst hc hd
  have ne : its.toArray.isEmpty = false := by
    cases its with
    | nil => exact absurd (List.eq_nil_of_length_eq_zero rv.length) some_
    | cons _ _ => rfl
  have inner : ∀ {R : Value → Shared → Prop}, wpAny (model X.prog X.w) X.A (call (.builtin "tuple.__mul__") [.ref l, .int k tok]) R X.xe s → wpAny (model X.prog X.w) X.A (binaryOp .Mult (.ref l) (.int k tok)) R X.xe s := fun h =>
    wpAny_binaryOp_repeat_ref (T := "tuple") (U := "int") (by decide) ⟨_, at_, rfl⟩ (fun t => typeIs_int t k tok) noFill_tuple_mul F.fills_int_mul F.slot_int_rmul repeat_tuple F.slot_int_index.lookup
      (call_meets F.slot_int_rmul (typeIs_int s k tok) F.entry_int_rmul (F.args_int_rmul_2 _ _) (int_rmul_tuple k tok l its.toArray n dict sl) ⟨at_, rfl, ⟨_, at_, rfl⟩, h⟩)
  rcases (by omega : k = 0 ∨ k = 1) with rfl | rfl
  · refine inner (call_meets F.slot_tuple_mul ⟨_, at_, rfl⟩ F.entry_tuple_mul (F.args_tuple_mul_2 _ _) (Zs.mul0 l its.toArray n dict sl tok ne) ⟨at_, ?_⟩)
    exact ⟨.ref s.heap.objs.size, _, I.laid (t' := s.toks) (o := .tup []) (fun _ _ e => Heap.get?_push_of_some _ e) (Nat.le_refl _) ⟨Nat.zero_le _, [], .nil, IsTup.new _ _⟩, rfl, new (by decide) _ (I.hok.fresh (Nat.le_refl _))⟩
  · refine inner (call_meets F.slot_tuple_mul ⟨_, at_, rfl⟩ F.entry_tuple_mul (F.args_tuple_mul_2 _ _) (Zs.mul1 l its.toArray n dict sl tok) ⟨at_, ?_⟩)
    exact ⟨.ref l, H, I, rfl, same rfl⟩
end RC
/-! ## set(xs) of a list of tuples of ints that has few members -/
namespace SetT
open PySem PySem.Spec PyProof.Rows L2 SetL
/-- members enough are never met -/
def Few (ks : List (Addr × List Int)) : Prop := ∀ as : List (List Int), as.Nodup → (∀ x ∈ as, x ∈ ks.map (·.2)) → as.length + 1 < 64
section
variable {P : Program} {w : World} {A : Around} {E : Value → Shared → Prop} {s : Shared}
/-- the members so far, one more item -/
theorem grown {ks L L' : List (Addr × List Int)} {i : Nat} {p : Addr × List Int} (g : Got ks i L) (hp : ks[i]? = some p) (c1 : p.2 ∈ L.map (·.2) → L' = L) (c2 : p.2 ∉ L.map (·.2) → L'.Perm ((p.1, p.2) :: L)) : Got ks (i + 1) L' := by
  by_cases c : p.2 ∈ L.map (·.2)
  · rw [c1 c]
    exact g.same hp c
  · exact g.more hp (c2 c)
/-- the update from the i-th item on -/
theorem onward {it S : Addr} {fp wr : List Addr} {gr : Array GenState → Array GenState → Prop} {n : Nat} {item : Nat → Value → Prop} {st : Nat → Shared → Prop} {R : Result → Shared → Prop}
    (walk : WalksS P w A.in1 it fp wr gr n item st) (apart : S ∉ fp) {ks : List (Addr × List Int)} (size : ks.length = n) (few : Few ks) (each : ∀ i v, item i v → ∃ p, ks[i]? = some p ∧ v = .ref p.1)
    {h0 : Heap} (tups : ∀ p ∈ ks, IsT P w h0 p.2 p.1) (noS : h0.get? S = none) (noW : ∀ b ∈ wr, h0.get? b = none) (hu : A.in1.units < cLine) (left : Nat) :
    ∀ (i : Nat) (s : Shared), i + left = n → st i s → (∀ b o, h0.get? b = some o → s.heap.get? b = some o) → (∃ L es ep tb, SetTR P w s.heap S L es ep tb ∧ Got ks i L) →
      (∀ t L es ep tb, Moved (S :: wr) gr s t → SetTR P w t.heap S L es ep tb → Got ks n L → R (.ok (.ret .none)) t) → codeAny (model P w) A (.builtin "set.update.loop" ⟨[.ref S, .ref it], []⟩) R s := by
  have other : S ∉ wr := fun m => apart (walk.sub _ m)
  have wider : ∀ a ∈ wr, a ∈ S :: wr := fun a m => .tail _ m
  have old1 : ∀ {s t : Shared}, Moved wr gr s t → (∀ b o, h0.get? b = some o → s.heap.get? b = some o) → ∀ b o, h0.get? b = some o → t.heap.get? b = some o := fun mv stay b o e =>
    mv.heap b o (fun m => by rw [noW b m] at e; cases e) (stay b o e)
  induction left with
  | zero =>
    rintro i s full here stay ⟨L, es, ep, tb, set, g⟩ done
    obtain rfl : i = n := by omega
    apply codeAny_builtin F.entry_set_update_loop
    rw [Around.under_plainId F.plain_set_update_loop _]
    refine wpAny_bind (m := pyNext (.ref it)) (walk.done s _ _ here fun t mv => wpAny_pure ?_)
    exact done t L es ep tb (mv.mono wider) (set.keep (fun o e => mv.heap S o other e) fun q hq => isT_keep (tups q (List.mem_of_mem_take (g.sub q hq))) (old1 mv stay)) g
  | succ left more =>
    rintro i s part here stay ⟨L, es, ep, tb, set, g⟩ done
    apply codeAny_builtin F.entry_set_update_loop
    rw [Around.under_plainId F.plain_set_update_loop _]
    refine wpAny_bind (m := pyNext (.ref it)) (walk.item i s _ _ (by omega) here fun v t isItem next mv => ?_)
    obtain ⟨p, hp, rfl⟩ := each i v isItem
    have stay1 := old1 mv stay
    have isP : IsT P w t.heap p.2 p.1 := isT_keep (tups p (List.mem_of_getElem? hp)) stay1
    have set1 := set.keep (fun o e => mv.heap S o other e : ∀ o, s.heap.get? S = some o → t.heap.get? S = some o) fun q hq => isT_keep (tups q (List.mem_of_mem_take (g.sub q hq))) stay1
    have room : L.length + 1 < 64 := by
      have := few (L.map (·.2)) set.nd fun x hx => by
        obtain ⟨q, hq, rfl⟩ := List.mem_map.mp hx
        exact List.mem_map.mpr ⟨q, List.mem_of_mem_take (g.sub q hq), rfl⟩
      rwa [List.length_map] at this
    refine wpAny_bind (m := holding [Value.ref p.1] (setAdd S (.ref p.1))) (wpAny_holding ?_)
    unfold setAdd
    apply wpAny_holding
    apply wpAny_bind
    refine wpAny_pyHash_tuple hu isP (add_at (s := { t with toks := t.toks + (p.2.length + 1) }) set1 isP hu room fun b f L' es' ep' tb' same set2 c1 c2 => wpAny_pure ⟨plainId_quiet F.plain_set_update_loop _, ?_⟩)
    have old : ∀ a o, a ≠ S → t.heap.get? a = some o → f.get? a = some o := fun a o ne e => by
      rw [same.2 a ne]
      exact e
    refine more (i + 1) _ (by omega) (walk.frame _ t _ _ next (Nat.le_add_right _ _) fun a m o e => old a o (fun z => apart (z ▸ m)) e) (fun b o e => old b o (fun z => by rw [z, noS] at e; cases e) (stay1 b o e)) ⟨L', es', ep', tb', set2, grown g hp c1 c2⟩ fun u L2 es2 ep2 tb2 mv2 last g2 => ?_
    exact done u L2 es2 ep2 tb2 (Moved.trans walk.gtrans ((mv.mono wider).then_heap (Nat.le_add_right _ _) fun a o no e => old a o (fun z => no (z ▸ .head _)) e) mv2) last g2
set_option maxRecDepth 100000 in
set_option maxHeartbeats 3200000 in
/-- what set(l) leaves: the members are those of the list -/
theorem made {l : Addr} {xs : Array Value} {ks : List (Addr × List Int)} {Q : Value → Shared → Prop} (calm : A.handled = none) (hl : s.heap.IsList l xs) (hi : xs.toList = ks.map fun p => Value.ref p.1) (tups : ∀ p ∈ ks, IsT P w s.heap p.2 p.1) (few : Few ks) (hu : A.units + 3 < cLine)
    (q : ∀ (g : Heap) (tk : Nat) L es ep tb, SetTR P w g s.heap.objs.size L es ep tb → Got ks ks.length L → (∀ b o, s.heap.get? b = some o → g.get? b = some o) → Q (.ref s.heap.objs.size) { s with heap := g, toks := tk }) :
    wpAny (model P w) A (call (.type "set") [.ref l]) Q E s := by
  have size : xs.size = ks.length := by
    have := congrArg List.length hi
    rwa [Array.length_toList, List.length_map] at this
  obtain ⟨_, _, m1⟩ := F.called_set.mro
  have m2 := F.called_set.made
  have m3 := F.called_set.sub
  have m4 := F.called_set.notType
  have m5 := F.called_set.canCreate
  have m6 := F.typeCall_set_1 (.ref l)
  have m7 := F.called_set.init.lookup
  refine wpAny_call (codeAny_of_tree ?_)
  show wpAny (model P w) _ (callAny (.type "set") ⟨[.ref l], []⟩) _ _ s
  refine wpAny_pure ⟨Code.quiet_builtin _ (by decide +kernel), codeAny_builtin F.entry_type_call ?_⟩
  rw [Around.under_plain (weight_type_call_type "set" [.ref l] []) rfl]
  repeat any_goals first | wp_step | assumption
  refine codeAny_mono (code_set_led1 (.ref l) (E := E) (Q₁ := fun v t => v = .ref s.heap.objs.size ∧ t = { s with heap := s.heap.push (bare w) }) ⟨rfl, rfl⟩) fun r t hr => ?_
  match r, hr with
  | .error _, hr => exact hr
  | .ok (.ret _), ⟨e1, e2⟩ =>
    subst e1 e2
    have at0 : (s.heap.push (bare w)).get? s.heap.objs.size = some (bare w) := Heap.get?_push_size _ rfl
    have ty0 : Shared.TypeIs { s with heap := s.heap.push (bare w) } (.ref s.heap.objs.size) "set" := ⟨_, at0, rfl⟩
    have m8 := F.called_set.init.bind (.ref s.heap.objs.size)
    repeat any_goals first | wp_step | assumption
    refine codeAny_mono (codeAny_call_builtin (R := wants (fun v t => v = .none ∧ ∃ g tk L es ep tb, t = { s with heap := g, toks := tk } ∧ SetTR P w g s.heap.objs.size L es ep tb ∧ Got ks ks.length L ∧ ∀ b o, s.heap.get? b = some o → g.get? b = some o) E) F.called_set.init.plain F.entry_set_init (check_set_init_1 ty0 ?_)) fun r t hr => ?_
    · obtain ⟨⟨cls0, dict0, dat0, sl0⟩, at1, c1, n1, d1⟩ := hl
      dsimp only at c1 d1
      subst c1 d1
      have at2 : (s.heap.push (bare w)).get? l = some { cls := .type "list", dict := dict0, data := .seq xs n1, slots := sl0 } := Heap.get?_push_of_some _ at1
      have is2 : (s.heap.push (bare w)).IsList l xs := ⟨_, at2, rfl, n1, rfl⟩
      have s1 := F.sub_list_set
      have s2 := F.sub_list_frozenset
      have s3 : ((Value.type "list") == (Value.type "dict")) = false := by decide
      have apart := old_ne (u := bare w) at1
      unfold Builtin.«set.__init__» noKeywords Builtin.Frozenset.updateFrom
      generalize pi : pyIter = it
      wp_walk
      subst pi
      refine wpAny_pyIter_list is2 (wpAny_bind (wpAny_runValue ?_))
      have ne1 : l ≠ (s.heap.push (bare w)).objs.size := fun z => apart (by rw [z]; simp)
      have ne0 : s.heap.objs.size ∉ [(s.heap.push (bare w)).objs.size, l] := fun z => by
        rcases List.mem_cons.mp z with z | z
        · rw [Heap.size_push] at z
          exact absurd z (Nat.ne_of_lt (Nat.lt_succ_self _))
        · exact apart (by rw [← List.mem_singleton.mp z]; simp)
      have each : ∀ (i : Nat) (v : Value), xs[i]? = some v → ∃ p, ks[i]? = some p ∧ v = .ref p.1 := fun i v hv => by
        have hv' : xs.toList[i]? = some v := by rw [Array.getElem?_toList]; exact hv
        rw [hi, List.getElem?_map] at hv'
        obtain ⟨p, hp, e⟩ := Option.map_eq_some_iff.mp hv'
        exact ⟨p, hp, e.symm⟩
      have calm3 : A.in1.in1.in1.handled = none := by simp [calm]
      have gone : ∀ b : Addr, s.heap.objs.size ≤ b → s.heap.get? b = none := fun b h => by
        cases e : s.heap.get? b with
        | none => rfl
        | some o => exact absurd (Heap.lt_size e) (Nat.not_lt.mpr h)
      refine onward ((Walks.list calm3 _ l ne1 xs).toS) ne0 size.symm few each tups (gone _ (Nat.le_refl _)) (fun b hb => gone b ?_) (by simp; omega) xs.size 0 _ (Nat.zero_add _) ⟨⟨_, Heap.get?_push_size _ rfl, rfl, rfl⟩, is2.push _⟩ (fun b o e => Heap.get?_push_of_some _ (Heap.get?_push_of_some _ e)) ⟨[], _, _, _, setTR_fresh (Heap.get?_push_of_some _ at0), Got.zero _⟩ fun t L es ep tb mv hs g => ?_
      · rw [List.mem_singleton.mp hb, Heap.size_push]
        omega
      obtain ⟨g', gs, dr, tk, os⟩ := t
      obtain rfl : gs = s.gens := mv.gens
      obtain rfl : dr = s.drawn := mv.drawn
      obtain rfl : os = s.os := mv.os
      refine wpAny_pure (wpAny_pure ⟨rfl, g', tk, L, es, ep, tb, rfl, hs, size ▸ g, fun b o e => mv.heap b o (old_ne e) (Heap.get?_push_of_some _ (Heap.get?_push_of_some _ e))⟩)
    · match r, hr with
      | .error _, hr => exact hr
      | .ok (.ret _), ⟨e1, g, tk, L, es, ep, tb, e2, hs, gt, old⟩ =>
        subst e1 e2
        repeat any_goals first | wp_step | assumption
        exact q g tk L es ep tb hs gt old
end
/-- set(xs), some tuples of ints; sorted(xs) -/
def rSetT (K : PySem.W.Frag) (P : Program) (w : World) : List V → Hp → VK → Prop := fun vs H Q => ∃ (l : Addr) (ks : List (Addr × List Int)), vs = [V.ref l] ∧ SqL K H l (ks.map fun p => V.ref p.1) ∧ (∀ p ∈ ks, SqT K H p.1 (p.2.map V.int)) ∧ Few ks ∧
  ∀ a L, H a = none → (∀ p ∈ L, p ∈ ks) → (∀ p ∈ ks, p.2 ∈ L.map (·.2)) → Q (.ref a) (upd H a (SetTO P w a L))
theorem cr_setT {X : Cx} (hc : X.calm = true) (hu : X.A.units + 65 < cLine) : CallR X (.type "set") (rSetT X.K X.prog X.w) := by
  intro pins s σ H vs us Q I r ⟨l, ks, e, hs, tups, few, q⟩
  subst e
  obtain ⟨its, rv, hl, _⟩ := I.list hs
  rw [Vals.ref1 r]
  refine made (P := X.prog) (w := X.w) (I.ok.hd hc) hl.isList (by simpa using refs_of_vals rv) (fun p hp => I.isT (tups p hp)) few (by omega) fun g tk L es ep tb R got old => ?_
  exact ⟨.ref s.heap.objs.size, upd H s.heap.objs.size (SetTO X.prog X.w s.heap.objs.size L), I.laid (t' := tk) old (Nat.le_refl _) (setTO_new R.t0), rfl, q _ L (I.hok.fresh (Nat.le_refl _)) (fun p hp => List.mem_of_mem_take (got.sub p hp)) fun p hp => got.all p (by rw [List.take_length]; exact hp)⟩
def rSortedTup (K : PySem.W.Frag) : List V → Hp → VK → Prop := fun vs H Q => ∃ (d : Nat) (B : Int), 1 ≤ d ∧ rSortU K d B vs H Q
theorem cr_sortedTup {X : Cx} : CallR X (.builtin "sorted") (rSortedTup X.K) := fun pins s σ H vs us Q I r ⟨_, _, hd, h⟩ => cr_sortT hd pins s σ H vs us Q I r h
end SetT
namespace SetT
open PySem L2
def rSortedSet (K : PySem.W.Frag) (P : Program) (w : World) : List V → Hp → VK → Prop := rSortedT K P w
theorem cr_sortedSet {X : Cx} (hc : X.calm = true) : CallR X (.builtin "sorted") (rSortedSet X.K X.prog X.w) := cr_sortedT hc
end SetT
/-! ## Readings told by plain data: tuples with stars, times; lists popped; sorted tuples, sets of them -/
namespace Lf
open PySem PySem.Spec PyProof.Rows L2
open PySem.W (Frag)
/-! ### displays with stars -/
def EvS {α : Type} [Rp α] (K : Frag) (ta : TA) (Γ : Gm) (ω ω' : List Ent) (xs : List α) : Prop := ∀ (σ : L2.St) (G H : Hp) (Q : List V → Hp → Prop), Reps G σ Γ → At G ω H → (∀ vs G2 H2, Le G G2 → At G2 ω' H2 → All K G2 vs xs → Q vs H2) → ta σ H Q
def tupO {α : Type} (xs : List α) : Option (Tu α) := if xs.length ≤ sizeLine then some ⟨xs⟩ else none
section
variable {K : Frag} {Γ : Gm} {ω ω1 ω2 ω3 : List Ent} {ta tb te : TE} {tr : TA} {α β γ : Type} [Rp α] [Rp β] [Rp γ]
theorem EvS.nil : EvS (α := α) K tNil Γ ω ω [] := fun σ G H Q r w q => q [] G H (Le.refl _) w .nil
theorem EvS.cons {x : α} {xs : List α} (h : EvX te Γ ω ω1 (is K x)) (hr : EvS K tr Γ ω1 ω2 xs) : EvS K (tCons te tr) Γ ω ω2 (x :: xs) := fun σ G H Q r w q =>
  h σ G H _ r w fun v G1 H1 s1 w1 p1 => hr σ G1 H1 _ (r.mono s1) w1 fun vs G2 H2 s2 w2 p2 => q (v :: vs) G2 H2 (s1.trans s2) w2 (.cons (Rp.mono s2 p1) p2)
theorem EvS.starT {xs : Tu α} {ys : List α} (h : EvX te Γ ω ω1 (is K xs)) (hr : EvS K tr Γ ω1 ω2 ys) : EvS K (StX.tStar K te tr) Γ ω ω2 (xs.l ++ ys) := fun σ G H Q r w q =>
  h σ G H _ r w fun v G1 H1 s1 w1 p1 => by
    obtain ⟨a, us, rfl, ea, ha, l⟩ := p1
    exact ⟨a, us, rfl, .inl (RC.st_of (w1.tup ea)), hr σ G1 H1 _ (r.mono s1) w1 fun vs G2 H2 s2 w2 p2 => q (us ++ vs) G2 H2 (s1.trans s2) w2 (Paired.app' (All.mono s2 ha) p2)⟩
theorem EvS.starL {xs ys : List α} (h : EvX te Γ ω ω1 (is K xs)) (hr : EvS K tr Γ ω1 ω2 ys) : EvS K (StX.tStar K te tr) Γ ω ω2 (xs ++ ys) := fun σ G H Q r w q =>
  h σ G H _ r w fun v G1 H1 s1 w1 p1 => by
    obtain ⟨a, us, rfl, ea, ha, l⟩ := p1
    exact ⟨a, us, rfl, .inr (RC.sq_of (w1.lst ea)), hr σ G1 H1 _ (r.mono s1) w1 fun vs G2 H2 s2 w2 p2 => q (us ++ vs) G2 H2 (s1.trans s2) w2 (Paired.app' (All.mono s2 ha) p2)⟩
theorem EvX.tupS {xs : List α} {t : Tu α} (h : EvS K tr Γ ω ω1 xs) (e : tupO xs = some t) : EvX (tTup tr) Γ ω ω1 (is K t) := fun σ G H Q r w q => h σ G H _ r w fun vs G1 H1 s1 w1 p1 => by
  unfold tupO at e
  split at e
  · rename_i c
    cases e
    refine ⟨by rw [Paired.len p1]; exact c, fun p hp => ?_⟩
    obtain ⟨w2, s2⟩ := w1.new (o := .tup vs) hp
    exact q _ _ _ (s1.trans s2) w2 ⟨p, vs, rfl, upd_same, All.mono s2 p1, c⟩
  · cases e
/-! ### a tuple so many times -/
def times (xs : List α) (k : Int) : Option (List α) := if xs ≠ [] ∧ 0 ≤ k ∧ k ≤ 1000 ∧ xs.length ≤ 1000 then some (List.replicate k.toNat xs).flatten else none
theorem OpX.times {xs : Tu α} {zs : List α} {k : Int} (e : Lf.times xs.l k = some zs) : OpX (RC.rTimes K) ω ω (is K xs) (is K k) (is K (Tu.mk zs)) := fun G H u v Q w p1 p2 q => by
  classical
  obtain ⟨a, us, rfl, ea, ha, _⟩ := p1
  cases p2
  unfold Lf.times at e
  split at e
  · rename_i c
    cases e
    obtain ⟨c1, c2, c3, c4⟩ := c
    have n := Paired.len ha
    have size : (List.replicate k.toNat xs.l).flatten.length ≤ sizeLine := by
      rw [flat_len, sizeLine_eq]
      have := Nat.mul_le_mul c4 (show k.toNat ≤ 1000 by omega)
      omega
    refine ⟨a, k, us, rfl, rfl, RC.st_of (w.tup ea), fun z => c1 (by rw [z] at n; exact List.eq_nil_of_length_eq_zero n.symm), c2, c3, by rw [n]; exact c4, fun z => ?_, fun _ p hp => ?_⟩
    · subst z
      refine q _ G H (Le.refl _) w ⟨a, us, rfl, ea, ?_, size⟩
      show All K G us (List.replicate 1 xs.l).flatten
      rw [show (List.replicate 1 xs.l).flatten = xs.l by simp]
      exact ha
    · obtain ⟨w2, s2⟩ := w.new (o := .tup (List.replicate k.toNat us).flatten) hp
      exact q _ _ _ s2 w2 ⟨p, _, rfl, upd_same, Paired.flat (All.mono s2 ha) _, size⟩
  · cases e
/-! ### the script's items -/
theorem OpX.ixS {xs : Sc} {i : Int} {x : Int} (e : atI xs.l i = some x) : OpX (rIxL K) ω ω (is K xs) (is K i) (is K x) := fun G H u v Q w p1 p2 q => by
  obtain ⟨a, rfl, ea⟩ := p1
  cases p2
  have e' : SqL K H a (xs.l.map V.int) := by
    rcases ea with (z | ⟨o, z⟩) | z
    · exact .inl (.inl (w.lst z))
    · exact .inl (.inr ⟨o, w.get z⟩)
    · exact .inr z
  have ev : L2.atI (xs.l.map V.int) i = some (.int x) := by
    unfold L2.atI at e ⊢
    rw [List.length_map]
    cases z : ixN xs.l.length i with
    | none =>
      rw [z] at e
      cases e
    | some j =>
      rw [z] at e
      show (xs.l.map V.int)[j]? = _
      rw [List.getElem?_map, show xs.l[j]? = some x from e]
      rfl
  exact ⟨a, _, i, .int x, rfl, rfl, e', ev, q _ G H (Le.refl _) w rfl⟩
/-! ### xs.pop(0) -/
def pop0 : List α → Option (α × List α)
  | [] => none
  | x :: xs => if xs.length < 2 ^ 62 then some (x, xs) else none
theorem EvX.pop0 {xs : List α} {r : α × List α} {k : Nat} {p : Addr} (ht : EvX te Γ ω ω1 (adr p)) (ho : ω1[k]? = some (Ent.own p (olst K xs))) (e : Lf.pop0 xs = some r) : EvX (tBM K "list" rPopAt te (tCons (tC (.int 0)) tNil)) Γ ω (ω1.set k (.own p (olst K r.2))) (is K r.1) := fun σ G H Q rp w q => ht σ G H _ rp w fun v G1 H1 s1 w1 p1 => by
  cases p1
  obtain ⟨o, eo, us, rfl, hu, l⟩ := w1.ownAt ho
  refine ⟨RC.ty_l eo, ?_⟩
  cases hu with
  | nil => cases e
  | @cons v x us xs h t =>
    have e' : (if xs.length < 2 ^ 62 then some (x, xs) else none) = some r := e
    by_cases c : xs.length < 2 ^ 62
    · rw [if_pos c] at e'
      cases e'
      refine ⟨p, v :: us, 0, 0, v, rfl, rfl, eo, by decide, by decide, by simp [seqIndex?], rfl, ?_⟩
      exact q v G1 _ s1 (w1.put ho ⟨us, rfl, t, Nat.le_of_succ_le l⟩) h
    · rw [if_neg c] at e'
      cases e'
/-! ### tuples of ints in order -/
def tCode (t : Tu Int) : Int := TS.code 64 t.l
def insT (x : Tu Int) : List (Tu Int) → List (Tu Int)
  | [] => [x]
  | y :: ys => if tCode x ≤ tCode y then x :: y :: ys else y :: insT x ys
def sortT (l : List (Tu Int)) : List (Tu Int) := l.foldr insT []
theorem insT_perm (x : Tu Int) : ∀ l : List (Tu Int), (insT x l).Perm (x :: l)
  | [] => .refl _
  | y :: ys => by
    unfold insT
    split
    · exact .refl _
    · exact ((insT_perm x ys).cons y).trans (.swap x y ys)
def leT (x y : Tu Int) : Prop := tCode x ≤ tCode y
theorem insT_inc (x : Tu Int) : ∀ {l : List (Tu Int)}, l.Pairwise leT → (insT x l).Pairwise leT
  | [], _ => by simp [insT]
  | y :: ys, h => by
    have h1 := (List.pairwise_cons.mp h).1
    have h2 := (List.pairwise_cons.mp h).2
    unfold insT
    split
    · rename_i c
      refine List.pairwise_cons.mpr ⟨fun z hz => ?_, h⟩
      rcases List.mem_cons.mp hz with e | e
      · rw [e]
        exact c
      · exact Int.le_trans c (h1 z e)
    · rename_i c
      refine List.pairwise_cons.mpr ⟨fun z hz => ?_, insT_inc x h2⟩
      rcases List.mem_cons.mp ((insT_perm x ys).mem_iff.mp hz) with e | e
      · rw [e]
        exact Int.le_of_lt (Int.not_le.mp c)
      · exact h1 z e
theorem sortT_perm : ∀ l : List (Tu Int), (sortT l).Perm l
  | [] => .refl _
  | x :: l => (insT_perm x _).trans ((sortT_perm l).cons x)
theorem sortT_inc : ∀ l : List (Tu Int), (sortT l).Pairwise leT
  | [] => .nil
  | x :: l => insT_inc x (sortT_inc l)
/-- tuples of one length, of small items -/
def AlikeT (d : Nat) (xs : List (Tu Int)) : Prop := ∀ t ∈ xs, t.l.length = d ∧ TS.Bd 64 t.l
theorem code_inj : ∀ {ns ms : List Int}, ns.length = ms.length → TS.Bd 64 ns → TS.Bd 64 ms → TS.code 64 ns = TS.code 64 ms → ns = ms
  | [], [], _, _, _, _ => rfl
  | [], _ :: _, h, _, _, _ => by cases h
  | _ :: _, [], h, _, _, _ => by cases h
  | x :: ns, y :: ms, h, b1, b2, e => by
    have l : ns.length = ms.length := Nat.succ.inj h
    rcases Int.lt_trichotomy x y with c | c | c
    · exact absurd e (Int.ne_of_lt (TS.code_lt l b1.tail b2.tail c))
    · subst c
      rw [code_inj l b1.tail b2.tail ?_]
      have e' : x * 64 ^ ns.length + TS.code 64 ns = x * 64 ^ ms.length + TS.code 64 ms := e
      rw [l] at e'
      exact Int.add_left_cancel e'
    · exact absurd e.symm (Int.ne_of_lt (TS.code_lt l.symm b2.tail b1.tail c))
theorem leT_eq {d : Nat} {xs ys : List (Tu Int)} (a : AlikeT d xs) (h1 : xs.Pairwise leT) (h2 : ys.Pairwise leT) (p : xs.Perm ys) : xs = ys := List.Perm.eq_of_pairwise (fun x y mx my le1 le2 => by
  obtain ⟨l1, b1⟩ := a x mx
  obtain ⟨l2, b2⟩ := a y (p.mem_iff.mpr my)
  cases x
  cases y
  exact congrArg Tu.mk (code_inj (l1.trans l2.symm) b1 b2 (Int.le_antisymm le1 le2))) h1 h2 p
instance (d : Nat) (xs : List (Tu Int)) : Decidable (AlikeT d xs) := inferInstanceAs (Decidable (∀ t ∈ xs, t.l.length = d ∧ ∀ m, m ∈ t.l → 0 ≤ m ∧ m < 64))
def deep1 : List (Tu Int) → Nat
  | [] => 1
  | x :: _ => x.l.length
/-- sorted(xs) -/
def sortTO (xs : List (Tu Int)) : Option (List (Tu Int)) := if xs.length < 64 ∧ 1 ≤ deep1 xs ∧ AlikeT (deep1 xs) xs then some (sortT xs) else none
/-- the ints of a tuple at a place -/
def intsAt (H : Hp) : V → Tu Int
  | .ref t => match H t with
    | some (.tup vs) => ⟨vs.map fun v => match v with | .int i => i | _ => 0⟩
    | _ => ⟨[]⟩
  | _ => ⟨[]⟩
theorem back_ints : ∀ ns : List Int, (ns.map V.int).map (fun v => match v with | .int i => i | _ => 0) = ns
  | [] => rfl
  | n :: ns => by
    rw [List.map_cons, List.map_cons, back_ints ns]
theorem intsAt_of {G H : Hp} {v : V} {x : Tu Int} (w : At G ω H) (h : Rp.rep K G v x) : TupI K H v x.l ∧ intsAt H v = x := by
  obtain ⟨t, us, rfl, e, h, _⟩ := h
  rw [ints_of h] at e
  have e2 := w.get e
  refine ⟨⟨t, rfl, RC.st_of e2⟩, ?_⟩
  unfold intsAt
  dsimp only
  rw [e2]
  dsimp only
  rw [back_ints]
theorem all_at {G H : Hp} (w : At G ω H) : ∀ {us : List V} {xs : List (Tu Int)}, All K G us xs → us.map (intsAt H) = xs
  | _, _, .nil => rfl
  | _, _, .cons r t => by rw [List.map_cons, (intsAt_of w r).2, all_at w t]
theorem each_at {G H : Hp} (w : At G ω H) {us : List V} {xs : List (Tu Int)} (h : All K G us xs) : ∀ u ∈ us, Rp.rep K G u (intsAt H u) ∧ intsAt H u ∈ xs := fun u hu => by
  obtain ⟨i, hi⟩ := List.mem_iff_getElem?.mp hu
  have li : i < xs.length := by
    rw [← Paired.len h]
    exact (List.getElem?_eq_some_iff.mp hi).1
  obtain ⟨v, ev, pv⟩ := Paired.at_ h (List.getElem?_eq_getElem li)
  obtain rfl : v = u := Option.some.inj (ev.symm.trans hi)
  have e := (intsAt_of w pv).2
  rw [e]
  exact ⟨pv, List.getElem_mem li⟩
theorem all_each {G H : Hp} : ∀ {us : List V}, (∀ u ∈ us, Rp.rep K G u (intsAt H u)) → All K G us (us.map (intsAt H))
  | [], _ => .nil
  | _ :: _, h => .cons (h _ List.mem_cons_self) (all_each fun u hu => h u (List.mem_cons_of_mem _ hu))
theorem CaF.sortT {xs ys : List (Tu Int)} (e : sortTO xs = some ys) : CaF (SetT.rSortedTup K) ω ω [is K xs] (olst K ys) := fun G H vs Q wA pa q => by
  obtain ⟨v, rfl, a, us, rfl, ea, ha, l⟩ := PArgs.one pa
  unfold sortTO at e
  split at e
  · rename_i c
    cases e
    obtain ⟨c1, c2, c3⟩ := c
    refine ⟨deep1 xs, 64, c2, a, us, rfl, RC.sq_of (wA.lst ea), by rw [Paired.len ha]; exact c1, fun u hu => ?_, fun zs b pm srt free => ?_⟩
    · obtain ⟨p, m⟩ := each_at wA ha u hu
      exact ⟨_, (intsAt_of wA p).1, c3 _ m⟩
    · have al := all_each (K := K) (G := G) (H := H) fun u hu => (each_at wA ha u (pm.mem_iff.mp hu)).1
      have en : zs.map (intsAt H) = Lf.sortT xs := by
        have p1 : (zs.map (intsAt H)).Perm xs := (pm.map _).trans (List.Perm.of_eq (all_at wA ha))
        refine leT_eq (d := deep1 xs) (fun t ht => c3 t (p1.mem_iff.mp ht)) ?_ (sortT_inc _) (p1.trans (sortT_perm xs).symm)
        rw [List.pairwise_map]
        refine List.Pairwise.imp_of_mem (fun {x y} hx hy h => ?_) srt
        exact h _ _ (intsAt_of wA (each_at wA ha x (pm.mem_iff.mp hx)).1).1 (intsAt_of wA (each_at wA ha y (pm.mem_iff.mp hy)).1).1
      rw [en] at al
      exact q b G _ (Le.refl _) (newL wA free al (by rw [(sortT_perm xs).length_eq]; exact l))
  · cases e
/-! ### sorted(set(xs)) -/
def uniqT : List (Tu Int) → List (Tu Int)
  | [] => []
  | x :: xs => if x ∈ uniqT xs then uniqT xs else x :: uniqT xs
theorem uniqT_mem (t : Tu Int) : ∀ xs : List (Tu Int), t ∈ uniqT xs ↔ t ∈ xs
  | [] => Iff.rfl
  | x :: xs => by
    unfold uniqT
    have ih := uniqT_mem t xs
    split
    · rename_i c
      rw [ih, List.mem_cons]
      refine ⟨.inr, fun h => h.elim (fun e => ?_) id⟩
      subst e
      exact (uniqT_mem t xs).mp c
    · rw [List.mem_cons, List.mem_cons, ih]
theorem uniqT_nodup : ∀ xs : List (Tu Int), (uniqT xs).Nodup
  | [] => List.nodup_nil
  | x :: xs => by
    unfold uniqT
    split
    · exact uniqT_nodup xs
    · rename_i c
      exact List.nodup_cons.mpr ⟨c, uniqT_nodup xs⟩
def setTO (xs : List (Tu Int)) : Option (List (Tu Int)) := if (uniqT xs).length < 63 ∧ 1 ≤ deep1 xs ∧ AlikeT (deep1 xs) xs then some (sortT (uniqT xs)) else none
theorem nodup_leT {α : Type} [DecidableEq α] : ∀ {as bs : List α}, as.Nodup → (∀ x ∈ as, x ∈ bs) → as.length ≤ bs.length
  | [], _, _, _ => Nat.zero_le _
  | x :: as, bs, u, h => by
    obtain ⟨u1, u2⟩ := List.nodup_cons.mp u
    have m := h x List.mem_cons_self
    have le := nodup_leT (as := as) (bs := bs.erase x) u2 fun y hy => (List.mem_erase_of_ne (fun e => u1 (by rw [← e]; exact hy))).mpr (h y (List.mem_cons_of_mem _ hy))
    have l := List.length_erase_of_mem m
    have := List.length_pos_of_mem m
    rw [List.length_cons]
    omega
def adrOf : V → Addr
  | .ref a => a
  | _ => 0
theorem EvF.sortedSetT {w : World} {P : Program} {tA : TA} {xs ys : List (Tu Int)} (h : EvA tA Γ ω ω1 [is K xs]) (e : setTO xs = some ys) : EvF (tCB (SetT.rSortedSet K P w) (tCons (tCB (SetT.rSetT K P w) tA) tNil)) Γ ω ω1 (olst K ys) := fun σ G H Q r wA0 q => h σ G H _ r wA0 fun vs G1 H1 s1 wA pa => by
  obtain ⟨v, rfl, a, us, rfl, ea, ha, l⟩ := PArgs.one pa
  unfold setTO at e
  split at e
  · rename_i c
    cases e
    obtain ⟨c1, c2, c3⟩ := c
    have each := each_at wA ha
    have refs : us = (us.map fun u => (adrOf u, (intsAt H1 u).l)).map fun p => V.ref p.1 := by
      rw [List.map_map]
      refine (List.map_id us).symm.trans (List.map_congr_left fun u hu => ?_)
      obtain ⟨t, us', e1, _⟩ := (each u hu).1
      rw [e1]
      rfl
    have tups : ∀ p ∈ us.map fun u => (adrOf u, (intsAt H1 u).l), SqT K H1 p.1 (p.2.map V.int) ∧ ∃ u ∈ us, V.ref p.1 = u ∧ p.2 = (intsAt H1 u).l := fun p hp => by
      obtain ⟨u, hu, rfl⟩ := List.mem_map.mp hp
      obtain ⟨t, e1, e2⟩ := (intsAt_of wA (each u hu).1).1
      refine ⟨?_, u, hu, ?_, rfl⟩
      · rw [e1]
        rw [e1] at e2
        exact e2
      · rw [e1]
        rfl
    refine ⟨a, us.map fun u => (adrOf u, (intsAt H1 u).l), rfl, by rw [← refs]; exact RC.sq_of (wA.lst ea), fun p hp => (tups p hp).1, fun as nd sub => ?_, fun b L free sub all => ?_⟩
    · have := nodup_leT (as := as.map Tu.mk) (bs := uniqT xs) (by
        unfold List.Nodup
        rw [List.pairwise_map]
        exact nd.imp fun ne e => ne (Tu.mk.inj e)) fun t ht => by
          obtain ⟨n, hn, rfl⟩ := List.mem_map.mp ht
          obtain ⟨p, hp, rfl⟩ := List.mem_map.mp (sub n hn)
          obtain ⟨_, u, hu, _, e2⟩ := tups p hp
          rw [e2, uniqT_mem]
          exact (each u hu).2
      rw [List.length_map] at this
      omega
    · obtain ⟨w2, s2⟩ := wA.new (o := SetTO P w b L) free
      have there : ∀ p ∈ L, ∃ t, Rp.rep K (upd G1 b (SetTO P w b L)) (.ref p.1) (Tu.mk p.2) ∧ t = Tu.mk p.2 ∧ t ∈ xs := fun p hp => by
        obtain ⟨_, u, hu, e1, e2⟩ := tups p (sub p hp)
        refine ⟨_, ?_, rfl, ?_⟩
        · rw [e1, e2]
          exact Rp.mono s2 (each u hu).1
        · rw [e2]
          exact (each u hu).2
      refine ⟨b, L, deep1 xs, 64, rfl, upd_same, fun p hp => ?_, c2, fun p hp => ?_, fun L' d pm nd lt srt free2 => ?_⟩
      · obtain ⟨t, px, rfl, _⟩ := there p hp
        obtain ⟨⟨t', e1, e2⟩, _⟩ := intsAt_of w2 px
        cases e1
        exact e2
      · obtain ⟨t, _, rfl, m⟩ := there p hp
        exact c3 _ m
      · have al : All K (upd G1 b (SetTO P w b L)) (L'.map fun q => V.ref q.1) (L'.map fun q => Tu.mk q.2) := by
          have : ∀ M : List (Addr × List Int), (∀ p ∈ M, p ∈ L') → All K (upd G1 b (SetTO P w b L)) (M.map fun q => V.ref q.1) (M.map fun q => Tu.mk q.2) := fun M => by
            induction M with
            | nil => exact fun _ => .nil
            | cons p M ih => exact fun hM => .cons (let ⟨_, px, _, _⟩ := there p (pm.mem_iff.mp (hM p List.mem_cons_self)); px) (ih fun x hx => hM x (List.mem_cons_of_mem _ hx))
          exact this L' fun _ h => h
        have nd' : (L'.map fun q => Tu.mk q.2).Nodup := by
          have e0 : (L'.map fun q => Tu.mk q.2) = (L'.map (·.2)).map Tu.mk := by rw [List.map_map]; rfl
          rw [e0]
          unfold List.Nodup
          rw [List.pairwise_map]
          exact nd.imp fun ne e => ne (Tu.mk.inj e)
        have mem : ∀ t, t ∈ (L'.map fun q => Tu.mk q.2) ↔ t ∈ xs := fun t => by
          refine ⟨fun ht => ?_, fun ht => ?_⟩
          · obtain ⟨p, hp, rfl⟩ := List.mem_map.mp ht
            obtain ⟨_, _, rfl, m⟩ := there p (pm.mem_iff.mp hp)
            exact m
          · rw [← all_at wA ha] at ht
            obtain ⟨u, hu, rfl⟩ := List.mem_map.mp ht
            obtain ⟨p, hp, e2⟩ := List.mem_map.mp (all (adrOf u, (intsAt H1 u).l) (List.mem_map.mpr ⟨u, hu, rfl⟩))
            refine List.mem_map.mpr ⟨p, pm.mem_iff.mpr hp, ?_⟩
            dsimp only at e2
            rw [e2]
        have pp : (L'.map fun q => Tu.mk q.2).Perm (uniqT xs) := (List.perm_ext_iff_of_nodup nd' (uniqT_nodup xs)).mpr fun t => by rw [mem, uniqT_mem]
        have en : (L'.map fun q => Tu.mk q.2) = Lf.sortT (uniqT xs) := by
          refine leT_eq (d := deep1 xs) (fun t ht => c3 t ((mem t).mp ht)) ?_ (sortT_inc _) (pp.trans (sortT_perm _).symm)
          rw [List.pairwise_map]
          exact srt
        rw [en] at al
        refine q d _ _ (s1.trans s2) (newL w2 free2 al ?_)
        rw [(sortT_perm _).length_eq, sizeLine_eq]
        omega
  · cases e
end
end Lf
/-! ## a, b, c = x, y, [..]: the last is one's own -/
namespace Lf
open PySem PySem.Spec PyProof.Rows L2 Zs
open PySem.W (Frag)
theorem Go.parT {K : Frag} {W : WX} {ωe : List Ent} {X : Type} {Γ : Gm} {ω ω1 ω2 ω3 : List Ent} {Z : ZF K W ωe X} {u : TS} {i j l : Nat} {ta tb tc : TE} {a b : MP} {φ : OC} {x : Res X} (ha : EvX ta Γ ω ω1 a) (hb : EvX tb Γ ω1 ω2 b) (hc : EvF tc Γ ω2 ω3 φ) (k : ∀ p, Go u (((Γ.set i (some a)).set j (some b)).set l (some (adr p))) (.own p φ :: ω3) Z x) :
    Go (tSeq (tPar3 i j l (tCons ta (tCons tb (tCons tc tNil)))) u) Γ ω Z x := fun σ G H D rp w z => ha σ G H _ rp w fun v1 G1 H1 s1 w1 p1 => hb σ G1 H1 _ (rp.mono s1) w1 fun v2 G2 H2 s2 w2 p2 => hc σ G2 H2 _ (rp.mono (s1.trans s2)) w2 fun q G3 H3 s3 w3 =>
  ⟨v1, v2, .ref q, rfl, k q _ _ _ D (((((rp.mono s1).mono (s2.trans s3)).set (a.mono (s2.trans s3) p1)).set (b.mono s3 p2)).set (m := adr q) rfl) w3 (Z.mono ((s1.trans s2).trans s3) z)⟩
/-- the same, the first is one's own -/
theorem Go.parA {K : Frag} {W : WX} {ωe : List Ent} {X : Type} {Γ : Gm} {ω ω1 : List Ent} {Z : ZF K W ωe X} {u : TS} {i j l : Nat} {ta tb tc : TE} {b c : MP} {φ : OC} {x : Res X} (ha : EvF ta Γ ω ω1 φ) (hb : ∀ p, EvX tb Γ (.own p φ :: ω1) (.own p φ :: ω1) b) (hc : ∀ p, EvX tc Γ (.own p φ :: ω1) (.own p φ :: ω1) c) (k : ∀ p, Go u (((Γ.set i (some (adr p))).set j (some b)).set l (some c)) (.own p φ :: ω1) Z x) :
    Go (tSeq (tPar3 i j l (tCons ta (tCons tb (tCons tc tNil)))) u) Γ ω Z x := fun σ G H D rp w z => ha σ G H _ rp w fun p G1 H1 s1 w1 => hb p σ G1 H1 _ (rp.mono s1) w1 fun v2 G2 H2 s2 w2 p2 => hc p σ G2 H2 _ (rp.mono (s1.trans s2)) w2 fun v3 G3 H3 s3 w3 p3 =>
  ⟨.ref p, v2, v3, rfl, k p _ _ _ D (((((rp.mono s1).mono (s2.trans s3)).set (m := adr p) rfl).set (b.mono s3 p2)).set p3) w3 (Z.mono ((s1.trans s2).trans s3) z)⟩
/-! ## is True, is not False -/
theorem OpX.isB {K : Frag} {ω : List Ent} {x y : Bool} : OpX rIsB ω ω (is K x) (is K y) (is K (decide (x = y))) := fun G H u v Q w p1 p2 q => by
  cases p1
  cases p2
  exact ⟨x, y, rfl, rfl, q _ G H (Le.refl _) w rfl⟩
theorem OpX.notB {K : Frag} {ω : List Ent} {x y : Bool} : OpX rNotB ω ω (is K x) (is K y) (is K (!decide (x = y))) := fun G H u v Q w p1 p2 q => by
  cases p1
  cases p2
  exact ⟨x, y, rfl, rfl, q _ G H (Le.refl _) w rfl⟩
/-! ## a, b = a list of two -/
structure TwoL (α : Type) where
  a : α
  b : α
instance {α : Type} [t : Rp α] : Rp (TwoL α) := ⟨fun K H v x => (instRpList (α := α)).rep K H v [x.a, x.b], fun s h => (instRpList (α := α)).mono s h⟩
def twoL {α : Type} : List α → Option (TwoL α)
  | [x, y] => some ⟨x, y⟩
  | _ => none
theorem twoL_inv {α : Type} {xs : List α} {y : TwoL α} (e : twoL xs = some y) : xs = [y.a, y.b] := by
  unfold twoL at e
  split at e
  · cases e
    rfl
  · cases e
theorem EvX.twoL {α : Type} [Rp α] {K : Frag} {Γ : Gm} {ω ω1 : List Ent} {te : TE} {xs : List α} {y : TwoL α} (h : EvX te Γ ω ω1 (is K xs)) (e : Lf.twoL xs = some y) : EvX te Γ ω ω1 (is K y) := by
  rw [twoL_inv e] at h
  exact h
theorem TgX.pairL {K : Frag} {Γ : Gm} {α : Type} [Rp α] {g1 g2 : TG} {Γ1 : α → Gm} {Γ2 : α → α → Gm} (h1 : TgX (α := α) K g1 Γ Γ1) (h2 : ∀ a, TgX (α := α) K g2 (Γ1 a) (Γ2 a)) : TgX (α := TwoL α) K (gUnl K 2 (gCons g1 (gCons g2 gNil))) Γ fun ab => Γ2 ab.a ab.b := fun ab σ G H ω v Q r w p q => by
  obtain ⟨a, vs, rfl, e, ha, _⟩ := p
  cases ha with
  | @cons x _ us _ p1 ha =>
    cases ha with
    | @cons y _ us _ p2 ha =>
      cases ha
      exact ⟨a, [x, y], rfl, RC.sq_of (w.lst e), rfl, x, [y], rfl, h1 ab.a σ G H ω x _ r w p1 fun σ1 r1 => ⟨y, [], rfl, h2 ab.a ab.b σ1 G H ω y _ r1 w p2 fun σ2 r2 => ⟨rfl, q σ2 r2⟩⟩⟩
/-! ## zip of three that need not be alike long -/
section
variable {K : Frag} {Γ : Gm} {ω ω1 : List Ent} {m1 m2 m3 : MP} {tA : TA} {α β γ : Type} [Rp α] [Rp β] [Rp γ] {xs : List α} {ys : List β} {zs : List γ}
theorem IterX.zin3 {ts : List (T3 α β γ)} (h : EvA tA Γ ω ω1 [m1, m2, m3]) (s1 : SqM K m1 xs) (s2 : SqM K m2 ys) (s3 : SqM K m3 zs) (e : zipE3 xs ys zs = some ts) : IterX K (iZin3 K tA) Γ ω ω1 Any ts := fun σ G H R r w q => h σ G H _ r w fun vs G1 H1 le1 w1 p1 => by
  obtain ⟨x, y, z, rfl, px, py, pz⟩ := PArgs.three p1
  obtain ⟨t1, a1, u1, rfl, e1, h1, l1⟩ := s1 G1 x px
  obtain ⟨t2, a2, u2, rfl, e2, h2, l2⟩ := s2 G1 y py
  obtain ⟨t3, a3, u3, rfl, e3, h3, l3⟩ := s3 G1 z pz
  unfold zipE3 at e
  split at e
  · rename_i c
    cases e
    exact ⟨t1, a1, u1, t2, a2, u2, t3, a3, u3, rfl, sqk w1 e1, sqk w1 e2, sqk w1 e3, q _ G1 H1 le1 w1 (walk_zip3 e1 e2 e3 h1 h2 h3 l1 c.1 c.2)⟩
  · cases e
end
end Lf
/-! ## Tuples among any values -/
namespace Lf
open PySem PySem.Spec PyProof.Rows L2
open PySem.W (Frag)
def PV.asT : PV → Option (Tu PV)
  | .tup xs => if xs.length ≤ sizeLine then some ⟨xs⟩ else none
  | _ => none
theorem asT_imp {K : Frag} {x : PV} {t : Tu PV} (e : x.asT = some t) (G : Hp) (v : V) (p : (is K x).p G v) : (is K t).p G v := by
  cases x with
  | tup ys =>
    unfold PV.asT at e
    dsimp only at e
    split at e
    · rename_i l
      cases e
      cases (show AnyV K G v (.tup ys) from p) with
      | tup hh pp => exact ⟨_, _, rfl, hh, allOf pp, l⟩
    · cases e
  | _ => cases e
def PV.ints : List PV → Option (List Int)
  | [] => some []
  | x :: xs => match x.asI, PV.ints xs with
    | some i, some r => some (i :: r)
    | _, _ => none
theorem allInts {K : Frag} {G : Hp} : ∀ {vs : List V} {xs : List PV} {is_ : List Int}, All K G vs xs → PV.ints xs = some is_ → All K G vs is_ ∧ is_.length = xs.length
  | _, _, _, .nil, e => by
    cases e
    exact ⟨.nil, rfl⟩
  | _, _, _, .cons (b := x) r t, e => by
    unfold PV.ints at e
    split at e
    · rename_i i r' h1 h2
      cases e
      obtain ⟨a, b⟩ := allInts t h2
      exact ⟨.cons (asI_imp h1 G _ r) a, by rw [List.length_cons, List.length_cons, b]⟩
    · cases e
def PV.asTI (x : PV) : Option (Tu Int) := match x.asT with
  | some t => (PV.ints t.l).map Tu.mk
  | none => none
theorem asTI_imp {K : Frag} {x : PV} {t : Tu Int} (e : x.asTI = some t) (G : Hp) (v : V) (p : (is K x).p G v) : (is K t).p G v := by
  unfold PV.asTI at e
  split at e
  · rename_i t' h
    obtain ⟨a, vs, rfl, ea, ha, l⟩ := asT_imp h G v p
    cases q : PV.ints t'.l with
    | none =>
      rw [q] at e
      cases e
    | some is_ =>
      rw [q] at e
      cases e
      obtain ⟨q1, q2⟩ := allInts ha q
      exact ⟨a, vs, rfl, ea, q1, by show is_.length ≤ sizeLine; rw [q2]; exact l⟩
  · cases e
section
variable {K : Frag} {Γ : Gm} {ω ω1 : List Ent} {te : TE}
theorem EvX.asT {x : PV} {t : Tu PV} (h : EvX te Γ ω ω1 (is K x)) (e : x.asT = some t) : EvX te Γ ω ω1 (is K t) := h.as (asT_imp e)
theorem EvX.asTI {x : PV} {t : Tu Int} (h : EvX te Γ ω ω1 (is K x)) (e : x.asTI = some t) : EvX te Γ ω ω1 (is K t) := h.as (asTI_imp e)
end
instance {α : Type} [t : ToPV α] : ToPV (Tu α) := { of := fun t' => .tup (t'.l.map t.of), conv := fun ⟨_, _, e, h, p, _⟩ => e ▸ .tup h (anyL p) }
end Lf
/-! ## Dicts whose keys are tuples: the pairs walked -/
namespace Zs
open PySem PySem.Spec PyProof.Rows L2
open PySem.W (Frag)
/-- what a locked dict with tuple keys holds at each place -/
theorem locked_at {X : Cx} {pins : List (Addr × Obj)} {σ : L2.St} {H : Hp} {s : Shared} {d : Addr} {o : Obj} {kvs : List (List Key × V)} (I : Inv X pins σ H s) (h : H d = some (.frz o (.dT kvs))) :
    (d == sysModules) = false ∧ s.heap.get? d = some o ∧ ∃ (es : Array DictEntry) (ep : Nat), s.heap.DictRaw d es ep ∧ o.data = .dict es ep ∧ es.size = kvs.length ∧
      ∀ (i : Nat) (hi : i < es.size) (k : List Key) (v : V), kvs[i]? = some (k, v) → ∃ q : Addr, es[i].key = .ref q ∧ H q = some (.tup (k.map kV)) ∧ RelV v es[i].val := by
  obtain ⟨there, sz, low, xs, pr, o', es, ep, ho, ex, dt, ents, nd⟩ := I.hok d _ h
  have same : o' = o := Option.some.inj (ho.symm.trans there)
  subst same
  have len : es.size = kvs.length := (size_of_entries ents).trans (Paired.length pr).symm
  refine ⟨low, there, es, ep, ⟨_, there, ex, dt⟩, dt, len, fun i hi k v e => ?_⟩
  obtain ⟨b, hb, e1, e2, e3⟩ := paired_get pr e
  have at_ := entry_at ents i
  rw [hb, Array.getElem?_eq_getElem hi] at at_
  have ee : es[i] = entryOfKey (tupleKind (mixKind X.prog X.w)) b := Option.some.inj at_
  rw [ee]
  exact ⟨b.2.1, rfl, e2, e3⟩
/-- the pairs of a locked dict with tuple keys, each a new tuple -/
def ItiT (d : Addr) (o : Obj) (kvs : List (List Key × V)) : It where
  go i H := H d = some (.frz o (.dT kvs)) ∧ i < kvs.length
  yld i H x H' := ∃ (T : Addr) (k : List Key) (v : V) (q : Addr), kvs[i]? = some (k, v) ∧ x = .ref T ∧ H T = none ∧ H q = some (.tup (k.map kV)) ∧ H' = upd H T (.tup [.ref q, v])
  stop i H := H d = some (.frz o (.dT kvs)) ∧ kvs.length ≤ i
theorem turn_itemsT {P : Program} {w : World} {K : Frag} {d : Addr} {o : Obj} {es : Array DictEntry} {ep : Nat} {kvs : List (List Key × V)} {elts : List Expr} {kk : Nat} {tpos : Pos} (it : Addr) (hod : o.data = .dict es ep) :
    Turn P w K (.Tuple elts kk tpos) (ItiT d o kvs) [it] it (fun i h => ∃ ok ov, IsItemIter h it d i kvs.length ep ok ov) := by
  refine ⟨List.mem_singleton.mpr rfl, fun i h ⟨ok, ov, e⟩ b hb => ?_, fun i h h' ⟨ok, ov, e⟩ k => ⟨ok, ov, k it (List.mem_singleton.mpr rfl) _ e⟩, ?_, ?_, fun A i s Q E ⟨_, _, e⟩ h => PySem.W.kcp_self e h⟩
  · rw [List.mem_singleton.mp hb]
    exact ⟨_, e, fun v z => nomatch z⟩
  · rintro X rfl rfl rfl hc i pins s σ H E I hf ⟨ok, ov, he⟩ ⟨hd, hi⟩
    obtain ⟨low, there, es', ep', raw, dt, len, at_⟩ := locked_at I hd
    obtain ⟨e1, e2⟩ := dict_ep hod dt
    subst e1
    subst e2
    have hi' : i < es'.size := by rw [len]; exact hi
    obtain ⟨q, ek, hq, rv⟩ := at_ i hi' _ _ (List.getElem?_eq_getElem hi)
    rw [← len] at he
    have lt : it < s.heap.objs.size := Heap.lt_size he
    refine wpAny_pyNext_items_item_raw he raw hi' fun h' ho hT hz hk => ⟨_, rfl, wpAny_letOwnedTupleGo_items (s := { s with heap := h' }) ho fun h'' he' sb => ?_⟩
    have there2 : h''.get? s.heap.objs.size = some { cls := .type "tuple", data := .seq #[es'[i].key, es'[i].val] } := (sb.2 _ (Nat.ne_of_gt lt)).trans hT
    have keep : ∀ b ob, b ∉ [it] → s.heap.get? b = some ob → h''.get? b = some ob := fun b ob hb e => by
      have nb : b ≠ it := fun z => hb (List.mem_singleton.mpr z)
      exact (sb.2 b nb).trans (hk b ob nb e)
    have new : ObjOk X.prog X.w (upd H s.heap.objs.size (.tup [.ref q, kvs[i].2])) h'' s.heap.objs.size (.tup [.ref q, kvs[i].2]) :=
      ⟨Nat.le_of_ble_eq_true rfl, [es'[i].key, es'[i].val], .cons ek (.cons rv .nil), _, there2, rfl, _, rfl⟩
    refine ⟨.ref s.heap.objs.size, _, I.turnedNew (t' := s.toks) keep hf (Nat.le_refl _) new, rfl, ⟨_, _, _, q, List.getElem?_eq_getElem hi, rfl, I.hok.fresh (Nat.le_refl _), hq, rfl⟩, ⟨_, _, by rw [← len]; exact he'⟩, fun b hb => ?_⟩
    rw [List.mem_singleton.mp hb, upd_ne (Nat.ne_of_lt lt)]
    exact (hf it (List.mem_singleton.mpr rfl)).1
  · rintro X rfl rfl rfl hc i pins s σ H E I hf ⟨ok, ov, he⟩ ⟨hd, hi⟩
    obtain ⟨low, there, es', ep', raw, dt, len, _⟩ := locked_at I hd
    obtain ⟨e1, e2⟩ := dict_ep hod dt
    subst e1
    subst e2
    obtain ⟨f0, f1, f2, f3, f4, f5⟩ := hf it (List.mem_singleton.mpr rfl)
    rw [← len] at he hi
    exact wpAny_pyNext_items_end_raw (I.ok.hd hc) he raw hi fun h' eb => ⟨rfl, I.turned (t' := s.toks) (fun b ob hb e => eb b ob hb e) f0 f1 f3 f4 f5⟩
/-- for k, v in d.items(), d locked -/
def iItemsT (td : TE) : TI := fun σ H R => td σ H fun x H1 => ∃ d o kvs, x = .ref d ∧ H1 d = some (.frz o (.dT kvs)) ∧ R (ItiT d o kvs) H1
theorem pi_itemsT {X : Cx} {e : Expr} {td : TE} {apos cpos tpos : Pos} {elts : List Expr} {kk : Nat} (he : PE X e td) (hbase : attributeBase e "items" X.env (eval e X.env) = eval e X.env := by rfl) (hline : (apos.endLine == cpos.line) = true := by rfl) :
    PI X (.Tuple elts kk tpos) (.Call (.Attribute e "items" apos) [] [] cpos) (iItemsT td) where
  run pins s σ H R I h := by
    refine wpAny_Call_method (T := "dict") (id := "dict.items") hbase rfl hline PySem.F.plainAttrs_dict PySem.F.slot_dict_items PySem.F.type_dict_items (thn (he.run pins s σ H _ I h) fun u s1 hu => ?_)
    obtain ⟨x, H1, I1, rx, d, o, kvs, ex, hd, q⟩ := hu
    subst ex
    obtain rfl : u = Value.ref d := rx
    obtain ⟨low, there, es, ep, raw, dt, len, _⟩ := locked_at I1 hd
    obtain ⟨o', ho', ex, _⟩ := id raw
    have I2 : Inv X pins σ H1 { s1 with heap := s1.heap.push { cls := .type "dict_items", data := .fields #[.ref d] } } := I1.kept (t' := s1.toks) fun b ob q => Heap.get?_push_of_some _ q
    have walk : wpAny (model X.prog X.w) X.A (pyIter (.ref s1.heap.objs.size)) (PIE X pins σ (.Tuple elts kk tpos) R) X.xe { s1 with heap := s1.heap.push { cls := .type "dict_items", data := .fields #[.ref d] } } := by
      refine wpAny_pyIter_items_raw (d := d) ⟨_, Heap.get?_push_size _ rfl, rfl, rfl⟩ (raw.at fun _ q => Heap.get?_push_of_some _ q) (pi_one (tk := s1.toks) I2 _ (turn_itemsT _ dt) ⟨.none, .none, ?_⟩ q)
      rw [← len]
      exact Heap.get?_push_size _ rfl
    refine ⟨raw.typeIs, fun a' e' => ?_, ?_⟩
    · cases e'
      exact ⟨_, ho', ex.2.1⟩
    · show wpAny _ _ (callWith cpos (.builtin "dict.items") [.ref d] [] []) _ X.xe s1
      exact method_meetsIn PySem.F.slot_dict_items PySem.F.entry_dict_items rfl (PySem.evalArgs_none ⟨rfl, raw.typeIs, PySem.F.args_dict_items_1 _, _, meets_dict_items_raw d low, ⟨⟨es, ep, raw⟩, walk⟩⟩)
end Zs
/-! ## Dicts whose keys are tuples: update by another one, != {} -/
namespace Zs
open PySem PySem.Spec PyProof.Rows L2
open PySem.W (Frag)
/-- all pairs of ls put into ks -/
def putAll (ks ls : List (List Key × V)) : List (List Key × V) := ls.foldl (fun acc p => putK acc p.1 p.2) ks
theorem putAll_len : ∀ (ls ks : List (List Key × V)), (putAll ks ls).length ≤ ks.length + ls.length
  | [], ks => Nat.le_refl _
  | p :: ls, ks => by
    have a := putAll_len ls (putK ks p.1 p.2)
    have b := length_putK ks p.1 p.2
    rw [List.length_cons]
    show (putAll (putK ks p.1 p.2) ls).length ≤ _
    omega
theorem putAll_kt {H : Hp} {ls : List (List Key × V)} {ys : List (List Key × Addr × Value)} (t : KT H ls ys) : ∀ {ks : List (List Key × V)} {xs : List (List Key × Addr × Value)}, KT H ks xs → KT H (putAll ks ls) (storedAllH xs ys) := by
  induction t with
  | nil => exact fun r => r
  | @cons p y ls ys h t ih =>
    intro ks xs r
    refine ih (ks := putK ks p.1 p.2) (xs := storedH xs y.1 y.2.1 y.2.2) ?_
    rw [← h.1]
    exact r.put _ h.2.1 h.2.2
def keyHash (k : List Key) : Int := reduceHash (Builtin.Tuple.tupleHashOf (k.map fun x => match x with | .inl i => hashInt i | .inr _ => 0))
/-- a key of ints alone -/
def AllInt (k : List Key) : Prop := ∀ x ∈ k, ∃ i : Int, x = .inl i
theorem keyHash_eq {P : Program} {w : World} {k : List Key} (h : AllInt k) : (tupleKind (mixKind P w)).hash k = keyHash k := by
  show reduceHash (Builtin.Tuple.tupleHashOf (k.map (mixKind P w).hash)) = _
  unfold keyHash
  refine congrArg (fun l => reduceHash (Builtin.Tuple.tupleHashOf l)) (List.map_congr_left fun x hx => ?_)
  obtain ⟨i, rfl⟩ := h x hx
  rfl
def rUpdT : V → List V → Hp → VK → Prop := fun x xs H Q => ∃ (a b : Addr) (ks ls : List (List Key × V)), x = .ref a ∧ xs = [.ref b] ∧ a ≠ b ∧ H a = some (.dT ks) ∧ Rd H b (.dT ls) ∧ (∀ p ∈ ls, AllInt p.1) ∧ (ks ≠ [] ∨ (ls.map fun p => keyHash p.1).Nodup) ∧ ks.length + ls.length ≤ sizeLine ∧ Q .non (upd H a (.dT (putAll ks ls)))
theorem mt_updT {X : Cx} (hu : X.A.units + 1 < cLine) : MtR X "dict.update" rUpdT := by
  intro pins s σ H x xs v us Q I rx rxs h
  obtain ⟨a, b, ks, ls, rfl, rfl, ne, ha, hb, allI, hh, sz, q⟩ := h
  cases rx
  obtain ⟨u, rfl, ru⟩ := vals1 rxs
  cases (show u = Value.ref b from ru)
  obtain ⟨z1, low1, xs1, r1, d1⟩ := dt_of I.hok ha
  obtain ⟨z2, low2, ys, r2, d2⟩ := dt_rd I.hok hb
  have l1 := Paired.length r1
  have l2 := Paired.length r2
  have hap : xs1 ≠ [] ∨ ((∀ y ∈ ys, s.TypeIs (.ref y.2.1) "tuple") ∧ (ys.map fun y => (tupleKind (mixKind X.prog X.w)).hash y.1).Nodup) := by
    rcases hh with c | c
    · exact .inl fun e => c (by rw [e] at l1; exact List.eq_nil_of_length_eq_zero l1)
    · refine .inr ⟨keyed_apart tupleKind_stays d2, ?_⟩
      have e : (ys.map fun y => (tupleKind (mixKind X.prog X.w)).hash y.1) = ls.map fun p => keyHash p.1 := by
        clear hb z2 d2 c sz l2 q
        induction r2 with
        | nil => rfl
        | cons f t ih =>
          rw [List.map_cons, List.map_cons, ih fun p hp => allI p (List.mem_cons_of_mem _ hp), ← f.1, keyHash_eq (allI _ List.mem_cons_self)]
      rw [e]
      exact c
  refine call_update_dictH (tupleKind_room_in1 hu) ne low2 d1 d2 hap (by rw [← l1, ← l2]; exact sz) fun h' dd' _ hs => ?_
  obtain ⟨o, es, ep, ho, c1, c2, c3, _, c5⟩ := dd'
  have kt : KT (upd H a (.dT (putAll ks ls))) (putAll ks ls) (storedAllH xs1 ys) := (putAll_kt r2 r1).keeps fun c t ec => by
    rw [upd_ne (ne_of ec ha fun z => nomatch z)]
    exact ec
  have I2 := d_write (t' := s.toks) (ob := .dT (putAll ks ls)) I (by rw [ha]; exact True.intro) hs ⟨o, ho⟩ ⟨Nat.le_trans (putAll_len ls ks) sz, low1, _, kt, o, es, ep, ho, c1, c2, c3, c5⟩
  exact ⟨.non, _, I2, rfl, q⟩
/-! ### d != {} -/
def rNeT : R2 := fun x y H Q => ∃ a b ks, x = .ref a ∧ y = .ref b ∧ Rd H a (.dT ks) ∧ Rd H b (.dK []) ∧ Q (.bl (!ks.isEmpty)) H
theorem op_neT {X : Cx} (hu : X.A.units < cLine) : OpR X (compareOp .NotEq) rNeT := by
  intro pins s σ H x y v u Q I rx ry h
  obtain ⟨a, b, ks, rfl, rfl, ha, hb, q⟩ := h
  obtain rfl : v = Value.ref a := rx
  obtain rfl : u = Value.ref b := ry
  obtain ⟨_, low1, xs, r1, d1⟩ := dt_rd I.hok ha
  obtain ⟨_, low2, vb, rb, db⟩ := dk_rd I.hok hb
  have vb0 : vb = [] := by cases rb; rfl
  subst vb0
  obtain ⟨es, ep, raw, size, _⟩ := Heap.DictOfH.raw d1
  have len := Paired.length r1
  obtain ⟨ob, es2, ep2, hob, xb, dtb, _, pb, _⟩ := id db
  have s2 : es2.size = 0 := by
    have := Pairs.length pb
    simpa using this
  obtain ⟨oa, hoa, xa, dta⟩ := id raw
  cases ks with
  | nil =>
    have x0 : xs = [] := by cases r1; rfl
    subst x0
    have e0 : es = #[] := Array.eq_empty_of_size_eq_zero size
    subst e0
    have da : s.heap.DictOf (mixKind X.prog X.w) a [] := ⟨oa, #[], ep, hoa, xa, dta, (fun e he => by simp at he), .nil, List.nodup_nil⟩
    exact PySem.W.keq_ne (knd := mixKind X.prog X.w) (r := true) low1 low2 da db hu (fun _ => .nil) (fin_bl I q rfl)
  | cons p ps =>
    have more : es.size ≠ es2.size := by
      rw [size, s2, ← len]
      simp
    refine wpAny_richCompare_same_room (op := .NotEq) raw.typeIs db.typeIs PySem.F.slot_dict_ne (wpAny_call_entry PySem.F.slot_dict_ne raw.typeIs PySem.F.entry_dict_ne ?_ (PySem.F.args_dict_ne_2 _ _)) hu
    refine wpAny_bind ?_
    unfold Builtin.Dict.dictSlotArgs
    refine wpAny_bind (wpAny_notOrdered_dict raw.typeIs (wpAny_pure ?_))
    refine wpAny_bind (wpAny_isInstance (T := "dict") db.typeIs PySem.F.sub_dict_dict ?_)
    simp only [Bool.not_true, Bool.false_eq_true, if_false]
    refine wpAny_bind (wpAny_pure (wpAny_bind (wpAny_pure (wpAny_bind ?_))))
    unfold Builtin.Dict.samePairs Builtin.Dict.showsAll
    rw [if_neg (by rw [low1]; exact Bool.false_ne_true), if_neg (by rw [low2]; exact Bool.false_ne_true)]
    refine wpAny_bind (wpAny_pure (wpAny_bind (wpAny_pure (wpAny_bind (wpAny_dictEntries hoa dta ?_)))))
    dsimp only
    refine wpAny_bind (wpAny_dictEntries hob dtb ?_)
    rw [if_pos (by simpa using more)]
    refine wpAny_bind (wpAny_rule (wpAny_pure (wpAny_pure ⟨_, rfl, ?_, ?_⟩)))
    · exact fun x => nomatch x
    · exact fin_bl I q rfl
end Zs
/-! ## Readings told by plain data: dicts whose keys are tuples of ints -/
namespace Lf
open PySem PySem.Spec PyProof.Rows L2 Zs
open PySem.W (Frag)
structure DicT (α : Type) where
  l : List (Tu Int × α)
def kT (t : Tu Int) : List Key := t.l.map Sum.inl
theorem kT_inj {a b : Tu Int} (h : kT a = kT b) : a = b := by
  obtain ⟨a⟩ := a
  obtain ⟨b⟩ := b
  exact congrArg Tu.mk (inl_inj h)
theorem kT_kV (t : Tu Int) : (kT t).map kV = t.l.map V.int := by
  unfold kT
  rw [List.map_map]
  rfl
theorem kT_int (t : Tu Int) : AllInt (kT t) := fun x hx => by
  obtain ⟨i, _, e⟩ := List.mem_map.mp hx
  exact ⟨i, e.symm⟩
section
variable {α : Type} [Rp α] {K : Frag}
structure EntT (K : Frag) (G : Hp) (kv : List Key × V) (x : Tu Int × α) : Prop where
  key : kv.1 = kT x.1
  len : x.1.l.length ≤ sizeLine
  val : Rp.rep K G kv.2 x.2
abbrev AllT (K : Frag) (G : Hp) (kvs : List (List Key × V)) (xs : List (Tu Int × α)) : Prop := Paired (fun kv x => EntT K G kv x) kvs xs
theorem AllT.mono {G G' : Hp} {kvs : List (List Key × V)} {xs : List (Tu Int × α)} (s : Le G G') (h : AllT K G kvs xs) : AllT K G' kvs xs := Paired.mono' (fun _ _ r => ⟨r.key, r.len, Rp.mono s r.val⟩) h
instance : Rp (DicT α) := ⟨fun K H v t => ∃ a kvs z, v = .ref a ∧ H a = some (.frz z (.dT kvs)) ∧ AllT K H kvs t.l ∧ t.l.length ≤ sizeLine, fun s ⟨a, kvs, z, e, q, p, l⟩ => let ⟨z', _, q'⟩ := s.dt q; ⟨a, kvs, z', e, q', AllT.mono s p, l⟩⟩
/-- one's own -/
def odicT (K : Frag) (d : DicT α) : OC := ⟨fun G o => ∃ kvs, o = .dT kvs ∧ AllT K G kvs d.l ∧ d.l.length ≤ sizeLine, fun s ⟨kvs, e, h, l⟩ => ⟨kvs, e, AllT.mono s h, l⟩, fun ⟨_, e, _⟩ => e ▸ fun z => z⟩
theorem paired_in {γ δ : Type} {F : γ → δ → Prop} {xs : List γ} {ys : List δ} (h : Paired F xs ys) {x : γ} (hx : x ∈ xs) : ∃ y, y ∈ ys ∧ F x y := by
  induction h with
  | nil => cases hx
  | cons f _ ih =>
    rcases List.mem_cons.mp hx with rfl | hx
    · exact ⟨_, List.mem_cons_self, f⟩
    · obtain ⟨y, hy, r⟩ := ih hx
      exact ⟨y, List.mem_cons_of_mem _ hy, r⟩
theorem all_intsT {G : Hp} {vs : List V} {l : List Int} (h : All K G vs l) : vs = l.map V.int := by
  induction h with
  | nil => rfl
  | cons r _ ih => rw [List.map_cons, ← ih, show _ = V.int _ from r]
theorem ints_all' {G : Hp} : ∀ l : List Int, All K G (l.map V.int) l
  | [] => .nil
  | _ :: l => .cons rfl (ints_all' l)
theorem tup_key {G : Hp} {v : V} {t : Tu Int} (h : Rp.rep K G v t) : ∃ b, v = .ref b ∧ G b = some (.tup ((kT t).map kV)) ∧ t.l.length ≤ sizeLine := by
  obtain ⟨b, vs, rfl, e, ha, l⟩ := h
  rw [kT_kV, ← all_intsT ha]
  exact ⟨b, rfl, e, l⟩
theorem key_tup {G : Hp} {q : Addr} {t : Tu Int} (e : G q = some (.tup ((kT t).map kV))) (l : t.l.length ≤ sizeLine) : Rp.rep K G (.ref q) t := by
  rw [kT_kV] at e
  exact ⟨q, _, rfl, e, ints_all' _, l⟩
def DicT.get? (d : DicT α) (k : Tu Int) : Option α := (d.l.find? fun p => decide (p.1 = k)).map (·.2)
def DicT.has (d : DicT α) (k : Tu Int) : Bool := (d.get? k).isSome
def DicT.put (d : DicT α) (k : Tu Int) (x : α) : Option (DicT α) := if d.l.length < sizeLine then some ⟨putL d.l k x⟩ else none
def putsL (l ls : List (Tu Int × α)) : List (Tu Int × α) := ls.foldl (fun acc p => putL acc p.1 p.2) l
def DicT.upd (d e : DicT α) : Option (DicT α) := if (d.l ≠ [] ∨ (e.l.map fun p => keyHash (kT p.1)).Nodup) ∧ d.l.length + e.l.length ≤ sizeLine then some ⟨putsL d.l e.l⟩ else none
theorem valT_of {G : Hp} {k : Tu Int} {kvs : List (List Key × V)} {l : List (Tu Int × α)} (h : AllT K G kvs l) : match (l.find? fun p => decide (p.1 = k)).map (·.2) with
    | none => valV kvs (kT k) = none
    | some x => ∃ v, valV kvs (kT k) = some v ∧ Rp.rep K G v x := by
  induction h with
  | nil => exact rfl
  | @cons kv p _ _ r t ih =>
    by_cases e : p.1 = k
    · rw [List.find?_cons, decide_eq_true e]
      exact ⟨kv.2, valV_pos (by rw [r.key, e]), r.val⟩
    · rw [List.find?_cons, decide_eq_false e, valV_neg fun z => e (kT_inj (r.key.symm.trans z))]
      exact ih
theorem dgetT_of {G H : Hp} {ω : List Ent} (w : At G ω H) {a : Addr} {kvs : List (List Key × V)} {d : DicT α} {k : Tu Int} {v : V} (e : Rd H a (.dT kvs)) (h : AllT K G kvs d.l) (hk : Rp.rep K G v k) : ∃ o, DGet H a v o ∧ match d.get? k with
    | none => o = none
    | some x => ∃ v, o = some v ∧ Rp.rep K G v x := by
  obtain ⟨b, rfl, eb, _⟩ := tup_key hk
  refine ⟨valV kvs (kT k), .inr ⟨kvs, kT k, b, e, rfl, w.get eb, rfl⟩, ?_⟩
  have := valT_of (k := k) h
  unfold DicT.get?
  split at this <;> exact this
/-- where it stands: still, or one's own -/
def DicTAt (K : Frag) (ω : List Ent) (a : MP) (d : DicT α) : Prop := ∀ (G H : Hp) (v : V), At G ω H → a.p G v → ∃ p kvs, v = .ref p ∧ Rd H p (.dT kvs) ∧ AllT K G kvs d.l
variable {ω ω1 ω2 : List Ent} {a : MP} {Γ : Gm} {ta tb te to : TE}
theorem DicTAt.of {d : DicT α} : DicTAt K ω (is K d) d := fun G H v w p => by
  obtain ⟨a, kvs, z, rfl, e, h, _⟩ := p
  refine ⟨a, kvs, rfl, ?_, h⟩
  rcases w.sh a _ e with y | ⟨_, y | ⟨od, y⟩⟩
  · exact .inr ⟨z, y⟩
  · exact .inl y
  · exact .inr ⟨od, y⟩
theorem DicTAt.own {d : DicT α} {k : Nat} {p : Addr} (ho : ω[k]? = some (Ent.own p (odicT K d))) : DicTAt K ω (adr p) d := fun G H v w e => by
  obtain ⟨o, eo, kvs, rfl, h, _⟩ := w.ownAt ho
  exact ⟨p, kvs, e, .inl eo, h⟩
theorem EvF.dnewT : EvF tDNewT Γ ω ω (odicT K (DicT.mk [] : DicT α)) := fun σ G H Q r w q p hp => q p G _ (Le.refl _) (w.newOwn hp ⟨[], rfl, .nil, Nat.zero_le _⟩)
theorem EvX.dgetT {d : DicT α} {k : Tu Int} {x : α} (h : EvX ta Γ ω ω1 a) (hk : EvX tb Γ ω1 ω2 (is K k)) (hd : DicTAt K ω2 a d) (e : d.get? k = some x) : EvX (tDGet ta tb) Γ ω ω2 (is K x) := fun σ G H Q r w q => h σ G H _ r w fun v G1 H1 s1 w1 p1 => hk σ G1 H1 _ (r.mono s1) w1 fun y G2 H2 s2 w2 p2 => by
  obtain ⟨p, kvs, rfl, hr, hv⟩ := hd G2 H2 v w2 (a.mono s2 p1)
  obtain ⟨o, ho, hm⟩ := dgetT_of w2 hr hv p2
  rw [e] at hm
  obtain ⟨u, rfl, hu⟩ := hm
  exact ⟨p, u, rfl, ho, q u G2 H2 (s1.trans s2) w2 hu⟩
theorem has_of {G H : Hp} {p : Addr} {y : V} {d : DicT α} {k : Tu Int} {o : Option V} (hm : match d.get? k with
    | none => o = none
    | some x => ∃ v, o = some v ∧ Rp.rep K G v x) : o.isSome = d.has k := by
  unfold DicT.has
  cases e : d.get? k with
  | none =>
    rw [e] at hm
    rw [hm]
    rfl
  | some x =>
    rw [e] at hm
    obtain ⟨u, rfl, _⟩ := hm
    rfl
theorem EvX.dinT {d : DicT α} {k : Tu Int} (hk : EvX tb Γ ω ω1 (is K k)) (h : EvX ta Γ ω1 ω2 a) (hd : DicTAt K ω2 a d) : EvX (tDIn tb ta) Γ ω ω2 (is K (d.has k)) := fun σ G H Q r w q => hk σ G H _ r w fun y G1 H1 s1 w1 p1 => h σ G1 H1 _ (r.mono s1) w1 fun v G2 H2 s2 w2 p2 => by
  obtain ⟨p, kvs, rfl, hr, hv⟩ := hd G2 H2 v w2 p2
  obtain ⟨o, ho, hm⟩ := dgetT_of (k := k) w2 hr hv ((is K k).mono s2 p1)
  exact ⟨p, o, rfl, ho, q _ G2 H2 (s1.trans s2) w2 (congrArg V.bl (has_of (H := H2) (p := p) (y := y) hm))⟩
theorem EvX.dniT {d : DicT α} {k : Tu Int} (hk : EvX tb Γ ω ω1 (is K k)) (h : EvX ta Γ ω1 ω2 a) (hd : DicTAt K ω2 a d) : EvX (tDNotIn tb ta) Γ ω ω2 (is K (!d.has k)) := fun σ G H Q r w q => hk σ G H _ r w fun y G1 H1 s1 w1 p1 => h σ G1 H1 _ (r.mono s1) w1 fun v G2 H2 s2 w2 p2 => by
  obtain ⟨p, kvs, rfl, hr, hv⟩ := hd G2 H2 v w2 p2
  obtain ⟨o, ho, hm⟩ := dgetT_of (k := k) w2 hr hv ((is K k).mono s2 p1)
  exact ⟨p, o, rfl, ho, q _ G2 H2 (s1.trans s2) w2 (congrArg (fun b => V.bl (!b)) (has_of (H := H2) (p := p) (y := y) hm))⟩
theorem anyT_of {G : Hp} {k : Tu Int} {kvs : List (List Key × V)} {l : List (Tu Int × α)} (h : AllT K G kvs l) : (kvs.any fun kv => decide (kv.1 = kT k)) = l.any fun p => decide (p.1 = k) := by
  induction h with
  | nil => rfl
  | @cons kv p _ _ r t ih =>
    rw [List.any_cons, List.any_cons, ih]
    refine congrArg (· || _) (decide_eq_decide.mpr ⟨fun z => kT_inj (r.key.symm.trans z), fun z => by rw [r.key, z]⟩)
theorem putKT_of {G : Hp} {k : Tu Int} {x : α} {v : V} (lk : k.l.length ≤ sizeLine) (hv : Rp.rep K G v x) {kvs : List (List Key × V)} {l : List (Tu Int × α)} (h : AllT K G kvs l) : AllT K G (putK kvs (kT k) v) (putL l k x) := by
  have repl : AllT K G (kvs.map fun kv => if kv.1 = kT k then (kv.1, v) else kv) (l.map fun p => if p.1 = k then (p.1, x) else p) := by
    induction h with
    | nil => exact .nil
    | @cons kv p _ _ r t ih =>
      refine .cons ?_ ih
      dsimp only
      by_cases e : p.1 = k
      · rw [if_pos e, if_pos (by rw [r.key, e])]
        exact ⟨r.key, r.len, hv⟩
      · rw [if_neg e, if_neg fun z => e (kT_inj (r.key.symm.trans z))]
        exact r
  unfold putK putL
  rw [anyT_of h]
  split
  · exact repl
  · exact Paired.app' h (.cons ⟨rfl, lk, hv⟩ .nil)
theorem putAllT_of {G : Hp} {ls : List (List Key × V)} {ms : List (Tu Int × α)} (t : AllT K G ls ms) : ∀ {kvs : List (List Key × V)} {l : List (Tu Int × α)}, AllT K G kvs l → AllT K G (putAll kvs ls) (putsL l ms) := by
  induction t with
  | nil => exact fun h => h
  | @cons kv p ls ms r t ih =>
    intro kvs l h
    refine ih (kvs := putK kvs kv.1 kv.2) (l := putL l p.1 p.2) ?_
    rw [r.key]
    exact putKT_of r.len r.val h
theorem putLT_len (l : List (Tu Int × α)) (k : Tu Int) (x : α) : (putL l k x).length ≤ l.length + 1 := by
  unfold putL
  split
  · rw [List.length_map]
    omega
  · rw [List.length_append]
    exact Nat.le_refl _
theorem putsL_len (ls : List (Tu Int × α)) : ∀ l : List (Tu Int × α), (putsL l ls).length ≤ l.length + ls.length := by
  induction ls with
  | nil => exact fun l => Nat.le_refl _
  | cons p ls ih =>
    intro l
    have a := ih (putL l p.1 p.2)
    have b := putLT_len l p.1 p.2
    rw [List.length_cons]
    show (putsL (putL l p.1 p.2) ls).length ≤ _
    omega
section
variable {W : WX} {ωe : List Ent} {X : Type} {Z : ZF K W ωe X} {u ts : TS}
theorem Go.dputT {d d' : DicT α} {i : Tu Int} {y : α} {ti : TE} {p : Addr} {k : Nat} {x : Res X} (h : EvX te Γ ω ω1 (is K y)) (ht : EvX to Γ ω1 ω1 (adr p)) (hi : EvX ti Γ ω1 ω1 (is K i)) (ho : ω1[k]? = some (Ent.own p (odicT K d))) (e : d.put i y = some d') (hk : Go u Γ (ω1.set k (.own p (odicT K d'))) Z x) :
    Go (tSeq (sDPut to ti te) u) Γ ω Z x := fun σ G H D rp w z => h σ G H _ rp w fun v G1 H1 s1 w1 p1 => ht σ G1 H1 _ (rp.mono s1) w1 fun v2 G2 H2 s2 w2 p2 => hi σ G2 H2 _ (rp.mono (s1.trans s2)) w2 fun v3 G3 H3 s3 w3 p3 => by
  cases p2
  obtain ⟨o, eo, kvs, rfl, hv, l⟩ := w3.ownAt ho
  obtain ⟨b, rfl, eb, lb⟩ := tup_key p3
  unfold DicT.put at e
  split at e
  · rename_i c
    cases e
    have s := s1.trans (s2.trans s3)
    refine ⟨p, _, rfl, .inr ⟨kvs, kT i, b, eo, rfl, w3.get eb, by rw [Paired.len hv]; exact c, rfl⟩, ?_⟩
    exact hk σ G3 _ D (rp.mono s) (w3.put ho ⟨_, rfl, putKT_of lb ((is K y).mono (s2.trans s3) p1) hv, Nat.le_trans (putLT_len _ _ _) c⟩) (Z.mono s z)
  · cases e
/-- d.update(e), d one's own -/
theorem Go.updT {d e' d' : DicT α} {p : Addr} {k : Nat} {x : Res X} (ht : EvX to Γ ω ω (adr p)) (h : EvX te Γ ω ω1 a) (h0 : ∃ d0 : DicT α, ω[k]? = some (Ent.own p (odicT K d0))) (ho : ω1[k]? = some (Ent.own p (odicT K d))) (hd : DicTAt K ω1 a e') (ne : ∀ G H, At G ω1 H → ¬ a.p G (.ref p)) (e : d.upd e' = some d') (hk : Go u Γ (ω1.set k (.own p (odicT K d'))) Z x) :
    Go (tSeq (tDrop (tBM K "dict" rUpdT to (tCons te tNil))) u) Γ ω Z x := fun σ G H D rp w z => ht σ G H _ rp w fun v G1 H1 s1 w1 p1 => by
  cases p1
  obtain ⟨d0, h0⟩ := h0
  obtain ⟨o, eo, kvs0, rfl, _, _⟩ := w1.ownAt h0
  refine ⟨.inr (.inr (.inl ⟨rfl, .inr ⟨_, eo⟩⟩)), h σ G1 H1 _ (rp.mono s1) w1 fun v2 G2 H2 s2 w2 p2 => ?_⟩
  obtain ⟨o, eo, kvs, rfl, hv, l⟩ := w2.ownAt ho
  obtain ⟨b, ls, rfl, eb, hb⟩ := hd G2 H2 v2 w2 p2
  have nb : p ≠ b := fun q => ne G2 H2 w2 (by rw [q]; exact p2)
  unfold DicT.upd at e
  split at e
  · rename_i c
    cases e
    have s := s1.trans s2
    refine ⟨p, b, kvs, ls, rfl, rfl, nb, eo, eb, fun q hq => ?_, ?_, by rw [Paired.len hv, Paired.len hb]; exact c.2, ?_⟩
    · obtain ⟨y, _, r⟩ := paired_in hb hq
      rw [r.key]
      exact kT_int _
    · rcases c.1 with c | c
      · exact .inl fun q => c (List.eq_nil_of_length_eq_zero (by rw [← Paired.len hv, q]; rfl))
      · refine .inr ?_
        have : (ls.map fun q => keyHash q.1) = e'.l.map fun q => keyHash (kT q.1) := by
          clear c eb hd
          generalize e'.l = m at hb
          induction hb with
          | nil => rfl
          | cons r _ ih => rw [List.map_cons, List.map_cons, ih, r.key]
        rw [this]
        exact c
    · exact hk σ G2 _ D (rp.mono s) (w2.put ho ⟨_, rfl, putAllT_of hb hv, Nat.le_trans (putsL_len _ _) c.2⟩) (Z.mono s z)
  · cases e
theorem Go.freezeDT {xs : DicT α} {p : Addr} {k i : Nat} {x : Res X} (ho : ω[k]? = some (Ent.own p (odicT K xs))) (hi : Γ[i]? = some (some (adr p))) (h : Go ts (Γ.set i (some (is K xs))) (ω.eraseIdx k) Z x) : Go ts Γ ω Z x := fun σ G H D rp w z => by
  obtain ⟨o, e, ⟨vs, rfl, hv, l⟩, w3, s3⟩ := (w.front ho).freeze
  obtain ⟨v, ev, pv⟩ := rp.2 i _ hi
  have pv' : v = .ref p := pv
  subst pv'
  have q := (rp.mono s3).set (i := i) (v := .ref p) (m := is K xs) ⟨p, vs, z0, rfl, upd_same, AllT.mono s3 hv, l⟩
  have es : σ.set i (some (.ref p)) = σ := by
    refine List.ext_getElem? fun j => ?_
    by_cases z : i = j
    · subst z
      rw [ev, List.getElem?_set_self (List.getElem?_eq_some_iff.mp ev).1]
    · rw [List.getElem?_set_ne z]
  rw [es] at q
  exact h σ _ H D q w3 (Z.mono s3 z)
end
theorem EvX.frDT {d : DicT α} (h : EvF te Γ ω ω1 (odicT K d)) : EvX te Γ ω ω1 (is K d) := fun σ G H Q r w q => h σ G H Q r w fun p G2 H2 s w2 => by
  obtain ⟨o, e, ⟨vs, rfl, hv, l⟩, w3, s3⟩ := w2.freeze
  exact q _ _ H2 (s.trans s3) w3 ⟨p, vs, z0, rfl, upd_same, AllT.mono s3 hv, l⟩
/-! ### d != {} -/
theorem OpX.neT {d : DicT α} (hd : DicTAt K ω a d) : OpX rNeT ω ω a (is K (Dic.mk [] : Dic Int Int)) (is K (!d.l.isEmpty)) := fun G H u v Q w p1 p2 q => by
  obtain ⟨p, kvs, rfl, hr, hv⟩ := hd G H u w p1
  obtain ⟨b, ks, rfl, eb, hb, _⟩ := p2
  cases hb
  refine ⟨p, b, kvs, rfl, rfl, hr, w.rd eb, q _ G H (Le.refl _) w ?_⟩
  show V.bl _ = V.bl _
  have := Paired.len hv
  cases kvs with
  | nil =>
    rw [List.eq_nil_of_length_eq_zero this.symm]
    rfl
  | cons x xs =>
    cases h : d.l with
    | nil =>
      rw [h] at this
      cases this
    | cons _ _ => rfl
theorem apart_still {d : DicT α} {φ : OC} {k : Nat} {p : Addr} (ho : ω[k]? = some (Ent.own p φ)) : ∀ G H, At G ω H → ¬ (is K d).p G (.ref p) := fun G H w z => by
  obtain ⟨a, kvs, z', e, q, _⟩ := z
  cases e
  rw [(w.own k p _ ho).1] at q
  cases q
theorem apart_own {φ ψ : OC} {k j : Nat} {p q : Addr} (hk : ω[k]? = some (Ent.own p φ)) (hj : ω[j]? = some (Ent.own q ψ)) (n : k ≠ j) : ∀ G H, At G ω H → ¬ (adr q).p G (.ref p) := fun G H w z => by
  have e : V.ref p = V.ref q := z
  cases e
  exact n (w.nd k j _ _ hk hj rfl)
/-! ### walks -/
def tLockT (td : TE) : TE := fun σ H Q => td σ H fun x H1 => ∃ d kvs, x = .ref d ∧ ((H1 d = some (.dT kvs) ∧ ∀ od, od ≠ z0 → Q x (upd H1 d (.frz od (.dT kvs)))) ∨ ∃ od, H1 d = some (.frz od (.dT kvs)) ∧ (od ≠ z0 → Q x H1))
theorem pe_lockT {X : Cx} {e : Expr} {td : TE} (he : PE X e td) : PE X e (tLockT td) := by
  have real : ∀ {pins : List (Addr × Obj)} {σ : L2.St} {H : Hp} {s : Shared} {d : Addr} {od : Obj} {kvs : List (List Key × V)}, Inv X pins σ H s → H d = some (.frz od (.dT kvs)) → od ≠ z0 := fun I h z => by
    obtain ⟨_, there, es, ep, ⟨o, ho, ex, _⟩, _⟩ := locked_at I h
    rw [there] at ho
    cases ho
    rw [z] at ex
    cases ex.1
  refine ⟨fun pins s σ H Q I h => wpAny_mono (he.run pins s σ H _ I h) (fun v s1 hv => ?_) fun _ _ z => z⟩
  obtain ⟨x, H1, I1, rx, d, kvs, ex, c⟩ := hv
  rcases c with ⟨hu, c⟩ | ⟨od, hu, c⟩
  · obtain ⟨od, I2⟩ := I1.lock hu trivial
    exact ⟨x, _, I2, rx, c od (real I2 upd_same)⟩
  · exact ⟨x, H1, I1, rx, c (real I1 hu)⟩
theorem lockT {d : DicT α} {σ : L2.St} {G H : Hp} {R : V → Hp → Prop} (h : EvX te Γ ω ω1 (is K d)) (r : Reps G σ Γ) (w : At G ω H)
    (q : ∀ (p : Addr) (kvs : List (List Key × V)) (od : Obj) (G2 H2 : Hp), od ≠ z0 → Le G G2 → At G2 ω1 H2 → G2 p = some (.frz od (.dT kvs)) → AllT K G2 kvs d.l → d.l.length ≤ sizeLine → R (.ref p) H2) : tLockT te σ H R := h σ G H _ r w fun v G1 H1 s1 w1 p1 => by
  obtain ⟨p, kvs, z, rfl, e, hv, l⟩ := p1
  refine ⟨p, kvs, rfl, ?_⟩
  rcases w1.sh p _ e with y | ⟨ez, y | ⟨od, y⟩⟩
  · exact .inr ⟨z, y, fun n => q p kvs z G1 H1 n s1 w1 e hv l⟩
  · refine .inl ⟨y, fun od n => ?_⟩
    obtain ⟨w2, s2⟩ := w1.lockT (od := od) e (.inl ⟨ez, y⟩)
    exact q p kvs od _ _ n (s1.trans s2) w2 upd_same (AllT.mono s2 hv) l
  · refine .inr ⟨od, y, fun n => ?_⟩
    obtain ⟨w2, s2⟩ := w1.lockT (od := od) e (.inr ⟨.inr ez, y⟩)
    have same : upd H1 p (.frz od (.dT kvs)) = H1 := funext fun b => by
      by_cases c : b = p
      · rw [c, upd_same, y]
      · rw [upd_ne c]
    rw [same] at w2
    exact q p kvs od _ _ n (s1.trans s2) w2 upd_same (AllT.mono s2 hv) l
theorem locked {G0 G H : Hp} {ω' : List Ent} {p : Addr} {kvs : List (List Key × V)} {od : Obj} (n : od ≠ z0) (e : G0 p = some (.frz od (.dT kvs))) (s : Le G0 G) (w : At G ω' H) : H p = some (.frz od (.dT kvs)) := by
  obtain ⟨z', ez, q⟩ := s.dt e
  have := ez n
  subst this
  rcases w.sh p _ q with y | ⟨z, _⟩
  · exact y
  · exact absurd z n
theorem allT_at {G : Hp} {kvs : List (List Key × V)} {l : List (Tu Int × α)} (h : AllT K G kvs l) {i : Nat} {x : Tu Int × α} (e : l[i]? = some x) : ∃ v, kvs[i]? = some (kT x.1, v) ∧ Rp.rep K G v x.2 ∧ x.1.l.length ≤ sizeLine := by
  obtain ⟨kv, ek, r⟩ := Paired.at_ h e
  exact ⟨kv.2, by rw [ek, ← r.key], r.val, r.len⟩
theorem IterX.keysT {d : DicT α} (h : EvX te Γ ω ω1 (is K d)) : IterX K (iKeys (tLockT te)) Γ ω ω1 Any (d.l.map (·.1)) := fun σ G H R r w q => by
  refine lockT h r w fun p kvs od G2 H2 n s2 w2 e hv l => ⟨p, od, rfl, .inr ⟨kvs, locked n e (Le.refl _) w2, q _ G2 H2 s2 w2 ⟨by rw [List.length_map]; exact l, fun G ω H i s w _ hi => ⟨locked n e s w, by rw [List.length_map, ← Paired.len hv] at hi; exact hi⟩, fun G ω H s w _ => ⟨locked n e s w, by rw [List.length_map, Paired.len hv]; exact Nat.le_refl _⟩, fun G ω H i x H' k s w _ hk y => ?_⟩⟩⟩
  obtain ⟨rfl, k', v', b, ek, rfl, eb⟩ := y
  rw [List.getElem?_map] at hk
  cases z : d.l[i]? with
  | none =>
    rw [z] at hk
    cases hk
  | some kx =>
    rw [z] at hk
    cases hk
    obtain ⟨v, ev, _, lk⟩ := allT_at hv z
    rw [ev] at ek
    cases ek
    obtain ⟨G', s', w', t⟩ := w.adopt eb
    exact ⟨G', s', w', key_tup t lk⟩
theorem IterX.itemsT {d : DicT α} (h : EvX te Γ ω ω1 (is K d)) : IterX K (iItemsT (tLockT te)) Γ ω ω1 Any d.l := fun σ G H R r w q => by
  refine lockT h r w fun p kvs od G2 H2 n s2 w2 e hv l => ⟨p, od, kvs, rfl, locked n e (Le.refl _) w2, q _ G2 H2 s2 w2 ⟨l, fun G ω H i s w _ hi => ⟨locked n e s w, by rw [← Paired.len hv] at hi; exact hi⟩, fun G ω H s w _ => ⟨locked n e s w, by rw [Paired.len hv]; exact Nat.le_refl _⟩, fun G ω H i x H' k s w _ hk y => ?_⟩⟩
  obtain ⟨T, k', v', b, ek, rfl, nT, eb, rfl⟩ := y
  obtain ⟨v, ev, pv, lk⟩ := allT_at hv hk
  have ee := Prod.mk.inj (Option.some.inj (ev.symm.trans ek))
  obtain ⟨e1, e2⟩ := ee
  subst e1
  subst e2
  obtain ⟨G', s', w', t⟩ := w.adopt eb
  obtain ⟨w3, s3⟩ := w'.new (o := .tup [.ref b, v]) nT
  exact ⟨_, s'.trans s3, w3, T, _, _, rfl, upd_same, key_tup (s3.at t) lk, Rp.mono (s.trans (s'.trans s3)) pv⟩
end
end Lf
/-! ## Objects of one's own with dicts of their own; (a, *pair) -/
namespace Lf
open PySem PySem.Spec PyProof.Rows L2 Zs
open PySem.W (Frag)
open He (ga)
section
variable {K : Frag} {W : WX} {ωe : List Ent} {X : Type} {Γ : Gm} {ω ω1 ω2 : List Ent} {Z : ZF K W ωe X} {u ts : TS} {ta tb te : TE} {φ : OC}
/-- o.f = a new thing of one's own -/
theorem Go.setFF {c f : Str} {ms : List (Str × MP)} {ms' : Addr → List (Str × MP)} {k : Nat} {p : Addr} {x : Res X} (h : EvF te Γ ω ω1 φ) (ha : ∀ q, EvX ta Γ (.own q φ :: ω1) (.own q φ :: ω1) (adr p)) (ho : ω1[k]? = some (Ent.own p (oins (ga K c) ms))) (e : ∀ q, putM f (adr q) ms = ms' q) (l : ms.length < 1000) (cl : Cls K (ga K c)) (na : NoAttr K (ga K c) f) (hk : ∀ q, Go u Γ (.own q φ :: ω1.set k (.own p (oins (ga K c) (ms' q)))) Z x) :
    Go (tSeq (sFld K ta te f) u) Γ ω Z x := fun σ G H D rp w z => h σ G H _ rp w fun q G1 H1 s1 w1 => ha q σ G1 H1 _ (rp.mono s1) w1 fun v2 G2 H2 s2 w2 p2 => by
  cases p2
  have ho' : (Ent.own q φ :: ω1)[k + 1]? = some (Ent.own p (oins (ga K c) ms)) := ho
  obtain ⟨o, eo, dx, fs, rfl, hp⟩ := w2.ownAt ho'
  refine ⟨p, _, dx, fs, rfl, eo, cl, na, by rw [Paired.len hp]; exact l, ?_⟩
  have w3 := w2.put (φ' := oins (ga K c) (ms' q)) ho' ⟨dx, _, rfl, by rw [← e q]; exact put_paired (m := adr q) rfl hp⟩
  exact hk q σ G2 _ D (rp.mono (s1.trans s2)) w3 (Z.mono (s1.trans s2) z)
theorem At.imp {G H : Hp} {k : Nat} {p : Addr} {φ' : OC} (w : At G ω H) (e : ω[k]? = some (Ent.own p φ)) (i : ∀ o, H p = some o → φ.p G o → φ'.p G o) : At G (ω.set k (.own p φ')) H := by
  obtain ⟨np, o, eo, ho⟩ := w.own k p φ e
  have w2 := w.put (φ' := φ') (o := o) e (i o eo ho)
  have same : upd H p o = H := funext fun b => by
    by_cases c : b = p
    · rw [c, upd_same, eo]
    · rw [upd_ne c]
  rw [same] at w2
  exact w2
theorem paired_set {G : Hp} {f : Str} {m : MP} : ∀ {fs : List (Str × V)} {ms : List (Str × MP)} {i : Nat} {m0 : MP}, Paired (fun (f : Str × V) (m : Str × MP) => f.1 = m.1 ∧ m.2.p G f.2) fs ms → ms[i]? = some (f, m0) → (∀ v, m0.p G v → m.p G v) → Paired (fun (f : Str × V) (m : Str × MP) => f.1 = m.1 ∧ m.2.p G f.2) fs (ms.set i (f, m))
  | _, _, _, _, .nil, h, _ => by cases h
  | _, _, 0, _, .cons r t, h, i => by
    cases h
    exact .cons ⟨r.1, i _ r.2⟩ t
  | _, _, _ + 1, _, .cons r t, h, i => .cons r (paired_set t h i)
/-- a dict of one's own object stands still from here on -/
theorem Go.freezeFT {α : Type} [Rp α] {d : DicT α} {c s p : Addr} {ms : List (Str × MP)} {f : Str} {k j i : Nat} {x : Res X} (ho : ω[k]? = some (Ent.own p (odicT K d))) (hs : (ω.eraseIdx k)[j]? = some (Ent.own s (oins c ms))) (hm : ms[i]? = some (f, adr p)) (h : Go ts Γ ((ω.eraseIdx k).set j (.own s (oins c (ms.set i (f, is K d))))) Z x) : Go ts Γ ω Z x := fun σ G H D rp w z => by
  obtain ⟨o, e, ⟨kvs, rfl, hv, l⟩, w3, s3⟩ := (w.front ho).freeze
  have q : Rp.rep K (upd G p (stl (.dT kvs))) (.ref p) d := ⟨p, kvs, z0, rfl, upd_same, AllT.mono s3 hv, l⟩
  have w4 := w3.imp (φ' := oins c (ms.set i (f, is K d))) hs fun o' _ ⟨dx, fs, e', h'⟩ => ⟨dx, fs, e', paired_set h' hm fun v hv => by
    have ev : v = V.ref p := hv
    rw [ev]
    exact q⟩
  exact h σ _ H D (rp.mono s3) w4 (Z.mono s3 z)
/-- (a, *pair) -/
theorem EvX.starP {α β γ : Type} [Rp α] [Rp β] [Rp γ] {x : α} {y : β × γ} (ha : EvX ta Γ ω ω1 (is K x)) (hb : EvX tb Γ ω1 ω2 (is K y)) : EvX (tTup (tCons ta (StX.tStar K tb tNil))) Γ ω ω2 (is K (T3.mk x y.1 y.2)) := fun σ G H Q r w q => ha σ G H _ r w fun v1 G1 H1 s1 w1 p1 => hb σ G1 H1 _ (r.mono s1) w1 fun v2 G2 H2 s2 w2 p2 => by
  obtain ⟨a, u, v, rfl, e, h1, h2⟩ := p2
  refine ⟨a, [u, v], rfl, .inl (RC.st_of (w2.tup e)), Nat.le_of_ble_eq_true rfl, fun p hp => ?_⟩
  obtain ⟨w3, s3⟩ := w2.new (o := .tup [v1, u, v]) hp
  exact q _ _ _ (s1.trans (s2.trans s3)) w3 ⟨p, v1, u, v, rfl, upd_same, Rp.mono (s2.trans s3) p1, Rp.mono s3 h1, Rp.mono s3 h2⟩
theorem CaX.intB {b : Bool} : CaX RC.rInt1 ω ω [is K b] (is K (if b then 1 else 0 : Int)) := fun G H vs Q w p q => by
  obtain ⟨v, rfl, e⟩ := PArgs.one p
  have ev : v = V.bl b := e
  subst ev
  exact .inr ⟨b, rfl, q _ G H (Le.refl _) w rfl⟩
theorem OpX.thrA {α β γ : Type} [Rp α] [Rp β] [Rp γ] {t : T3 α β γ} : OpX (rIxT K) ω ω (is K t) (is K (0 : Int)) (is K t.a) := fun G H u v Q w p1 p2 q => by
  obtain ⟨a, x, y, z, rfl, ea, h, _, _⟩ := p1
  cases p2
  exact ⟨a, _, 0, x, rfl, rfl, RC.st_of (w.tup ea), rfl, q x G H (Le.refl _) w h⟩
theorem OpX.thrB {α β γ : Type} [Rp α] [Rp β] [Rp γ] {t : T3 α β γ} : OpX (rIxT K) ω ω (is K t) (is K (1 : Int)) (is K t.b) := fun G H u v Q w p1 p2 q => by
  obtain ⟨a, x, y, z, rfl, ea, _, h, _⟩ := p1
  cases p2
  exact ⟨a, _, 1, y, rfl, rfl, RC.st_of (w.tup ea), rfl, q y G H (Le.refl _) w h⟩
theorem OpX.thrC {α β γ : Type} [Rp α] [Rp β] [Rp γ] {t : T3 α β γ} : OpX (rIxT K) ω ω (is K t) (is K (2 : Int)) (is K t.c) := fun G H u v Q w p1 p2 q => by
  obtain ⟨a, x, y, z, rfl, ea, _, _, h⟩ := p1
  cases p2
  exact ⟨a, _, 2, z, rfl, rfl, RC.st_of (w.tup ea), rfl, q z G H (Le.refl _) w h⟩
end
end Lf
/-! ## Triples: displays, among any values; tuples of ints in order -/
namespace Lf
open PySem PySem.Spec PyProof.Rows L2
open PySem.W (Frag)
def ltI (x y : Tu Int) : Bool := HT.lexLt x.l y.l
theorem intsV {K : Frag} {G : Hp} : ∀ {vs : List V} {l : List Int}, All K G vs l → vs = l.map V.int
  | _, _, .nil => rfl
  | _, _, .cons r t => by rw [List.map_cons, ← intsV t, show _ = V.int _ from r]
def PV.as3 (x : PV) : Option (T3 PV PV PV) := match x.asT with
  | some ⟨[a, b, c]⟩ => some ⟨a, b, c⟩
  | _ => none
theorem as3_imp {K : Frag} {x : PV} {t : T3 PV PV PV} (e : x.as3 = some t) (G : Hp) (v : V) (p : (is K x).p G v) : (is K t).p G v := by
  unfold PV.as3 at e
  split at e
  · rename_i a b c h
    cases e
    obtain ⟨q, vs, rfl, eq, ha, _⟩ := asT_imp h G v p
    cases ha with
    | cons r1 t1 => cases t1 with
      | cons r2 t2 => cases t2 with
        | cons r3 t3 =>
          cases t3
          exact ⟨q, _, _, _, rfl, eq, r1, r2, r3⟩
  · cases e
def PV.all3 : List PV → Option (List (T3 PV PV PV))
  | [] => some []
  | x :: xs => match x.as3, PV.all3 xs with
    | some t, some r => some (t :: r)
    | _, _ => none
theorem all3_imp {K : Frag} {G : Hp} : ∀ {vs : List V} {xs : List PV} {ts : List (T3 PV PV PV)}, All K G vs xs → PV.all3 xs = some ts → All K G vs ts ∧ ts.length = xs.length
  | _, _, _, .nil, e => by
    cases e
    exact ⟨.nil, rfl⟩
  | _, _, _, .cons (b := x) r t, e => by
    unfold PV.all3 at e
    split at e
    · rename_i i r' h1 h2
      cases e
      obtain ⟨a, b⟩ := all3_imp t h2
      exact ⟨.cons (as3_imp h1 G _ r) a, by rw [List.length_cons, List.length_cons, b]⟩
    · cases e
/-- a list of triples -/
def PV.asL3 (x : PV) : Option (List (T3 PV PV PV)) := match x.asL with
  | some xs => PV.all3 xs
  | none => none
theorem asL3_imp {K : Frag} {x : PV} {ts : List (T3 PV PV PV)} (e : x.asL3 = some ts) (G : Hp) (v : V) (p : (is K x).p G v) : (is K ts).p G v := by
  unfold PV.asL3 at e
  split at e
  · rename_i xs h
    obtain ⟨a, vs, rfl, ea, ha, l⟩ := asL_imp h G v p
    obtain ⟨q1, q2⟩ := all3_imp ha e
    exact ⟨a, vs, rfl, ea, q1, by rw [q2]; exact l⟩
  · cases e
section
variable {K : Frag} {Γ : Gm} {ω ω1 : List Ent} {te : TE} {tA : TA}
theorem OpX.ltI {x y : Tu Int} : OpX (rLtT K) ω ω (is K x) (is K y) (is K (Lf.ltI x y)) := fun G H u v Q w p1 p2 q => by
  obtain ⟨a, us, rfl, ea, h1, _⟩ := p1
  obtain ⟨b, vs, rfl, eb, h2, _⟩ := p2
  have e1 := intsV h1
  have e2 := intsV h2
  subst e1
  subst e2
  exact ⟨a, b, x.l, y.l, rfl, rfl, RC.st_of (w.tup ea), RC.st_of (w.tup eb), q _ G H (Le.refl _) w rfl⟩
theorem EvX.trip {α β γ : Type} [Rp α] [Rp β] [Rp γ] {x : α} {y : β} {z : γ} (h : EvA tA Γ ω ω1 [is K x, is K y, is K z]) : EvX (tTup tA) Γ ω ω1 (is K (T3.mk x y z)) := fun σ G H Q r w q => h σ G H _ r w fun vs G1 H1 s1 w1 p1 => by
  cases p1 with
  | cons r1 t1 => cases t1 with
    | cons r2 t2 => cases t2 with
      | cons r3 t3 =>
        cases t3
        refine ⟨by show 3 ≤ sizeLine; decide, fun a ha => ?_⟩
        obtain ⟨w2, s2⟩ := w1.new (o := .tup [_, _, _]) ha
        exact q _ _ _ (s1.trans s2) w2 ⟨a, _, _, _, rfl, upd_same, Rp.mono s2 r1, Rp.mono s2 r2, Rp.mono s2 r3⟩
theorem EvX.as3 {x : PV} {t : T3 PV PV PV} (h : EvX te Γ ω ω1 (is K x)) (e : x.as3 = some t) : EvX te Γ ω ω1 (is K t) := h.as (as3_imp e)
theorem EvX.asL3 {x : PV} {t : List (T3 PV PV PV)} (h : EvX te Γ ω ω1 (is K x)) (e : x.asL3 = some t) : EvX te Γ ω ω1 (is K t) := h.as (asL3_imp e)
end
instance {α β γ : Type} [t : ToPV α] [s : ToPV β] [r : ToPV γ] : ToPV (T3 α β γ) := { of := fun x => .tup [t.of x.a, s.of x.b, r.of x.c], conv := fun ⟨_, _, _, _, e, h, p1, p2, p3⟩ => e ▸ .tup h (.cons (t.conv p1) (.cons (s.conv p2) (.cons (r.conv p3) .nil))) }
end Lf
/-! ## {key: value for .. in ..}: a new dict whose keys are tuples -/
namespace Zs
open PySem PySem.Spec PyProof.Rows L2
/-- a comprehension puts a pair into a dict by tuples -/
theorem put_pair {X : Cx} {pins : List (Addr × Obj)} {σ : L2.St} {H : Hp} {s : Shared} {E : Value → Shared → Prop} {D b : Addr} {kvs : List (List Key × V)} {k : List Key} {v : V} {r : Value} {Q : Unit → Shared → Prop} (roomy : X.A.units + 1 < cLine) (I : Inv X pins σ H s)
    (eD : H D = some (.dT kvs)) (eb : H b = some (.tup (k.map kV))) (few : kvs.length < sizeLine) (rv : RelV v r) (next : ∀ s', Inv X pins σ (upd H D (.dT (putK kvs k v))) s' → Q () s') :
    wpAny (model X.prog X.w) X.A (dictSet D (.ref b) r) Q E s := by
  obtain ⟨z, low, xs, rel, tab⟩ := dt_of I.hok eD
  have zx : xs.length ≤ sizeLine := by rw [← Paired.length rel]; exact z
  have more := length_putK kvs k v
  refine wpAny_dictSet_heap (hsz := zx) (Nat.lt_of_succ_lt roomy) (key_of I.hok eb) tab fun h2 tab2 but => next _ ?_
  obtain ⟨q, es, ep, eq, t1, t2, t3, _, t4⟩ := tab2
  refine d_write I (by rw [eD]; exact True.intro) but ⟨q, eq⟩ ⟨by omega, low, _, (rel.put k eb rv).keeps fun c ys ec => ?_, q, es, ep, eq, t1, t2, t3, t4⟩
  rw [upd_ne fun z => by rw [z, eD] at ec; cases ec]
  exact ec
section
variable {X : Cx}
def tDcT (wi : TI) (g : TG) (tt : TT) (tk tv : TE) (vs : List Nat) : TE := fun σ H Q => wi σ H fun J H1 => ∀ D, H1 D = none → ∃ W : Nat → Nat → Hp → Prop, (∃ m, W 0 m (upd H1 D (.dT []))) ∧ ∀ i m H, W i m H →
  (J.stop i H ∧ Q (.ref D) H) ∨ (J.go i H ∧ ∃ N : Hp → Prop, (∀ H', N H' → ∃ m', m' < m ∧ W (i + 1) m' H') ∧ ∀ x H', J.yld i H x H' → g x (wipe σ vs) H' fun σ2 H2 => wipe σ2 vs = wipe σ vs ∧ tt σ2 H2 fun b H3 =>
    if b = true then tk σ2 H3 fun y H4 => tv σ2 H4 fun z H5 => ∃ kvs k q, y = .ref q ∧ H5 q = some (.tup (k.map kV)) ∧ H5 D = some (.dT kvs) ∧ kvs.length < sizeLine ∧ N (upd H5 D (.dT (putK kvs k z))) else N H3)
abbrev InBlk (X : Cx) (scope : Scope) (P : Cx → Prop) : Prop := ∀ (s : Shared) (H : Hp) (C : Addr) (cl : List (Str × Addr)) (fp : List Addr), P (X.blk s H scope (compEnvC scope cl C X.env) fp)
set_option maxRecDepth 100000
theorem dcT_core {pins : List (Addr × Obj)} {s : Shared} {σ : L2.St} {H : Hp} {Q : VK} {kx vx tg iter : Expr} {ifs : List Expr} {scope : Scope} {own : List (Str × Nat)} {pos pos' : Pos} {wi : TI} {g : TG} {tt : TT} {tk tv : TE} {use : Option (Value → Sem Unit)} {Z : Value → Shared → Prop} (roomy : X.A.units + 1 < cLine) (calm : X.calm = true) (uniq : X.N.Nodup) (I : Inv X pins σ H s) (pi : PI X tg iter wi) (ok : BlkOk X.N X.env.scope scope own)
    (gs : InBlk X scope fun Y => PG Y tg g) (ts : InBlk X scope fun Y => PTs Y ifs tt) (ks : InBlk X scope fun Y => PE Y kx tk) (vs : InBlk X scope fun Y => PE Y vx tv) (plain : ∀ x, foldedSetIterable iter X.env x = pure x) (h : tDcT wi g tt tk tv (own.map (·.2)) σ H Q)
    (fin : ∀ D C s' m H', Inv X pins σ H' s' → Q (.ref D) H' → s'.heap.Ns C m → FpOk X pins H' C → compPost (model X.prog X.w) X.A X.xe use Z (.ref D) C (.ok .next) s') :
    wpAny (model X.prog X.w) X.A (comprehension (.DictComp kx vx [⟨tg, iter, ifs, 0⟩] scope pos) scope X.env pos' newDict false (eval iter X.env) use) Z X.xe s := by
  have frees : ∀ y ∈ scope.names, y.2 = .free → ∃ c, X.env.cells.lookup y.1 = some c := fun y hy e => (ok.free y hy e).elim (fun z => I.ok.has _ (.inl z)) fun z => I.ok.has _ (.inr z)
  refine wpAny_comprehension_free (use := use) rfl plain (closure_ok frees) ok.kind (fun y hy e => by rw [ok.uniq y hy, e]) (thn (pi.run pins s σ H _ I h) fun _ s1 z1 => thn z1 fun itv s2 z2 => ?_)
  obtain ⟨it, fp, tn, J, H2, e, I2, T, now2, pins2, q⟩ := z2
  subst e
  refine wpAny_newObj_type (newEnv_comp ?_)
  generalize eD : s2.heap.objs.size = D
  obtain ⟨W, ⟨m0, w0⟩, turn⟩ := q D (I2.hok.fresh (Nat.le_of_eq eD))
  generalize e3 : ({ s2 with heap := s2.heap.push { cls := .type "dict", data := .dict #[] } } : Shared) = s3
  have I3 : Inv X pins σ (upd H2 D (.dT [])) s3 := by
    rw [← e3]
    refine I2.laid (t' := s2.toks) (fun b o z => Heap.get?_push_of_some _ z) (Nat.le_of_eq eD) ?_
    rw [← eD]
    exact dt_empty s2.heap I2.big
  have heap3 : s3.heap = s2.heap.push { cls := .type "dict", data := .dict #[] } := by rw [← e3]
  have there : ∀ b ∈ fp, b < s2.heap.objs.size := fun b hb => (T.obj _ _ now2 b hb).elim fun o z => Heap.lt_size z.1
  have pins3 : ∀ b ∈ fp, FpOk X pins (upd H2 D (.dT [])) b ∧ b < s3.heap.objs.size := fun b hb => by
    have lt := there b hb
    have ne : b ≠ D := by rw [← eD]; exact Nat.ne_of_lt lt
    exact ⟨⟨by rw [upd_ne ne]; exact (pins2 b hb).1, (pins2 b hb).2⟩, by rw [heap3, Heap.size_push]; exact Nat.lt_succ_of_lt lt⟩
  have now3 : tn 0 s3.heap := T.keep _ _ _ now2 fun b _ o z => by rw [heap3]; exact Heap.get?_push_of_some _ z
  have I4 := block_start I3 ok uniq pins3
  generalize ec : cellsFrom (s3.heap.objs.size + 1) scope.names (cloFrom X.env.cells scope.names []) = cl at I4
  have g4 := gs s3 (upd H2 D (.dT [])) s3.heap.objs.size cl fp
  have t4 := ts s3 (upd H2 D (.dT [])) s3.heap.objs.size cl fp
  have k4 := ks s3 (upd H2 D (.dT [])) s3.heap.objs.size cl fp
  have v4 := vs s3 (upd H2 D (.dT [])) s3.heap.objs.size cl fp
  show codeAny _ _ (.compStart (.DictComp kx vx [⟨tg, iter, ifs, 0⟩] scope pos) 0 (.ref it) (.ref D) (compEnvC scope cl s3.heap.objs.size X.env)) (compPost (model X.prog X.w) X.A X.xe use Z (.ref D) s3.heap.objs.size) { s3 with heap := pushCells (s3.heap.push { cls := .type "dict", data := .dict #[] }) scope.names }
  have none3 : ∀ b ∈ fp, (upd H2 D (.dT [])) b = none := fun b hb => (pins3 b hb).1.1
  generalize ee : compEnvC scope cl s3.heap.objs.size X.env = ce at I4 g4 t4 k4 v4 ⊢
  have eL : ce.locals = s3.heap.objs.size := by subst ee; rfl
  generalize eH : upd H2 D (.dT []) = H3 at I3 I4 g4 t4 k4 v4 w0 none3 pins3
  generalize e4 : ({ s3 with heap := pushCells (s3.heap.push { cls := .type "dict", data := .dict #[] }) scope.names } : Shared) = s4 at I4 ⊢
  have now4 : tn 0 s4.heap := T.keep _ _ _ now3 fun b _ o z => by rw [← e4]; exact pushCells_keeps _ _ _ _ (Heap.get?_push_of_some _ z)
  have still : ∀ {σ' : L2.St} {H' : Hp} {s' : Shared}, Inv (X.blk s3 H3 scope ce fp) [] σ' H' s' → (∀ b ∈ fp, H' b = none) → ∀ b ∈ fp, FpOk (X.blk s3 H3 scope ce fp) [] H' b := fun {σ' H' s'} I' no b hb =>
    ⟨no b hb, (I'.ok.exf b hb).1, I'.ok.exfs b hb, .inl hb, fun x c z => (I'.ok.exf b hb).2 x c z, fun p hp => absurd (show p ∈ ([] : List (Addr × Obj)) ++ [] from hp) (by simp)⟩
  have walk : codeAny (model X.prog X.w) X.A (.compLoop (.DictComp kx vx [⟨tg, iter, ifs, 0⟩] scope pos) 0 (.ref it) (.ref D) ce) (compPost (model X.prog X.w) X.A X.xe use Z (.ref D) s3.heap.objs.size) s4 := by
    refine compLoop_anyD (fun n s' => ∃ i H', Inv (X.blk s3 H3 scope ce fp) [] (wipe σ (own.map (·.2))) H' s' ∧ tn i s'.heap ∧ (∀ b ∈ fp, H' b = none) ∧ W i n H') ?_ m0 ⟨0, H3, I4, now4, none3, w0⟩
    rintro n s5 ⟨i, H5, I5, now5, none5, w5⟩
    rcases turn i n H5 w5 with ⟨stop, done⟩ | ⟨go, N, hN, step⟩
    · refine thnF (T.done (X.blk s3 H3 scope ce fp) rfl rfl rfl calm i [] s5 _ H5 (fun _ _ => False) I5 (still I5 none5) now5 stop) fun r s6 ⟨er, I6⟩ => ?_
      subst er
      have I7 : Inv X pins σ H5 s6 := I3.call' (ch := fp) I6.os I6.base I6.hok I6.bare fun b hb => ⟨(pins3 b hb).1.2.2.2.1, (pins3 b hb).1.2.1, (pins3 b hb).1.2.2.2.2.1, (pins3 b hb).1.2.2.2.2.2⟩
      have noC : H5 s3.heap.objs.size = none := by
        have z : H5 ce.locals = none := I6.free
        rw [eL] at z
        exact z
      obtain ⟨m, names, _⟩ := I6.loc
      have names : s6.heap.Ns ce.locals m := names
      rw [eL] at names
      exact fin D s3.heap.objs.size s6 m H5 I7 done names (I3.fpOk (Nat.le_refl _) noC)
    · refine thnF (T.item (X.blk s3 H3 scope ce fp) rfl rfl rfl calm i [] s5 _ H5 (fun _ _ => False) I5 (still I5 none5) now5 go) fun r s6 ⟨u, er, z6⟩ => ?_
      subst er
      refine thnF z6 fun _ s7 ⟨x, H7, I7, r7, y7, now7, none7⟩ => ?_
      have P7 := I7.pinned (still I7 none7) (T.obj _ _ now7)
      refine thnF (g4.run _ s7 _ H7 x u _ P7 r7 (step x H7 y7)) fun _ s8 ⟨σ8, H8, I8, w8, q8⟩ => ?_
      refine thnF (t4.run _ s8 σ8 H8 _ I8 q8) fun b s9 ⟨H9, I9, q9⟩ => ?_
      have turned : ∀ {s' : Shared} {H' : Hp}, Inv (X.blk s3 H3 scope ce fp) ([] ++ pinsAt fp s7.heap) σ8 H' s' → N H' → ∃ m, m < n ∧ ∃ i H', Inv (X.blk s3 H3 scope ce fp) [] (wipe σ (own.map (·.2))) H' s' ∧ tn i s'.heap ∧ (∀ b ∈ fp, H' b = none) ∧ W i m H' := fun {s' H'} I' nx => by
        obtain ⟨m', less, w'⟩ := hN H' nx
        have kept : ∀ b ∈ fp, ∀ o, s7.heap.get? b = some o → s'.heap.get? b = some o ∧ H' b = none := fun b hb o z =>
          (I'.pin (b, o) (List.mem_append_right _ (List.mem_append_right _ (mem_pinsAt hb z)))).imp_right And.left
        have lens : (wipe σ (own.map (·.2))).length = σ8.length := by rw [← w8, wipe_length]
        refine ⟨m', less, i + 1, H', (I'.unpinned (pins := [])).weak lens (fun j v z => by rw [← w8] at z; exact (wipe_some z).1), T.keep _ _ _ now7 fun b hb o z => (kept b hb o z).1, fun b hb => ?_, w'⟩
        exact (T.obj _ _ now7 b hb).elim fun o z => (kept b hb o z.1).2
      cases b with
      | false => exact turned I9 q9
      | true =>
        have q9 : tk σ8 H9 fun y H4 => tv σ8 H4 fun z H5 => ∃ kvs k q, y = .ref q ∧ H5 q = some (.tup (k.map kV)) ∧ H5 D = some (.dT kvs) ∧ kvs.length < sizeLine ∧ N (upd H5 D (.dT (putK kvs k z))) := q9
        refine thnF (k4.run _ s9 σ8 H9 _ I9 q9) fun z s10 ⟨yk, H10, I10, r10, q10⟩ => ?_
        refine thnF (v4.run _ s10 σ8 H10 _ I10 q10) fun z2 s11 ⟨yv, H11, I11, r11, kvs, k, a, ek, ea, eD11, few, nx⟩ => ?_
        subst ek
        have ez : z = Value.ref a := r10
        subst ez
        exact put_pair (X := X.blk s3 H3 scope ce fp) roomy I11 eD11 ea few r11 fun s12 I12 => turned I12 nx
  exact codeAny_compStart_dict walk (T.self X.A 0 _ _ _ now4 walk)
theorem pe_dcT {kx vx tg iter : Expr} {ifs : List Expr} {scope : Scope} {own : List (Str × Nat)} {pos : Pos} {wi : TI} {g : TG} {tt : TT} {tk tv : TE} (roomy : X.A.units + 1 < cLine) (calm : X.calm = true) (uniq : X.N.Nodup) (pi : PI X tg iter wi) (ok : BlkOk X.N X.env.scope scope own)
    (gs : InBlk X scope fun Y => PG Y tg g) (ts : InBlk X scope fun Y => PTs Y ifs tt) (ks : InBlk X scope fun Y => PE Y kx tk) (vs : InBlk X scope fun Y => PE Y vx tv) (plain : ∀ x, foldedSetIterable iter X.env x = pure x := by intro _; rfl) :
    PE X (.DictComp kx vx [⟨tg, iter, ifs, 0⟩] scope pos) (tDcT wi g tt tk tv (own.map (·.2))) := by
  refine ⟨fun pins s σ H Q I h => ?_⟩
  rw [arm_eval_DictComp]
  refine dcT_core roomy calm uniq I pi ok gs ts ks vs plain h fun D C s' m H' I' q names f => ⟨m, names, fun h9 same => ?_⟩
  obtain ⟨f0, f1, f2, f3, f4, f5⟩ := f
  exact ⟨.ref D, H', I'.turned (t' := s'.toks) (fun b o hb z => (same.2 b hb).trans z) f0 f1 f3 f4 f5, rfl, q⟩
theorem sw_dc {kx vx : Expr} {gs : List Comprehension} {scope : Scope} {pos py : Pos} {y : Str} {l : Nat} {env : Env} (k : env.scope.kind = .function) (loc : env.scope.names.lookup y = some .local) (row : (py.line == pos.line) = true)
    (apart : (scope.names.any fun (n, k) => n == y && (k == .local || k == .cell)) = false) : swapsWith (.DictComp kx vx gs scope pos) (some (.Name y py)) l env = pure true := by
  have k1 : env.kindOf y = some .local := loc
  have k2 : env.blockKind = .function := by unfold Env.blockKind; rw [k]; rfl
  unfold swapsWith
  simp only [k2, k1, apart, Expr.pos, row]
  rfl
/-- x = {key: value for .. in ..} -/
theorem ps_setDcT {i : Nat} {y : Str} {py : Pos} {kx vx tg iter : Expr} {ifs : List Expr} {scope : Scope} {own : List (Str × Nat)} {pos spos : Pos} {wi : TI} {g : TG} {tt : TT} {tk tv : TE} (roomy : X.A.units + 1 < cLine) (calm : X.calm = true) (uniq : X.N.Nodup) (at_ : X.N[i]? = some y) (loc : X.env.scope.names.lookup y = some .local)
    (sw : swapsWith (.DictComp kx vx [⟨tg, iter, ifs, 0⟩] scope pos) (some (.Name y py)) spos.line X.env = pure true) (pi : PI X tg iter wi) (ok : BlkOk X.N X.env.scope scope own)
    (gs : InBlk X scope fun Y => PG Y tg g) (ts : InBlk X scope fun Y => PTs Y ifs tt) (ks : InBlk X scope fun Y => PE Y kx tk) (vs : InBlk X scope fun Y => PE Y vx tv) (plain : ∀ x, foldedSetIterable iter X.env x = pure x := by intro _; rfl) :
    PS X (.Assign [.Name y py] (.DictComp kx vx [⟨tg, iter, ifs, 0⟩] scope pos) spos) (tAsg (tDcT wi g tt tk tv (own.map (·.2))) (gName i)) := by
  refine ⟨fun pins s σ H D I h => ?_⟩
  rw [exec_Assign_Name_used _ _ _ _ sw]
  refine wpAny_bind (wpAny_standAt (wpAny_bind ?_))
  show wpAny _ X.A (do let _ ← comprehension (.DictComp kx vx [⟨tg, iter, ifs, 0⟩] scope pos) scope X.env (firstIterPos [⟨tg, iter, ifs, 0⟩] pos) newDict false (eval iter X.env) (some (assign (.Name y py) X.env))) _ _ s
  have h' : tDcT wi g tt tk tv (own.map (·.2)) σ H (fun x H1 => gName i x σ H1 D.nx) := h
  refine wpAny_bind (thn (dcT_core (Z := fun _ s' => SP X pins D .next s') roomy calm uniq I pi ok gs ts ks vs plain h' fun L C s' m H' I' q names f => ?_) fun _ _ z => wpAny_pure (wpAny_pure z))
  show wpAny _ _ (assign (.Name y py) X.env (.ref L)) _ _ _
  refine wpAny_assign_Name (store_ok2 (v := V.ref L) I' uniq at_ (.inl loc) rfl (fun s2 I2 ⟨a, but, ha⟩ => ?_) (.inr loc))
  obtain ⟨f0, f1, f2, f3, f4, f5⟩ := f
  have apart : C ≠ a := ha.elim (fun z => by rw [z]; exact f1) fun z e => f4 y a z e.symm
  exact ⟨m, names.sameBut but apart, fun h9 same => ⟨_, H', I2.turned (t' := s2.toks) (fun b o hb z => (same.2 b hb).trans z) f0 f1 f3 f4 f5, q⟩⟩
end
end Zs
namespace Lf
open PySem PySem.Spec PyProof.Rows L2 Zs
open PySem.W (Frag)
/-- the pairs of a comprehension, put one after another -/
def dcT {α β : Type} (fb : α → Option (Tu Int × β)) : List α → List (Tu Int × β) → Option (List (Tu Int × β))
  | [], acc => some acc
  | x :: xs, acc => match fb x with
    | some kv => if acc.length < sizeLine then dcT fb xs (putL acc kv.1 kv.2) else none
    | none => none
theorem dcT_drop {α β : Type} {fb : α → Option (Tu Int × β)} {xs : List α} {i : Nat} {a : α} (h : xs[i]? = some a) (acc : List (Tu Int × β)) : dcT fb (xs.drop i) acc = match fb a with
    | some kv => if acc.length < sizeLine then dcT fb (xs.drop (i + 1)) (putL acc kv.1 kv.2) else none
    | none => none := by
  obtain ⟨l, e⟩ := List.getElem?_eq_some_iff.mp h
  rw [List.drop_eq_getElem_cons l, e]
  rfl
section
variable {K : Frag} {Γ : Gm} {ω : List Ent} {α β : Type} [Rp α] [Rp β] {tk tv : TE}
theorem EvF.dcT {wi : TI} {g : TG} {vs : List Nat} {P : List Ent → Prop} {xs : List α} {ys : List (Tu Int × β)} {fb : α → Option (Tu Int × β)} {Γb : α → Gm} (hi : IterX K wi Γ ω ω P xs) (hP : P ω) (hP' : ∀ p φ, P ω → P (.own p φ :: ω)) (ht : TgW K g vs (wipeG Γ vs) Γb) (h : Lf.dcT fb xs [] = some ys)
    (hb : ∀ a kv p φ, fb a = some kv → EvX tk (Γb a) (.own p φ :: ω) (.own p φ :: ω) (is K kv.1) ∧ EvX tv (Γb a) (.own p φ :: ω) (.own p φ :: ω) (is K kv.2)) : EvF (tDcT wi g tYes tk tv vs) Γ ω ω (odicT K (DicT.mk ys)) := fun σ G H Q rp w q => hi σ G H _ rp w fun J G2 H2 s2 w2 wk D hD => by
  have hl := wk.len
  refine ⟨fun i m H' => m = xs.length - i ∧ i ≤ xs.length ∧ ∃ acc G', Le G2 G' ∧ At G' (.own D (odicT K (DicT.mk acc)) :: ω) H' ∧ Lf.dcT fb (xs.drop i) acc = some ys, ⟨xs.length, by simp, Nat.zero_le _, [], G2, Le.refl _, w2.newOwn hD ⟨[], rfl, .nil, Nat.zero_le _⟩, h⟩, ?_⟩
  rintro i m H' ⟨rfl, hle, acc, G', sG, w', ef⟩
  by_cases hlt : i < xs.length
  · have hx : xs[i]? = some xs[i] := List.getElem?_eq_getElem hlt
    rw [dcT_drop hx] at ef
    refine .inr ⟨wk.go G' _ H' i sG w' (hP' _ _ hP) hlt, fun H3 => ∃ acc G3, Le G2 G3 ∧ At G3 (.own D (odicT K (DicT.mk acc)) :: ω) H3 ∧ Lf.dcT fb (xs.drop (i + 1)) acc = some ys, fun H3 q => ⟨xs.length - (i + 1), by omega, rfl, hlt, q⟩, fun x H3 y => ?_⟩
    obtain ⟨G3, s3, w3, px⟩ := wk.yld G' _ H' i x H3 _ sG w' (hP' _ _ hP) hx y
    have rw0 := (rp.mono (s2.trans (sG.trans s3))).wipe vs
    refine ht _ _ G3 H3 _ x _ rw0 w3 px fun σ4 l4 k4 r4 => ⟨?_, ?_⟩
    · refine (wipe_eq l4 k4).trans (wipe_eq (by rw [wipe_length]) fun i hi => ?_)
      rw [wipe_get, if_neg hi]
    · unfold tYes
      dsimp only
      rw [if_pos rfl]
      cases ho : fb xs[i] with
      | none =>
        rw [ho] at ef
        cases ef
      | some kv =>
        rw [ho] at ef
        dsimp only at ef
        split at ef
        · rename_i few
          obtain ⟨ek, ev⟩ := hb _ kv D (odicT K (DicT.mk acc)) ho
          refine ek σ4 G3 H3 _ r4 w3 fun a1 G4 H4 s4 w4 p1 => ev σ4 G4 H4 _ (r4.mono s4) w4 fun a2 G5 H5 s5 w5 p2 => ?_
          obtain ⟨o, eo, kvs, rfl, hv, l⟩ := w5.ownAt (k := 0) rfl
          obtain ⟨b, rfl, eb, lb⟩ := tup_key (Rp.mono s5 p1)
          refine ⟨kvs, kT kv.1, b, rfl, w5.get eb, eo, by rw [Paired.len hv]; exact few, putL acc kv.1 kv.2, G5, sG.trans (s3.trans (s4.trans s5)), ?_, ef⟩
          exact w5.put (k := 0) (φ' := odicT K (DicT.mk (putL acc kv.1 kv.2))) rfl ⟨_, rfl, putKT_of lb p2 hv, Nat.le_trans (putLT_len _ _ _) few⟩
        · cases ef
  · have e : i = xs.length := by omega
    subst e
    rw [List.drop_of_length_le (Nat.le_refl _)] at ef
    cases ef
    exact .inl ⟨wk.stop G' _ H' sG w' (hP' _ _ hP), q D G' H' (s2.trans sG) w'⟩
theorem pairE {Γb : Gm} {ω1 : List Ent} {k : Tu Int} {v : β} {kv : Tu Int × β} (h1 : EvX tk Γb ω1 ω1 (is K k)) (h2 : EvX tv Γb ω1 ω1 (is K v)) (e : some (k, v) = some kv) : EvX tk Γb ω1 ω1 (is K kv.1) ∧ EvX tv Γb ω1 ω1 (is K kv.2) := by
  cases e
  exact ⟨h1, h2⟩
end
end Lf
/-! ## dict(pairs): a new dict whose keys are tuples -/
namespace Zs
open PySem PySem.Spec PyProof.Rows L2
open PySem.W (Frag)
/-- a pair's place, its key's place, its value, the key -/
structure PrT where
  p : Addr
  q : Addr
  v : V
  k : List Key
def rDictT (K : Frag) : List V → Hp → VK → Prop := fun xs H Q => ∃ (a : Addr) (us : List PrT), xs = [.ref a] ∧ SqL K H a (us.map fun u => V.ref u.p) ∧ (∀ u ∈ us, SqT K H u.p [V.ref u.q, u.v] ∧ H u.q = some (.tup (u.k.map kV))) ∧
  ∀ p, H p = none → Q (.ref p) (upd H p (.dT (putAll [] (us.map fun u => (u.k, u.v)))))
theorem pairs_seen {X : Cx} {pins : List (Addr × Obj)} {σ : L2.St} {H : Hp} {s : Shared} (I : Inv X pins σ H s) : ∀ {us : List PrT}, (∀ u ∈ us, SqT X.K H u.p [V.ref u.q, u.v] ∧ H u.q = some (.tup (u.k.map kV))) →
    ∃ ys : List Value, ys.length = us.length ∧ ∀ (j : Nat) (u : PrT) (y : Value), us[j]? = some u → ys[j]? = some y → IsTup s.heap u.p #[.ref u.q, y] ∧ RelV u.v y
  | [], _ => ⟨[], rfl, fun j u y e => by simp at e⟩
  | u :: us, h => by
    obtain ⟨ys, len, hy⟩ := pairs_seen I (us := us) fun w hw => h w (List.mem_cons_of_mem _ hw)
    obtain ⟨its, rv, tup, _⟩ := I.tuple (h u List.mem_cons_self).1
    obtain ⟨x, y, ei, rx, ry⟩ := vals2 rv
    subst ei
    cases rx
    refine ⟨y :: ys, by rw [List.length_cons, List.length_cons, len], fun j w z e1 e2 => ?_⟩
    cases j with
    | zero =>
      cases e1
      cases e2
      exact ⟨tup, ry⟩
    | succ j => exact hy j w z e1 e2
theorem refsP : ∀ {us : List PrT} {vs : List Value}, Vals (us.map fun u => V.ref u.p) vs → vs = us.map fun u => Value.ref u.p
  | [], _, r => by
    cases r
    rfl
  | u :: us, _, r => by
    cases r with
    | cons h t =>
      cases h
      rw [refsP t]
      rfl
theorem zip_at {α β : Type} : ∀ {xs : List α} {ys : List β} {j : Nat} {z : α × β}, (xs.zip ys)[j]? = some z → xs[j]? = some z.1 ∧ ys[j]? = some z.2
  | x :: xs, y :: ys, 0, z, e => by
    cases e
    exact ⟨rfl, rfl⟩
  | x :: xs, y :: ys, j + 1, z, e => zip_at (xs := xs) (ys := ys) e
  | [], _, _, _, e => by cases e
  | _ :: _, [], _, _, e => by cases e
theorem kt_of {H : Hp} : ∀ {us : List PrT} {ys : List Value}, ys.length = us.length → (∀ (j : Nat) (u : PrT) (y : Value), us[j]? = some u → ys[j]? = some y → H u.q = some (.tup (u.k.map kV)) ∧ RelV u.v y) → KT H (us.map fun u => (u.k, u.v)) ((us.zip ys).map fun z => (z.1.k, z.1.q, z.2))
  | [], [], _, _ => .nil
  | u :: us, y :: ys, l, h => .cons ⟨rfl, h 0 u y rfl rfl⟩ (kt_of (Nat.succ.inj l) fun j v z e1 e2 => h (j + 1) v z e1 e2)
  | [], _ :: _, l, _ => by cases l
  | _ :: _, [], l, _ => by cases l
theorem call_dictT {X : Cx} (calm : X.calm = true) (roomy : X.A.units + 64 < cLine) : CallR X (.type "dict") (rDictT X.K) := by
  intro pins s σ H xs us Q I r q
  obtain ⟨a, ws, ex, sq, hp, q⟩ := q
  subst ex
  obtain ⟨u, eu, rx⟩ := vals1 r
  subst eu
  cases rx
  obtain ⟨its, rv, pl, hz⟩ := I.list sq
  have ei := refsP rv
  subst ei
  rw [List.length_map] at hz
  obtain ⟨ys, len, hy⟩ := pairs_seen I hp
  obtain ⟨o, n, ho, hc, hd, hdat⟩ := pl
  have zl : (ws.zip ys).length = ws.length := by rw [List.length_zip, len, Nat.min_self]
  have mem : ∀ {j : Nat} {z : PrT × Value}, (ws.zip ys)[j]? = some z → z.1 ∈ ws := fun {j z} e => List.mem_of_getElem? (zip_at e).1
  have P := PairArg.list (prog := X.prog) (w := X.w) a (ws.map fun u => Value.ref u.p).toArray (fun j => (ws[j]?.map PrT.p).getD 0) ((ws.zip ys).map fun z => (Value.ref z.1.q, z.2))
  have keys : ∀ h' : Heap, (∀ b o, b ≠ s.heap.objs.size → s.heap.get? b = some o → h'.get? b = some o) → ∀ u ∈ ws, (tupleKind (mixKind X.prog X.w)).is h' u.k u.q := fun h' hk u hu => by
    obtain ⟨o, items, n, h1, h2, h3, h4⟩ := key_of I.hok (hp u hu).2
    exact ⟨o, items, n, hk _ _ (Nat.ne_of_lt (Heap.lt_size h1)) h1, h2, h3, h4⟩
  refine call_dict_pairsH (knd := tupleKind (mixKind X.prog X.w)) (ps := (ws.zip ys).map fun z => (z.1.k, z.1.q, z.2)) P (I.ok.hd calm) (show X.A.units + 2 < cLine by omega) ⟨⟨o, n, ho, hc, hd, hdat⟩, ?_, ?_⟩ ⟨by rw [List.length_map, List.length_map], ?_⟩ ?_ (by rw [List.length_map, zl]; exact hz) ?_
  · rw [List.size_toArray, List.length_map, List.length_map, zl]
  · intro j k v e
    rw [List.getElem?_map] at e
    cases c : (ws.zip ys)[j]? with
    | none =>
      rw [c] at e
      cases e
    | some z =>
      rw [c] at e
      cases e
      obtain ⟨e1, e2⟩ := zip_at c
      obtain ⟨t, _⟩ := hy j z.1 z.2 e1 e2
      have ep : (ws[j]?.map PrT.p).getD 0 = z.1.p := by rw [e1]; rfl
      dsimp only
      rw [ep]
      exact ⟨by rw [List.getElem?_toArray, List.getElem?_map, e1]; rfl, .inl t⟩
  · intro j k v e
    have e : ((ws.zip ys).map fun z => (Value.ref z.1.q, z.2))[j]? = some (k, v) := e
    rw [List.getElem?_map] at e
    cases c : (ws.zip ys)[j]? with
    | none =>
      rw [c] at e
      cases e
    | some z =>
      rw [c] at e
      cases e
      exact ⟨z.1.k, z.1.q, by rw [List.getElem?_map, c]; rfl, rfl⟩
  · intro h' hk x hx
    obtain ⟨z, hz', rfl⟩ := List.mem_map.mp hx
    obtain ⟨j, c⟩ := List.mem_iff_getElem?.mp hz'
    exact keys h' (fun b o nb e => hk b o nb (fun z => by cases z) e) z.1 (mem c)
  · intro h' tk tab keep
    have low : (s.heap.objs.size == sysModules) = false := beq_eq_false_iff_ne.mpr (Nat.ne_of_gt I.big)
    have few : (putAll [] (ws.map fun u => (u.k, u.v))).length ≤ sizeLine := by
      refine Nat.le_trans (putAll_len _ []) ?_
      rw [List.length_nil, Nat.zero_add, List.length_map]
      exact hz
    have kt : KT H (putAll [] (ws.map fun u => (u.k, u.v))) (storedAllH [] ((ws.zip ys).map fun z => (z.1.k, z.1.q, z.2))) := putAll_kt (kt_of len fun j u y e1 e2 => ⟨(hp u (List.mem_of_getElem? e1)).2, (hy j u y e1 e2).2⟩) .nil
    have fresh := I.hok.fresh (Nat.le_refl s.heap.objs.size)
    have kt2 : KT (upd H s.heap.objs.size (.dT (putAll [] (ws.map fun u => (u.k, u.v))))) (putAll [] (ws.map fun u => (u.k, u.v))) (storedAllH [] ((ws.zip ys).map fun z => (z.1.k, z.1.q, z.2))) := kt.keeps fun c zs ec => by
      rw [upd_ne fun z => by rw [z, fresh] at ec; cases ec]
      exact ec
    have obj : ObjOk X.prog X.w (upd H s.heap.objs.size (.dT (putAll [] (ws.map fun u => (u.k, u.v))))) h' s.heap.objs.size (.dT (putAll [] (ws.map fun u => (u.k, u.v)))) := by
      obtain ⟨o2, es, ep, t1, t2, t3, t4, _, t5⟩ := tab
      exact ⟨few, low, _, kt2, o2, es, ep, t1, t2, t3, t4, t5⟩
    exact ⟨.ref s.heap.objs.size, _, I.laid (t' := tk) (fun b o e => keep b o (fun z => by cases z) e) (Nat.le_refl _) obj, rfl, q _ fresh⟩
end Zs
namespace Lf
open PySem PySem.Spec PyProof.Rows L2 Zs
open PySem.W (Frag)
section
variable {β : Type} [Rp β] {K : Frag} {ω : List Ent}
theorem prT_of {G : Hp} : ∀ {vs : List V} {xs : List (Tu Int × β)}, All K G vs xs → ∃ ws : List PrT, vs = ws.map (fun u => V.ref u.p) ∧ (∀ u ∈ ws, G u.p = some (.tup [V.ref u.q, u.v]) ∧ G u.q = some (.tup (u.k.map kV))) ∧ AllT K G (ws.map fun u => (u.k, u.v)) xs
  | _, _, .nil => ⟨[], rfl, fun _ h => absurd h List.not_mem_nil, .nil⟩
  | _, _, .cons (b := x) r t => by
    obtain ⟨ws, e, h, a⟩ := prT_of t
    obtain ⟨p, k, v, rfl, ep, hk, hv⟩ := r
    obtain ⟨q, rfl, eq, lq⟩ := tup_key hk
    refine ⟨⟨p, q, v, kT x.1⟩ :: ws, by rw [e]; rfl, fun u hu => ?_, .cons ⟨rfl, lq, hv⟩ a⟩
    rcases List.mem_cons.mp hu with z | z
    · rw [z]
      exact ⟨ep, eq⟩
    · exact h u z
theorem CaF.dictT {xs : List (Tu Int × β)} : CaF (rDictT K) ω ω [is K xs] (odicT K (DicT.mk (putsL [] xs))) := fun G H vs Q w pa q => by
  obtain ⟨v, rfl, a, us, rfl, ea, ha, l⟩ := PArgs.one pa
  obtain ⟨ws, rfl, hw, hT⟩ := prT_of ha
  refine ⟨a, ws, rfl, RC.sq_of (w.lst ea), fun u hu => ⟨RC.st_of (w.tup (hw u hu).1), w.get (hw u hu).2⟩, fun p hp => ?_⟩
  exact q p G _ (Le.refl _) (w.newOwn hp ⟨_, rfl, putAllT_of hT .nil, Nat.le_trans (putsL_len _ _) (by rw [List.length_nil, Nat.zero_add]; exact l)⟩)
/-! ### texts in a list of texts -/
theorem strsV {G : Hp} : ∀ {vs : List V} {l : List Str}, All K G vs l → vs = l.map V.str
  | _, _, .nil => rfl
  | _, _, .cons r t => by rw [List.map_cons, ← strsV t, show _ = V.str _ from r]
theorem any_inS (n : Str) (ns : List Str) : inV (.str n) (ns.map V.str) = decide (n ∈ ns) ∧ (ns.map V.str).all flatV = true := by
  induction ns with
  | nil => exact ⟨rfl, rfl⟩
  | cons x ns ih =>
    refine ⟨?_, by rw [List.map_cons, List.all_cons, ih.2]; rfl⟩
    have h1 := ih.1
    unfold inV at h1 ⊢
    rw [List.map_cons, List.any_cons, h1]
    by_cases e : n = x
    · subst e
      simp [L2.eqV]
    · have : (x == n) = false := by simpa using fun z => e z.symm
      simp [L2.eqV, this, e]
theorem OpX.inS {n : Str} {xs : List Str} : OpX (rIn K false) ω ω (is K n) (is K xs) (is K (decide (n ∈ xs))) := fun G H u v Q w p1 p2 q => by
  have e1 : u = V.str n := p1
  subst e1
  obtain ⟨a, us, rfl, ea, ha, _⟩ := p2
  have e2 := strsV ha
  subst e2
  obtain ⟨h1, h2⟩ := any_inS n xs
  exact ⟨a, _, rfl, .inl (RC.sq_of (w.lst ea)), rfl, h2, by rw [if_neg (by decide), h1]; exact q _ G H (Le.refl _) w rfl⟩
theorem OpX.niS {n : Str} {xs : List Str} : OpX (rIn K true) ω ω (is K n) (is K xs) (is K (!decide (n ∈ xs))) := fun G H u v Q w p1 p2 q => by
  have e1 : u = V.str n := p1
  subst e1
  obtain ⟨a, us, rfl, ea, ha, _⟩ := p2
  have e2 := strsV ha
  subst e2
  obtain ⟨h1, h2⟩ := any_inS n xs
  exact ⟨a, _, rfl, .inl (RC.sq_of (w.lst ea)), rfl, h2, by rw [if_pos rfl, h1]; exact q _ G H (Le.refl _) w rfl⟩
end
end Lf
/-! ## Comprehensions whose test draws -/
namespace Lf
open PySem PySem.Spec PyProof.Rows L2
open PySem.W (Frag)
def mapTF {α β S : Type} (f : S → α → Option (S × Option β)) : List α → S → Option (S × List β)
  | [], s => some (s, [])
  | x :: xs, s => match f s x with
    | none => none
    | some a => match mapTF f xs a.1 with
      | none => none
      | some b => some (b.1, a.2.toList ++ b.2)
theorem mapTF_drop {α β S : Type} {f : S → α → Option (S × Option β)} {xs : List α} {i : Nat} {x : α} (h : xs[i]? = some x) (s : S) : mapTF f (xs.drop i) s = match f s x with
    | none => none
    | some a => match mapTF f (xs.drop (i + 1)) a.1 with
      | none => none
      | some b => some (b.1, a.2.toList ++ b.2) := by
  obtain ⟨l, e⟩ := List.getElem?_eq_some_iff.mp h
  rw [List.drop_eq_getElem_cons l, e]
  rfl
section
variable {K : Frag} {Γ : Gm} {ω : List Ent} {tt : TT} {te : TE} {α β S : Type} [Rp α] [Rp β]
theorem EvF.lcSf {wi : TI} {g : TG} {vs : List Nat} {P : List Ent → Prop} {xs : List α} {s0 : S} {r : S × List β} {fb : S → α → Option (S × Option β)} {fo : S → List Ent} {Γb : α → Gm} (hi : IterX K wi Γ ω (fo s0) P xs) (hP : ∀ s p φ, P (.own p φ :: fo s)) (ht : TgW K g vs (wipeG Γ vs) Γb) (h : mapTF fb xs s0 = some r)
    (hb : ∀ s a b p φ, fb s a = some b → ∃ c : Bool, EvT tt (Γb a) (.own p φ :: fo s) (.own p φ :: fo b.1) c ∧ (c = false → b.2 = none) ∧ (c = true → ∃ y, b.2 = some y ∧ EvX te (Γb a) (.own p φ :: fo b.1) (.own p φ :: fo b.1) (is K y))) : EvF (tLc wi g tt te vs) Γ ω (fo r.1) (olst K r.2) := fun σ G H Q rp w q => hi σ G H _ rp w fun J G2 H2 s2 w2 wk D hD => by
  have hl := wk.len
  refine ⟨fun i m H' => m = xs.length - i ∧ i ≤ xs.length ∧ ∃ s acc G' r', Le G2 G' ∧ At G' (.own D (olst K acc) :: fo s) H' ∧ acc.length ≤ i ∧ mapTF fb (xs.drop i) s = some r' ∧ r'.1 = r.1 ∧ acc ++ r'.2 = r.2, ⟨xs.length, by simp, Nat.zero_le _, s0, [], G2, r, Le.refl _, newL w2 hD .nil (Nat.zero_le _), Nat.le_refl _, h, rfl, rfl⟩, ?_⟩
  rintro i m H' ⟨rfl, hle, s, acc, G', r', sG, w', la, ef, e1, ea⟩
  by_cases hlt : i < xs.length
  · have hx : xs[i]? = some xs[i] := List.getElem?_eq_getElem hlt
    rw [mapTF_drop hx] at ef
    refine .inr ⟨wk.go G' _ H' i sG w' (hP _ _ _) hlt, fun H3 => ∃ s acc G3 r', Le G2 G3 ∧ At G3 (.own D (olst K acc) :: fo s) H3 ∧ acc.length ≤ i + 1 ∧ mapTF fb (xs.drop (i + 1)) s = some r' ∧ r'.1 = r.1 ∧ acc ++ r'.2 = r.2, fun H3 q => ⟨xs.length - (i + 1), by omega, rfl, hlt, q⟩, fun x H3 y => ?_⟩
    obtain ⟨G3, s3, w3, px⟩ := wk.yld G' _ H' i x H3 _ sG w' (hP _ _ _) hx y
    have rw0 := (rp.mono (s2.trans (sG.trans s3))).wipe vs
    refine ht _ _ G3 H3 _ x _ rw0 w3 px fun σ4 l4 k4 r4 => ⟨?_, ?_⟩
    · refine (wipe_eq l4 k4).trans (wipe_eq (by rw [wipe_length]) fun i hi => ?_)
      rw [wipe_get, if_neg hi]
    · cases ho : fb s xs[i] with
      | none =>
        rw [ho] at ef
        cases ef
      | some b =>
        rw [ho] at ef
        dsimp only at ef
        split at ef
        · cases ef
        · rename_i r2 e2
          cases ef
          obtain ⟨c, hc, h1, h2⟩ := hb s _ b D (olst K acc) ho
          refine hc σ4 G3 H3 _ r4 w3 fun G4 H4 s4 w4 => ?_
          cases c with
          | false =>
            rw [h1 rfl] at ea
            exact RC.if_f rfl ⟨b.1, acc, G4, r2, sG.trans (s3.trans s4), w4, by omega, e2, e1, ea⟩
          | true =>
            obtain ⟨y, ey, hy⟩ := h2 rfl
            rw [ey] at ea
            refine RC.if_t rfl (hy σ4 G4 H4 _ (r4.mono s4) w4 fun v G5 H5 s5 w5 p5 => ?_)
            obtain ⟨o, eo, us, rfl, hu, _⟩ := w5.ownAt (k := 0) rfl
            have lu := Paired.len hu
            refine ⟨us, eo, by rw [lu]; omega, b.1, acc ++ [y], G5, r2, sG.trans (s3.trans (s4.trans s5)), ?_, by rw [List.length_append]; show acc.length + 1 ≤ _; omega, e2, e1, by rw [List.append_assoc]; exact ea⟩
            exact w5.put (k := 0) (φ' := olst K (acc ++ [y])) rfl ⟨_, rfl, Paired.app' hu (.cons p5 .nil), by rw [List.length_append]; show acc.length + 1 ≤ _; omega⟩
  · have e : i = xs.length := by omega
    subst e
    rw [List.drop_length] at ef
    cases ef
    rw [List.append_nil] at ea
    subst ea
    refine .inl ⟨wk.stop G' _ H' sG w' (hP _ _ _), q D G' H' (s2.trans sG) ?_⟩
    rw [← e1]
    exact w'
theorem testS {Γb : Gm} {f : S → List Ent} {o1 : List Ent} {a : S} {c : Bool} {y : β} {b : S × Option β} (ht : EvT tt Γb o1 (f a) c) (hy : EvX te Γb (f a) (f a) (is K y)) (e : some (a, if c then some y else none) = some b) :
    ∃ c : Bool, EvT tt Γb o1 (f b.1) c ∧ (c = false → b.2 = none) ∧ (c = true → ∃ y, b.2 = some y ∧ EvX te Γb (f b.1) (f b.1) (is K y)) := by
  cases e
  exact ⟨c, ht, fun z => by rw [z]; rfl, fun z => ⟨y, by rw [z]; rfl, hy⟩⟩
end
end Lf
/-! ## Loops that set what is one's own anew: its place changes from turn to turn -/
namespace Lf
open PySem PySem.Spec PyProof.Rows L2
open PySem.W (Frag)
section
variable {K : Frag} {W : WX} {ωe : List Ent} {X S : Type}
/-- a block that is left below, somewhere -/
def zPl (K : Frag) (W : WX) (ωe : List Ent) (fn : S → Addr → Gm × List Ent) : ZF K W ωe S where
  z m D G := m ≠ .bad ∧ (∀ r, m = .ok r → ∀ p, NxPost D G (fn r p)) ∧ ∀ x, m = .err x → PostE K W ωe G x
  mono s h := ⟨h.1, fun r e p => (h.2.1 r e p).mono s, fun x e => (h.2.2 x e).mono s⟩
  nobad h := h.1 rfl
  err h := h.2.2 _ rfl
variable {α : Type} [Rp α] {Γ : Gm} {ω ω1 : List Ent} {fn : S → Addr → Gm × List Ent} {Z : ZF K W ωe X} {t u tbs : TS}
theorem Go.nextE {s : S} {p : Addr} (a : Sub Γ (fn s p).1) (d : Dr ω (fn s p).2) : Go tNext Γ ω (zPl K W ωe fn) (.ok s) := fun σ G H D rp w z => z.2.1 s rfl p σ G H (Le.refl _) (rp.sub a) (d.at w)
theorem Go.seqP {a : Res S} {k : S → Res X} (h : Go t Γ ω (zPl K W ωe fn) a) (hk : ∀ s p, a = .ok s → Go u (fn s p).1 (fn s p).2 Z (k s)) : Go (tSeq t u) Γ ω Z (Res.bind a k) := fun σ G H D rp w z => by
  refine h σ G H { D with nx := u D } rp w ⟨fun q => ?_, fun s q p σ2 G2 H2 s2 r2 w2 => ?_, fun x q => ?_⟩
  · rw [q] at z
    exact Z.nobad z
  · rw [q] at z
    exact hk s p q σ2 G2 H2 D r2 w2 (Z.mono s2 z)
  · rw [q] at z
    exact Z.err z
theorem Go.forP {wi : TI} {g : TG} {P : List Ent → Prop} {xs : List α} {fb : S → α → Res S} {s0 : S} {p0 : Addr} {Γb : S → Addr → α → Gm} (hi : IterX K wi Γ ω ω1 P xs) (h0 : Sub Γ (fn s0 p0).1) (d0 : Dr ω1 (fn s0 p0).2) (hP : ∀ s p, P (fn s p).2) (ht : ∀ s p, TgX K g (fn s p).1 (Γb s p)) (hb : ∀ s p a, Go tbs (Γb s p a) (fn s p).2 (zPl K W ωe fn) (fb s a)) :
    Go (tFor wi g tbs) Γ ω (zPl K W ωe fn) (Res.fold fb xs s0) := fun σ G H D rp w z => hi σ G H _ rp w fun J G2 H2 s2 w2 wk => by
  refine ⟨fun i m σ' H' => m = xs.length - i ∧ i ≤ xs.length ∧ ∃ s p G', Le G2 G' ∧ Reps G' σ' (fn s p).1 ∧ At G' (fn s p).2 H' ∧ Res.fold fb (xs.drop i) s = Res.fold fb xs s0, ⟨xs.length, by simp, Nat.zero_le _, s0, p0, G2, Le.refl _, (rp.mono s2).sub h0, d0.at w2, rfl⟩, ?_⟩
  rintro i m σ' H' ⟨rfl, hle, s, p, G', sG, r', w', ef⟩
  by_cases hlt : i < xs.length
  · have hx : xs[i]? = some xs[i] := List.getElem?_eq_getElem hlt
    rw [fold_drop hx] at ef
    refine .inr ⟨wk.go G' _ H' i sG w' (hP s p) hlt, fun σ3 H3 => ∃ s3 p3 G3, Le G2 G3 ∧ Reps G3 σ3 (fn s3 p3).1 ∧ At G3 (fn s3 p3).2 H3 ∧ Res.fold fb (xs.drop (i + 1)) s3 = Res.fold fb xs s0, fun σ3 H3 q => ⟨xs.length - (i + 1), by omega, rfl, hlt, q⟩, fun x H3 y => ?_⟩
    obtain ⟨G3, s3, w3, px⟩ := wk.yld G' _ H' i x H3 _ sG w' (hP s p) hx y
    refine ht s p _ σ' G3 H3 _ x _ (r'.mono s3) w3 px fun σ4 r4 => ?_
    refine hb s p _ σ4 G3 H3 _ r4 w3 ⟨fun q => ?_, fun s5 q p5 σ5 G5 H5 s5' r5 w5 => ?_, fun e q => ?_⟩
    · rw [q] at ef
      exact z.1 ef.symm
    · rw [q] at ef
      exact ⟨s5, p5, G5, sG.trans (s3.trans s5'), r5, w5, ef⟩
    · rw [q] at ef
      exact PostE.mono (s2.trans (sG.trans s3)) (z.2.2 e ef.symm)
  · have e : i = xs.length := by omega
    subst e
    rw [List.drop_length] at ef
    exact .inl ⟨wk.stop G' _ H' sG w' (hP s p), z.2.1 s ef.symm p σ' G' H' (s2.trans sG) r' w'⟩
end
end Lf
/-! ## Lists as lists of any values -/
namespace Lf
open PySem PySem.Spec PyProof.Rows L2
open PySem.W (Frag)
theorem EvX.anyL {K : Frag} {Γ : Gm} {ω ω1 : List Ent} {te : TE} {α : Type} [t : ToPV α] {xs : List α} (h : EvX te Γ ω ω1 (is K xs)) : EvX te Γ ω ω1 (is K (List.map PV.of xs : List PV)) := h.as fun _ _ ⟨a, vs, e, q, p, l⟩ => ⟨a, vs, e, q, allOf (Lf.anyL p), by rw [List.length_map]; exact l⟩
end Lf
/-! ## repr of lists and tuples with {} in them -/
namespace RC
open PySem PySem.Spec PyProof.Rows L2
open PySem.W (Frag)
mutual
/-- what is told: data, {}, lists and tuples of such -/
inductive Te (K : Frag) (H : Hp) : V → PyData → Prop
  | data {v : V} {d : PyData} (h : Dp K H v d) (c : d.canLay0 = true) : Te K H v d
  | ed {a : Addr} (h : Rd H a (.dK [])) : Te K H (.ref a) (.dict [])
  | dic {a : Addr} {kvs : List (Key × V)} {ks ds : List PyData} (h : Rd H a (.dK kvs)) (tk : TeA K H (kvs.map fun p => kV p.1) ks) (tv : TeA K H (kvs.map (·.2)) ds) : Te K H (.ref a) (.dict (ks.zip ds))
  | lst {a : Addr} {x : V} {xs : List V} {ds : List PyData} (h : SqL K H a (x :: xs)) (t : TeA K H (x :: xs) ds) : Te K H (.ref a) (.list ds)
  | tup {a : Addr} {xs : List V} {ds : List PyData} (h : SqT K H a xs) (t : TeA K H xs ds) : Te K H (.ref a) (.tuple ds)
inductive TeA (K : Frag) (H : Hp) : List V → List PyData → Prop
  | nil : TeA K H [] []
  | cons {v : V} {vs : List V} {d : PyData} {ds : List PyData} (h : Te K H v d) (t : TeA K H vs ds) : TeA K H (v :: vs) (d :: ds)
end
section
variable {X : Cx} {pins : List (Addr × Obj)} {σ : L2.St} {H : Hp} {s : Shared}
def Tell (P : Program) (w : World) (h : Heap) (u : Value) (d : PyData) : Prop := ∃ as bs, Reads h u d as ∧ ReadAtMost h d.depth bs ∧ ReprK P w bs h d.depth u d.shown
def TellA (P : Program) (w : World) (h : Heap) (us : List Value) (ds : List PyData) : Prop := ∃ as bs, ReadsAll h us ds as ∧ ReadAtMost h (PyData.depthAll ds) bs ∧ ReprAllK P w bs h (PyData.depthAll ds) us (PyData.shownAll ds)
theorem edict_at {a : Addr} (I : Inv X pins σ H s) (h : Rd H a (.dK [])) : ∃ ob n, s.heap.get? a = some ob ∧ ob.cls = .type "dict" ∧ ob.data = .dict #[] n ∧ (a == sysModules) = false := by
  obtain ⟨_, ns, vs, kv, ob, es, ep, e1, e2, e3, _, e5, _⟩ := (show ObjOk X.prog X.w H s.heap a (.dK []) from h.elim (fun q => I.hok a _ q) fun ⟨o, q⟩ => (I.hok a _ q).2)
  have z : vs = [] := by
    cases kv
    rfl
  subst z
  have ez : es = #[] := by
    obtain ⟨l⟩ := es
    have e5 := e5
    cases l with
    | nil => rfl
    | cons x l => cases e5
  exact ⟨ob, ep, e1, e2.1, by rw [e3, ez], ns⟩
theorem TeA.len {K : Frag} {H : Hp} : ∀ {vs : List V} {ds : List PyData}, TeA K H vs ds → vs.length = ds.length
  | _, _, .nil => rfl
  | _, _, .cons _ t => by
    rw [List.length_cons, List.length_cons, TeA.len t]
theorem keys_vals {P : Program} {w : World} : ∀ {kvs : List (Key × V)} {vs : List (Key × Value)} {es : List DictEntry}, KV kvs vs → Pairs (mixKind P w) es vs → Vals (kvs.map fun p => kV p.1) (es.map (·.key)) ∧ Vals (kvs.map (·.2)) (es.map (·.val))
  | [], [], [], .nil, .nil => ⟨.nil, .nil⟩
  | (k, v) :: kvs, (k', u) :: vs, e :: es, .cons r rs, .cons h1 h2 ps => by
    obtain ⟨ek, rv⟩ := r
    have ek : k = k' := ek
    subst ek
    obtain ⟨q1, q2⟩ := keys_vals rs ps
    refine ⟨.cons ?_ q1, .cons ?_ q2⟩
    · have h1 : keyIs k e.key = true := h1
      show RelV (kV k) e.key
      rcases keyIs_shape h1 with ⟨i, t, e1, e2⟩ | ⟨x, t, e1, e2⟩
      · rw [e1, e2]
        exact ⟨t, rfl⟩
      · rw [e1, e2]
        exact ⟨t, rfl⟩
    · have h2 : e.val = u := h2
      show RelV v e.val
      rw [h2]
      exact rv
theorem dict_at {a : Addr} {kvs : List (Key × V)} (I : Inv X pins σ H s) (h : Rd H a (.dK kvs)) : ∃ ob es n, s.heap.get? a = some ob ∧ ob.cls = .type "dict" ∧ ob.data = .dict es n ∧ (a == sysModules) = false ∧ Vals (kvs.map fun p => kV p.1) (es.toList.map (·.key)) ∧ Vals (kvs.map (·.2)) (es.toList.map (·.val)) := by
  obtain ⟨_, ns, vs, kv, ob, es, ep, e1, e2, e3, _, e5, _⟩ := (show ObjOk X.prog X.w H s.heap a (.dK kvs) from h.elim (fun q => I.hok a _ q) fun ⟨o, q⟩ => (I.hok a _ q).2)
  obtain ⟨q1, q2⟩ := keys_vals kv e5
  exact ⟨ob, es, ep, e1, e2.1, e3, ns, q1, q2⟩
theorem zip_fst {α β : Type} : ∀ {xs : List α} {ys : List β}, xs.length = ys.length → (xs.zip ys).map (·.1) = xs ∧ (xs.zip ys).map (·.2) = ys
  | [], [], _ => ⟨rfl, rfl⟩
  | x :: xs, y :: ys, h => by
    obtain ⟨a, b⟩ := zip_fst (xs := xs) (ys := ys) (Nat.succ.inj h)
    rw [List.zip_cons_cons, List.map_cons, List.map_cons, a, b]
    exact ⟨rfl, rfl⟩
  | [], _ :: _, h => by cases h
  | _ :: _, [], h => by cases h
/-- an entry's texts are no longer than the dict's -/
theorem dict_fits {kvs : List (PyData × PyData)} (hz : (PyData.dict kvs).shown.length ≤ sizeLine) : (∀ t ∈ PyData.shownAll (kvs.map (·.1)), t.length ≤ sizeLine) ∧ ∀ t ∈ PyData.shownAll (kvs.map (·.2)), t.length ≤ sizeLine := by
  have hz2 : (dictText (PyData.shownKv kvs)).length ≤ sizeLine := by simpa only [PyData.shown] using hz
  refine ⟨fun t ht => ?_, fun t ht => ?_⟩
  · obtain ⟨p, hp, hl⟩ := PyData.shownKv_key_le kvs t ht
    exact Nat.le_trans hl (Nat.le_trans (dictText_mem_le hp) hz2)
  · obtain ⟨p, hp, hl⟩ := PyData.shownKv_val_le kvs t ht
    exact Nat.le_trans hl (Nat.le_trans (dictText_mem_le hp) hz2)
mutual
theorem Te.tell (I : Inv X pins σ H s) : ∀ {v : V} {d : PyData} {u : Value}, Te X.K H v d → RelV v u → d.showable = true → d.shown.length ≤ sizeLine → Tell X.prog X.w s.heap u d
  | _, _, _, .data h c, r, hs, hz => by
    obtain ⟨as, rd⟩ := Dp.reads I _ _ _ h r
    obtain ⟨bs, b1, b2⟩ := ReprK.of_reads (prog := X.prog) (w := X.w) rd hs (PyData.noDict_hsm (PyData.hasDict_of_canLay _ c)) hz
    exact ⟨as, bs, rd, b1, b2⟩
  | _, _, _, .ed (a := a) h, r, _, _ => by
    cases r
    obtain ⟨ob, n, e1, e2, e3, ns⟩ := edict_at I h
    have rd : Reads s.heap (.ref a) (.dict []) ((a :: []) ++ []) := Reads.dict e1 e2 e3 .nil .nil
    refine ⟨_, [a], rd, ReadAtMost.cons rd (Nat.zero_le _) fun b hb => absurd hb List.not_mem_nil, ?_⟩
    have := ReprK.dict (prog := X.prog) (w := X.w) (as := []) (d := 0) e1 e2 e3 ns List.not_mem_nil .nil
    simpa only [PyData.depth, PyData.depthKv, PyData.shown, PyData.shownKv] using this
  | _, _, _, .dic (a := a) (ks := ks) (ds := ds) h tk tv, r, hs, hz => by
    cases r
    obtain ⟨ob, es, n, e1, e2, e3, ns, rk, rv⟩ := dict_at I h
    obtain ⟨z1, z2⟩ := zip_fst (xs := ks) (ys := ds) (by rw [← tk.len, ← tv.len, List.length_map, List.length_map])
    obtain ⟨s1, s2⟩ := PyData.showableKv_split (ks.zip ds) (by simpa [PyData.showable] using hs)
    obtain ⟨f1, f2⟩ := dict_fits hz
    rw [z1] at s1 f1
    rw [z2] at s2 f2
    obtain ⟨as1, bs1, p1, p2, p3⟩ := TeA.tell I tk rk s1 f1
    obtain ⟨as2, bs2, q1, q2, q3⟩ := TeA.tell I tv rv s2 f2
    have rd : Reads s.heap (.ref a) (.dict (ks.zip ds)) _ := Reads.dict e1 e2 e3 (by rw [z1]; exact p1) (by rw [z2]; exact q1)
    have d1 : PyData.depthAll ks ≤ PyData.depthKv (ks.zip ds) := by
      have := PyData.depthAll_keys_le (ks.zip ds)
      rw [z1] at this
      exact this
    have d2 : PyData.depthAll ds ≤ PyData.depthKv (ks.zip ds) := by
      have := PyData.depthAll_vals_le (ks.zip ds)
      rw [z2] at this
      exact this
    have hb : ReadAtMost s.heap (PyData.depthKv (ks.zip ds)) (bs1 ++ bs2) := (p2.mono d1).append (q2.mono d2)
    refine ⟨_, a :: (bs1 ++ bs2), rd, ReadAtMost.cons rd (by simp only [PyData.depth]; omega) hb, ?_⟩
    simp only [PyData.depth, PyData.shown, PyData.shownKv_eq]
    rw [z1, z2]
    exact ReprK.dict e1 e2 e3 ns (not_mem_of_deeper rd (by simp only [PyData.depth]; omega) hb) (ReprEntriesK.of_two es.toList _ _ (p3.more_le (fun b hb => List.mem_append_left bs2 hb) d1) (q3.more_le (fun b hb => List.mem_append_right bs1 hb) d2))
  | _, _, _, .lst (a := a) (ds := ds) h t, r, hs, hz => by
    cases r
    obtain ⟨its, rv, ⟨o, n, ho, hc, _, hd⟩, _⟩ := I.list h
    have hz2 : (listText (PyData.shownAll ds)).length ≤ sizeLine := by simpa only [PyData.shown] using hz
    obtain ⟨as, bs, q1, q2, q3⟩ := TeA.tell I t rv (by simpa [PyData.showable] using hs) fun t ht => Nat.le_trans (listText_mem_le ht) hz2
    have rd : Reads s.heap (.ref a) (.list ds) _ := Reads.list ho hc hd q1
    refine ⟨_, a :: bs, rd, ReadAtMost.cons rd (by simp only [PyData.depth]; omega) q2, ?_⟩
    simp only [PyData.depth, PyData.shown]
    cases rv with
    | cons r1 r2 => exact ReprK.list ho hc hd (not_mem_of_deeper rd (by simp only [PyData.depth]; omega) q2) (by simpa using q3.length_eq) fun i y e => q3.item i y (by simpa using e)
  | _, _, _, .tup (a := a) (ds := ds) h t, r, hs, hz => by
    cases r
    obtain ⟨its, rv, ⟨o, ho, hc, n, hd⟩, _⟩ := I.tuple h
    have hz2 : (tupleText (PyData.shownAll ds)).length ≤ sizeLine := by simpa only [PyData.shown] using hz
    obtain ⟨as, bs, q1, q2, q3⟩ := TeA.tell I t rv (by simpa [PyData.showable] using hs) fun t ht => Nat.le_trans (tupleText_mem_le ht) hz2
    have rd : Reads s.heap (.ref a) (.tuple ds) _ := Reads.tuple ho hc hd q1
    refine ⟨_, a :: bs, rd, ReadAtMost.cons rd (by simp only [PyData.depth]; omega) q2, ?_⟩
    simp only [PyData.depth, PyData.shown]
    exact ReprK.tuple ho hc hd (not_mem_of_deeper rd (by simp only [PyData.depth]; omega) q2) (by simpa using q3)
theorem TeA.tell (I : Inv X pins σ H s) : ∀ {vs : List V} {ds : List PyData} {us : List Value}, TeA X.K H vs ds → Vals vs us → PyData.showableAll ds = true → (∀ t ∈ PyData.shownAll ds, t.length ≤ sizeLine) → TellA X.prog X.w s.heap us ds
  | _, _, _, .nil, r, _, _ => by
    cases r
    refine ⟨[], [], .nil, fun b hb => absurd hb List.not_mem_nil, ?_⟩
    simp only [PyData.shownAll]
    exact .nil
  | _, _, _, .cons (d := d) (ds := ds) h t, r, hs, hz => by
    cases r with
    | cons r1 r2 =>
      have hs2 : d.showable = true ∧ PyData.showableAll ds = true := by simpa [PyData.showableAll] using hs
      have hz2 : ∀ t ∈ d.shown :: PyData.shownAll ds, t.length ≤ sizeLine := by simpa only [PyData.shownAll] using hz
      obtain ⟨as, bs, q1, q2, q3⟩ := Te.tell I h r1 hs2.1 (hz2 _ List.mem_cons_self)
      obtain ⟨cs, es, p1, p2, p3⟩ := TeA.tell I t r2 hs2.2 fun t ht => hz2 t (List.mem_cons_of_mem _ ht)
      refine ⟨_, bs ++ es, .cons q1 p1, ?_, ?_⟩
      · simp only [PyData.depthAll]
        exact (q2.mono (Nat.le_max_left _ _)).append (p2.mono (Nat.le_max_right _ _))
      · simp only [PyData.depthAll, PyData.shownAll]
        exact .cons ((q3.more fun b hb => List.mem_append_left es hb).level_le (Nat.le_max_left _ _)) (p3.more_le (fun b hb => List.mem_append_right bs hb) (Nat.le_max_right _ _))
end
def rReprE (K : Frag) : List V → Hp → VK → Prop := fun xs H Q => ∃ v d, xs = [v] ∧ Te K H v d ∧ d.showable = true ∧ d.depth ≤ 40 ∧ d.shown.length ≤ sizeLine ∧ Q (.str d.shown) H
theorem call_reprE (hg : X.A.guards = some []) (hr : Room 0 X.A) : CallR X (.builtin "repr") (rReprE X.K) := by
  intro pins s σ H xs us Q I r h
  obtain ⟨v, d, rfl, hd, hs, hdep, hlen, q⟩ := h
  have hu := hr.units
  cases hd with
  | data h c => exact call_reprD hg hr pins s σ H [v] us Q I r ⟨v, _, rfl, h, hs, c, hdep, hlen, q⟩
  | ed h => exact call_reprX hg hr pins s σ H _ us Q I r ⟨_, _, rfl, .edict h, q⟩
  | @dic a kvs ks ds h tk tv =>
    obtain ⟨u, rfl, ru⟩ := vals1 r
    cases ru
    obtain ⟨ob, es, n, e1, e2, e3, ns, rk, rv⟩ := dict_at I h
    obtain ⟨z1, z2⟩ := zip_fst (xs := ks) (ys := ds) (by rw [← tk.len, ← tv.len, List.length_map, List.length_map])
    obtain ⟨s1, s2⟩ := PyData.showableKv_split (ks.zip ds) (by simpa [PyData.showable] using hs)
    obtain ⟨f1, f2⟩ := dict_fits hlen
    have hz2 : (dictText (PyData.shownKv (ks.zip ds))).length ≤ sizeLine := by simpa only [PyData.shown] using hlen
    rw [z1] at s1 f1
    rw [z2] at s2 f2
    obtain ⟨as1, bs1, p1, p2, p3⟩ := TeA.tell I tk rk s1 f1
    obtain ⟨as2, bs2, q1, q2, q3⟩ := TeA.tell I tv rv s2 f2
    have rd : Reads s.heap (.ref a) (.dict (ks.zip ds)) _ := Reads.dict e1 e2 e3 (by rw [z1]; exact p1) (by rw [z2]; exact q1)
    have d1 : PyData.depthAll ks ≤ PyData.depthKv (ks.zip ds) := by
      have := PyData.depthAll_keys_le (ks.zip ds)
      rw [z1] at this
      exact this
    have d2 : PyData.depthAll ds ≤ PyData.depthKv (ks.zip ds) := by
      have := PyData.depthAll_vals_le (ks.zip ds)
      rw [z2] at this
      exact this
    have hb : ReadAtMost s.heap (PyData.depthKv (ks.zip ds)) (bs1 ++ bs2) := (p2.mono d1).append (q2.mono d2)
    have na : a ∉ bs1 ++ bs2 := not_mem_of_deeper rd (by simp only [PyData.depth]; omega) hb
    simp only [PyData.depth] at hdep
    simp only [PyData.shown, PyData.shownKv_eq] at q hz2
    rw [z1, z2] at q hz2
    exact call_repr_slot (by omega) ⟨ob, e1, e2⟩ PySem.F.slot_dict_repr (call_dict_reprK e1 e2 e3 ns na (ReprEntriesK.of_two es.toList _ _ (p3.more_le (fun b hb => List.mem_append_left bs2 hb) d1) (q3.more_le (fun b hb => List.mem_append_right bs1 hb) d2)) (g := []) hg (fun b _ => Clear.nil b) (by show X.A.units + 1 + _ < cLine; omega) (fun _ _ z => z) (fun h' t tk k => ⟨_, _, rfl, .str _, H, I.kept k, ⟨_, rfl⟩, q⟩) hz2)
  | @lst a x xs ds h t =>
    obtain ⟨u, rfl, ru⟩ := vals1 r
    cases ru
    obtain ⟨its, rv, ⟨o, n, ho, hc, _, hd⟩, _⟩ := I.list h
    have hz2 : (listText (PyData.shownAll ds)).length ≤ sizeLine := by simpa only [PyData.shown] using hlen
    obtain ⟨as, bs, q1, q2, q3⟩ := TeA.tell I t rv (by simpa [PyData.showable] using hs) fun t ht => Nat.le_trans (listText_mem_le ht) hz2
    have rd : Reads s.heap (.ref a) (.list ds) _ := Reads.list ho hc hd q1
    have na : a ∉ bs := not_mem_of_deeper rd (by simp only [PyData.depth]; omega) q2
    simp only [PyData.depth] at hdep
    simp only [PyData.shown] at q
    cases rv with
    | cons r1 r2 =>
      exact call_repr_slot (by omega) ⟨o, ho, hc⟩ PySem.F.slot_list_repr.toG (call_list_reprK ho hc hd na (by simpa using q3.length_eq) (fun i y e => q3.item i y (by simpa using e)) (g := []) hg (fun b _ => Clear.nil b) (by show X.A.units + 1 + _ < cLine; omega) (fun _ _ z => z) (fun h' t tk k => ⟨_, _, rfl, .str _, H, I.kept k, ⟨_, rfl⟩, q⟩) hz2)
  | @tup a xs ds h t =>
    obtain ⟨u, rfl, ru⟩ := vals1 r
    cases ru
    obtain ⟨its, rv, ⟨o, ho, hc, n, hd⟩, _⟩ := I.tuple h
    have hz2 : (tupleText (PyData.shownAll ds)).length ≤ sizeLine := by simpa only [PyData.shown] using hlen
    obtain ⟨as, bs, q1, q2, q3⟩ := TeA.tell I t rv (by simpa [PyData.showable] using hs) fun t ht => Nat.le_trans (tupleText_mem_le ht) hz2
    have rd : Reads s.heap (.ref a) (.tuple ds) _ := Reads.tuple ho hc hd q1
    have na : a ∉ bs := not_mem_of_deeper rd (by simp only [PyData.depth]; omega) q2
    simp only [PyData.depth] at hdep
    simp only [PyData.shown] at q
    exact call_repr_slot (by omega) ⟨o, ho, hc⟩ PySem.F.slot_tuple_repr (call_tuple_reprK ho hc hd na (by simpa using q3) (g := []) hg (fun b _ => Clear.nil b) (by show X.A.units + 1 + _ < cLine; omega) (fun _ _ z => z) (fun h' t tk k => ⟨_, _, rfl, .str _, H, I.kept k, ⟨_, rfl⟩, q⟩) hz2)
end
end RC
namespace Lf
open PySem PySem.Spec PyProof.Rows L2
open PySem.W (Frag)
mutual
def PV.dE : PV → Option PyData
  | .non => some .none
  | .bl b => some (.bool b)
  | .int i => some (.int i)
  | .str s => if PyData.strOk s = true then some (.str s) else none
  | .lst xs => (PV.dEs xs).map .list
  | .tup xs => (PV.dEs xs).map .tuple
  | .edict => some (.dict [])
  | .roll _ _ => none
def PV.dEs : List PV → Option (List PyData)
  | [] => some []
  | x :: xs => match x.dE, PV.dEs xs with
    | some d, some ds => some (d :: ds)
    | _, _ => none
end
theorem dEs_cons {x : PV} {xs : List PV} {ds : List PyData} (e : PV.dEs (x :: xs) = some ds) : ∃ d es, x.dE = some d ∧ PV.dEs xs = some es ∧ ds = d :: es := by
  unfold PV.dEs at e
  cases q1 : x.dE with
  | none =>
    rw [q1] at e
    cases e
  | some d =>
    cases q2 : PV.dEs xs with
    | none =>
      rw [q1, q2] at e
      cases e
    | some es =>
      rw [q1, q2] at e
      cases e
      exact ⟨d, es, rfl, rfl, rfl⟩
section
variable {K : Frag}
mutual
theorem any_te {G H : Hp} {ω : List Ent} (w : At G ω H) : ∀ {v : V} {x : PV} {d : PyData}, AnyV K G v x → x.dE = some d → RC.Te K H v d
  | _, _, _, .non, e => by
    cases e
    exact .data .non (by simp only [PyData.canLay0])
  | _, _, _, .bl b, e => by
    cases e
    exact .data (.bl b) (by simp only [PyData.canLay0])
  | _, _, _, .int i, e => by
    cases e
    exact .data (.int i) (by simp only [PyData.canLay0])
  | _, _, _, .str s, e => by
    unfold PV.dE at e
    split at e
    · rename_i c
      cases e
      exact .data (.str s) (by rw [PyData.canLay0]; exact c)
    · cases e
  | _, _, _, .lst (xs := xs) h p, e => by
    unfold PV.dE at e
    cases q : PV.dEs xs with
    | none =>
      rw [q] at e
      cases e
    | some ds =>
      rw [q] at e
      cases e
      have t := any_tes w p q
      have sq := RC.sq_of (K := K) (w.lst h)
      cases t with
      | nil => exact .data (.lst sq .nil) (by simp only [PyData.canLay0, PyData.canLayAll0])
      | cons a b => exact .lst sq (.cons a b)
  | _, _, _, .tup (xs := xs) h p, e => by
    unfold PV.dE at e
    cases q : PV.dEs xs with
    | none =>
      rw [q] at e
      cases e
    | some ds =>
      rw [q] at e
      cases e
      exact .tup (RC.st_of (w.tup h)) (any_tes w p q)
  | _, _, _, .edict h, e => by
    cases e
    rcases h with z | ⟨o, z⟩
    · exact .ed (.inl (w.get z))
    · exact .ed (.inr ⟨o, w.get z⟩)
  | _, _, _, .roll .., e => by cases e
theorem any_tes {G H : Hp} {ω : List Ent} (w : At G ω H) : ∀ {vs : List V} {xs : List PV} {ds : List PyData}, AnyL K G vs xs → PV.dEs xs = some ds → RC.TeA K H vs ds
  | _, _, _, .nil, e => by
    cases e
    exact .nil
  | _, _, _, .cons h t, e => by
    obtain ⟨d, es, q1, q2, rfl⟩ := dEs_cons e
    exact .cons (any_te w h q1) (any_tes w t q2)
end
def toldE (x : PV) : Option Str := match x.dE with
  | none => none
  | some d => if d.showable = true ∧ d.depth ≤ 40 ∧ d.shown.length ≤ sizeLine then some d.shown else none
theorem CaX.toldE {ω : List Ent} {x : PV} {t : Str} (h : Lf.toldE x = some t) : CaX (RC.rReprE K) ω ω [is K x] (is K t) := fun G H vs Q w p q => by
  obtain ⟨v, rfl, pv⟩ := PArgs.one p
  unfold Lf.toldE at h
  split at h
  · cases h
  · rename_i d ed
    split at h
    · rename_i c
      cases h
      exact ⟨v, d, rfl, any_te w pv ed, c.1, c.2.1, c.2.2, q _ G H (Le.refl _) w rfl⟩
    · cases h
end
end Lf
/-! ## Triples as data -/
namespace Lf
open PySem PySem.Spec PyProof.Rows L2
open PySem.W (Frag)
instance {α β γ : Type} [t : Dat α] [s : Dat β] [r : Dat γ] : Dat (T3 α β γ) where
  d p := .tuple [t.d p.a, s.d p.b, r.d p.c]
  dp w h := by
    obtain ⟨a, x, y, z, rfl, e, h1, h2, h3⟩ := h
    exact .tup (RC.st_of (w.tup e)) (.cons (t.dp w h1) (.cons (s.dp w h2) (.cons (r.dp w h3) .nil)))
  lay p := by simp [PyData.canLay0, PyData.canLayAll0, t.lay, s.lay, r.lay]
  deep := max t.deep (max s.deep r.deep) + 1
  dep p := by
    have h1 := t.dep p.a
    have h2 := s.dep p.b
    have h3 := r.dep p.c
    simp only [PyData.depth, PyData.depthAll]
    omega
  dec := @instDecidableEqT3 α β γ t.dec s.dec r.dec
  eqv p q := by
    letI := t.dec
    letI := s.dec
    letI := r.dec
    simp only [PyData.eqv, PyData.eqvAll, t.eqv, s.eqv, r.eqv, Bool.and_true]
    obtain ⟨a, b, c⟩ := p
    obtain ⟨d, e, f⟩ := q
    by_cases h1 : a = d
    · by_cases h2 : b = e
      · by_cases h3 : c = f
        · subst h1 h2 h3
          simp
        · simp [h3]
      · simp [h2]
    · simp [h1]
end Lf
/-! ## Any values as lists of ints, as lists of pairs -/
namespace Lf
open PySem PySem.Spec PyProof.Rows L2
open PySem.W (Frag)
/-- a list of ints -/
def PV.intsL : List PV → Option (List Int)
  | [] => some []
  | x :: xs => match x.asI, PV.intsL xs with
    | some i, some r => some (i :: r)
    | _, _ => none
def PV.asLI (x : PV) : Option (List Int) := match x.asL with
  | some xs => PV.intsL xs
  | none => none
theorem ints_all {K : Frag} {G : Hp} : ∀ {vs : List V} {xs : List PV} {is_ : List Int}, All K G vs xs → PV.intsL xs = some is_ → All K G vs is_ ∧ is_.length = xs.length
  | _, _, _, .nil, e => by
    cases e
    exact ⟨.nil, rfl⟩
  | _, _, _, .cons (b := x) r t, e => by
    unfold PV.intsL at e
    split at e
    · rename_i i r' h1 h2
      cases e
      obtain ⟨a, b⟩ := ints_all t h2
      exact ⟨.cons (asI_imp h1 G _ r) a, by rw [List.length_cons, List.length_cons, b]⟩
    · cases e
theorem asLI_imp {K : Frag} {x : PV} {is_ : List Int} (e : x.asLI = some is_) (G : Hp) (v : V) (p : (is K x).p G v) : (is K is_).p G v := by
  unfold PV.asLI at e
  split at e
  · rename_i xs h
    obtain ⟨a, vs, rfl, ea, ha, l⟩ := asL_imp h G v p
    obtain ⟨q, ql⟩ := ints_all ha e
    exact ⟨a, vs, rfl, ea, q, by rw [ql]; exact l⟩
  · cases e
def PV.as2 (x : PV) : Option (PV × PV) := match x.asT with
  | some ⟨[a, b]⟩ => some (a, b)
  | _ => none
theorem as2_imp {K : Frag} {x : PV} {t : PV × PV} (e : x.as2 = some t) (G : Hp) (v : V) (p : (is K x).p G v) : (is K t).p G v := by
  unfold PV.as2 at e
  split at e
  · rename_i a b h
    cases e
    obtain ⟨q, vs, rfl, eq, ha, _⟩ := asT_imp h G v p
    cases ha with
    | cons r1 t1 => cases t1 with
      | cons r2 t2 =>
        cases t2
        exact ⟨q, _, _, rfl, eq, r1, r2⟩
  · cases e
def PV.all2 : List PV → Option (List (PV × PV))
  | [] => some []
  | x :: xs => match x.as2, PV.all2 xs with
    | some t, some r => some (t :: r)
    | _, _ => none
theorem all2_imp {K : Frag} {G : Hp} : ∀ {vs : List V} {xs : List PV} {ts : List (PV × PV)}, All K G vs xs → PV.all2 xs = some ts → All K G vs ts ∧ ts.length = xs.length
  | _, _, _, .nil, e => by
    cases e
    exact ⟨.nil, rfl⟩
  | _, _, _, .cons (b := x) r t, e => by
    unfold PV.all2 at e
    split at e
    · rename_i i r' h1 h2
      cases e
      obtain ⟨a, b⟩ := all2_imp t h2
      exact ⟨.cons (as2_imp h1 G _ r) a, by rw [List.length_cons, List.length_cons, b]⟩
    · cases e
/-- a list of pairs -/
def PV.asL2 (x : PV) : Option (List (PV × PV)) := match x.asL with
  | some xs => PV.all2 xs
  | none => none
theorem asL2_imp {K : Frag} {x : PV} {ts : List (PV × PV)} (e : x.asL2 = some ts) (G : Hp) (v : V) (p : (is K x).p G v) : (is K ts).p G v := by
  unfold PV.asL2 at e
  split at e
  · rename_i xs h
    obtain ⟨a, vs, rfl, ea, ha, l⟩ := asL_imp h G v p
    obtain ⟨q1, q2⟩ := all2_imp ha e
    exact ⟨a, vs, rfl, ea, q1, by rw [q2]; exact l⟩
  · cases e
section
variable {K : Frag} {Γ : Gm} {ω ω1 : List Ent} {te : TE}
theorem EvX.asLI {x : PV} {t : List Int} (h : EvX te Γ ω ω1 (is K x)) (e : x.asLI = some t) : EvX te Γ ω ω1 (is K t) := h.as (asLI_imp e)
theorem EvX.asL2 {x : PV} {t : List (PV × PV)} (h : EvX te Γ ω ω1 (is K x)) (e : x.asL2 = some t) : EvX te Γ ω ω1 (is K t) := h.as (asL2_imp e)
end
end Lf
/-! ## xs.pop(); a while loop that sets what is one's own anew -/
namespace Lf
open PySem PySem.Spec PyProof.Rows L2
open PySem.W (Frag)
section
variable {K : Frag} {Γ : Gm} {ω ω1 : List Ent} {te : TE} {α : Type} [Rp α]
def popL (xs : List α) : Option (α × List α) := match xs.getLast? with
  | some x => some (x, xs.dropLast)
  | none => none
theorem all_last {G : Hp} : ∀ {vs : List V} {xs : List α} {x : α}, All K G vs xs → xs.getLast? = some x → ∃ v, vs[vs.length - 1]? = some v ∧ Rp.rep K G v x ∧ All K G vs.dropLast xs.dropLast
  | _, _, _, .nil, e => by cases e
  | _, _, _, .cons (a := v) (b := y) r .nil, e => by
    cases e
    exact ⟨v, rfl, r, .nil⟩
  | _, _, x, .cons (a := v) (b := y) r (.cons (a := u) (b := z) (l₁ := vs) (l₂ := xs) r2 t), e => by
    have e' : (z :: xs).getLast? = some x := by
      rw [List.getLast?_cons_cons] at e
      exact e
    obtain ⟨w, h1, h2, h3⟩ := all_last (.cons r2 t) e'
    refine ⟨w, ?_, h2, ?_⟩
    · exact h1
    · rw [List.dropLast_cons_cons, List.dropLast_cons_cons]
      exact .cons r h3
theorem EvX.popL {xs : List α} {r : α × List α} {k : Nat} {p : Addr} (ht : EvX te Γ ω ω1 (adr p)) (ho : ω1[k]? = some (Ent.own p (olst K xs))) (e : Lf.popL xs = some r) : EvX (tBM K "list" rPop te tNil) Γ ω (ω1.set k (.own p (olst K r.2))) (is K r.1) := fun σ G H Q rp w q => ht σ G H _ rp w fun v G1 H1 s1 w1 p1 => by
  cases p1
  obtain ⟨o, eo, us, rfl, hu, l⟩ := w1.ownAt ho
  refine ⟨RC.ty_l eo, ?_⟩
  unfold Lf.popL at e
  split at e
  · rename_i x hx
    cases e
    obtain ⟨u, h1, h2, h3⟩ := all_last hu hx
    refine ⟨p, us, u, rfl, rfl, eo, h1, ?_⟩
    exact q u G1 _ s1 (w1.put ho ⟨us.dropLast, rfl, h3, by rw [List.length_dropLast]; omega⟩) h2
  · cases e
end
section
variable {K : Frag} {W : WX} {ωe : List Ent} {S : Type} {Γ : Gm} {ω : List Ent} {fn : S → Addr → Gm × List Ent}
theorem Go.whP {tc : TT} {tb : TS} {c : S → Option Bool} {f : S → Res S} {n : Nat} {s0 : S} {p0 : Addr} (h0 : Sub Γ (fn s0 p0).1) (d0 : Dr ω (fn s0 p0).2) (ht : ∀ s p b, c s = some b → EvT tc (fn s p).1 (fn s p).2 (fn s p).2 b) (hb : ∀ s p, Go tb (fn s p).1 (fn s p).2 (zPl K W ωe fn) (f s)) :
    Go (tWhile tc tb) Γ ω (zPl K W ωe fn) (Res.whl c f n s0) := fun σ G H D rp w z => by
  refine ⟨fun m σ' H' => ∃ s p G', Le G G' ∧ Reps G' σ' (fn s p).1 ∧ At G' (fn s p).2 H' ∧ Res.whl c f m s = Res.whl c f n s0, ⟨n, s0, p0, G, Le.refl _, rp.sub h0, d0.at w, rfl⟩, ?_⟩
  rintro m σ' H' ⟨s, p, G', sG, r', w', ef⟩
  cases m with
  | zero => exact absurd ef.symm z.1
  | succ m =>
    cases hc : c s with
    | none =>
      refine absurd (ef.symm.trans ?_) z.1
      show Res.req (c s) _ = _
      rw [hc]
      rfl
    | some b =>
      have ef2 : (if b then Res.bind (f s) (Res.whl c f m) else .ok s) = Res.whl c f n s0 := by
        rw [← ef]
        show _ = Res.req (c s) _
        rw [hc]
        rfl
      refine ht s p b hc σ' G' H' _ r' w' fun G2 H2 s2 w2 => ?_
      cases b with
      | false => exact (if_neg (fun q => Bool.noConfusion q)).mpr (z.2.1 s ef2.symm p σ' G2 H2 (sG.trans s2) (r'.mono s2) w2)
      | true =>
        refine (if_pos rfl).mpr ⟨fun σ3 H3 => ∃ s3 p3 G3, Le G G3 ∧ Reps G3 σ3 (fn s3 p3).1 ∧ At G3 (fn s3 p3).2 H3 ∧ Res.whl c f m s3 = Res.whl c f n s0, fun σ3 H3 q => ⟨m, Nat.lt_succ_self m, q⟩, ?_⟩
        have ef3 : Res.bind (f s) (Res.whl c f m) = Res.whl c f n s0 := ef2
        refine hb s p σ' G2 H2 _ (r'.mono s2) w2 ⟨fun q => ?_, fun s5 q p5 σ5 G5 H5 s5' r5 w5 => ?_, fun e q => ?_⟩
        · rw [q] at ef3
          exact z.1 ef3.symm
        · rw [q] at ef3
          exact ⟨s5, p5, G5, sG.trans (s2.trans s5'), r5, w5, ef3⟩
        · rw [q] at ef3
          exact PostE.mono (sG.trans s2) (z.2.2 e ef3.symm)
end
end Lf
/-! ## list(d.values()); a text by its signs -/
namespace Zs
open PySem PySem.Spec PyProof.Rows L2
def tListVals (te : TE) : TE := fun σ H Q => te σ H fun x H1 => ∃ (d : Addr) (kvs : List (Key × V)), x = .ref d ∧ Rd H1 d (.dK kvs) ∧ ∀ p, H1 p = none → Q (.ref p) (upd H1 p (.lst (kvs.map (·.2))))
theorem kv_second : ∀ {kvs : List (Key × V)} {vs : List (Key × Value)}, KV kvs vs → Vals (kvs.map (·.2)) (vs.map (·.2))
  | _, _, .nil => .nil
  | _, _, .cons r t => .cons r.2 (kv_second t)
section
variable {X : Cx} {pins : List (Addr × Obj)} {σ : L2.St} {H : Hp} {s : Shared} {Q : VK} {Z : Value → Shared → Prop}
/-- the values of a dict, gathered out of its view -/
theorem vals_out {d : Addr} {kvs : List (Key × V)} (calm : X.calm = true) (I : Inv X pins σ H s) (hd : Rd H d (.dK kvs)) (q : ∀ p, H p = none → Q (.ref p) (upd H p (.lst (kvs.map (·.2))))) (z : Z = fun v s' => ∃ x H', Inv X pins σ H' s' ∧ RelV x v ∧ Q x H') :
    ∃ vs : List (Key × Value), (d == sysModules) = false ∧ s.heap.DictOf (mixKind X.prog X.w) d vs ∧ wpAny (model X.prog X.w) X.A (call (.type "list") [.ref s.heap.objs.size]) Z X.xe { s with heap := s.heap.push { cls := .type "dict_values", data := .fields #[.ref d] } } := by
  obtain ⟨few, low, vs, rel, dd⟩ := dk_rd I.hok hd
  refine ⟨vs, low, dd, ?_⟩
  obtain ⟨ep, at_⟩ := dd.dictAt
  have I2 : Inv X pins σ H { s with heap := s.heap.push { cls := .type "dict_values", data := .fields #[.ref d] } } := I.kept (t' := s.toks) fun b o e => Heap.get?_push_of_some _ e
  have len : vs.length ≤ sizeLine := by
    rw [← rel.length]
    exact few
  subst z
  refine PySem.W.kdl_call (PySem.W.kdl_values (r := s.heap.objs.size) (d := d) (knd := mixKind X.prog X.w) (ep := ep)) (I.ok.hd calm) ⟨⟨_, Heap.get?_push_size _ rfl, rfl, rfl⟩, at_.push _⟩ len ?_
  intro h' tk out c old here its
  have same : out.toList = vs.map (·.2) := by
    refine List.ext_getElem? fun j => ?_
    cases e : out.toList[j]? with
    | some v =>
      obtain ⟨k, ek⟩ := its.2 j v (by rw [← Array.getElem?_toList]; exact e)
      rw [List.getElem?_map, ek]
      rfl
    | none =>
      have big := List.getElem?_eq_none_iff.mp e
      rw [Array.length_toList, its.1] at big
      rw [List.getElem?_eq_none (by rw [List.length_map]; exact big)]
  have new : s.heap.objs.size ≤ (s.heap.push { cls := .type "dict_values", data := .fields #[.ref d] }).objs.size := Nat.le_of_lt (Heap.lt_size (Heap.get?_push_size _ rfl))
  generalize (s.heap.push { cls := .type "dict_values", data := .fields #[.ref d] }).objs.size = p at old here new
  have laid : ObjOk X.prog X.w (upd H p (.lst (kvs.map (·.2)))) h' p (.lst (kvs.map (·.2))) := by
    refine ⟨by rw [List.length_map]; exact few, out.toList, c, ?_, ?_⟩
    · rw [same]
      exact kv_second rel
    · rw [Array.toArray_toList]
      exact here
  exact ⟨.ref p, _, I.laid (t' := tk) (fun b o e => old b o (Heap.get?_push_of_some _ e)) new laid, rfl, q p (I.hok.fresh new)⟩
end
section
variable {X : Cx} {e : Expr} {te : TE} {p apos cpos pos : Pos}
theorem pe_listVals (calm : X.calm = true) (he : PE X e te) (gl : Gl X "list") (mg0 : X.mg "list" = none) (bl : bootBuiltins "list" = some (.type "list")) (base : attributeBase e "values" X.env (eval e X.env) = eval e X.env := by rfl) (row : (apos.endLine == cpos.line) = true := by rfl)
    (st : starEach [.Call (.Attribute e "values" apos) [] [] cpos] X.env = (false, eval (.Call (.Attribute e "values" apos) [] [] cpos) X.env) :: starEach [] X.env := by rfl) :
    PE X (.Call (.Name "list" p) [.Call (.Attribute e "values" apos) [] [] cpos] [] pos) (tListVals te) := by
  constructor
  intro pins s σ H Q I h
  apply wpAny_Call_Name_kw
  refine ld_blt I gl mg0 bl ?_
  refine PyProof.Rows.callWith_type1 ?_ st rfl
  rw [st]
  refine Calls.spliced_cons (show wpAny _ X.A (eval (.Call (.Attribute e "values" apos) [] [] cpos) X.env) _ X.xe s from ?_)
  refine wpAny_Call_method (T := "dict") (id := "dict.values") base rfl row F.plainAttrs_dict F.slot_dict_values F.type_dict_values ?_
  refine wpAny_mono (he.run pins s σ H _ I h) (fun u s1 ⟨x, H1, I1, rx, d, kvs, ex, hd, q⟩ => ?_) fun _ _ z => z
  cases ex
  cases rx
  obtain ⟨vs, low, dd, go⟩ := vals_out calm I1 hd q rfl
  refine ⟨dd.typeIs, dd.mapOf.noDict, ?_⟩
  exact method_meetsIn (A := X.A) (s := s1) F.slot_dict_values F.entry_dict_values rfl (PySem.evalArgs_none ⟨rfl, dd.typeIs, F.args_dict_values_1 _, _, meets_dict_values (mixKind X.prog X.w) d low, ⟨vs, dd⟩, Calls.spliced_nil go⟩)
end
end Zs
namespace Lf
open PySem PySem.Spec PyProof.Rows L2
open PySem.W (Frag)
section
variable {K : Frag} {Γ : Gm} {ω ω1 : List Ent} {te : TE} {α κ : Type} [Rp α] [KpV κ]
theorem EvF.listVals {d : Dic κ α} (h : EvX te Γ ω ω1 (is K d)) : EvF (Zs.tListVals te) Γ ω ω1 (olst K (d.l.map (·.2))) := fun σ G H Q r w q => h σ G H _ r w fun v G1 H1 s1 w1 p1 => by
  obtain ⟨a, kvs, rfl, e, hv, l⟩ := p1
  refine ⟨a, kvs, rfl, w1.rd e, fun p hp => q p G1 _ s1 (newL w1 hp ?_ (by rw [List.length_map]; exact l))⟩
  clear e l q
  generalize d.l = ys at hv
  induction hv with
  | nil => exact .nil
  | cons r _ ih => exact .cons r.2 ih
/-! ### a text by its signs -/
def sgns (x : Str) : List Str := x.cps.toList.map fun c => ⟨#[c]⟩
def sgnIn (x z : Str) : Option Bool := match x.cps.toList with
  | [c] => some (decide (c ∈ z.cps.toList))
  | _ => none
def rNotSgn : R2 := fun x y H Q => ∃ (c : Nat) (z : Str), x = .str ⟨#[c]⟩ ∧ y = .str z ∧ Q (.bl (!decide (c ∈ z.cps.toList))) H
theorem op_notSgn {X : Cx} : OpR X (compareOp .NotIn) rNotSgn := op_notIn_sign
def fits (x : Str) : Option Unit := if x.cps.size ≤ sizeLine then some () else none
theorem CaX.lenTx {x : Str} {y : Unit} (f : fits x = some y) : CaX (fun xs H Q => ∃ z : Str, xs = [V.str z] ∧ z.length ≤ sizeLine ∧ Q (.int (z.length : Int)) H) ω ω [is K x] (is K (x.length : Int)) := fun G H vs Q w pa q => by
  obtain ⟨v, rfl, e⟩ := PArgs.one pa
  cases e
  refine ⟨x, rfl, ?_, q _ G H (Le.refl _) w rfl⟩
  unfold fits at f
  split at f
  · assumption
  · cases f
theorem IterX.str {x : Str} {y : Unit} (h : EvX te Γ ω ω1 (is K x)) (f : fits x = some y) : IterX K (iStr te) Γ ω ω1 Any (sgns x) := fun σ G H R r w q => h σ G H _ r w fun v G1 H1 s1 w1 p1 => by
  have l : x.cps.size ≤ sizeLine := by
    unfold fits at f
    split at f
    · assumption
    · cases f
  cases p1
  have len : (sgns x).length = x.cps.size := by
    unfold sgns
    rw [List.length_map, Array.length_toList]
  refine ⟨x, rfl, q _ G1 H1 s1 w1 ⟨by rw [len]; exact l, fun G ω H i _ _ _ hi => by rw [len] at hi; exact hi, fun G ω H _ _ _ => Nat.le_of_eq len.symm, fun G ω H i v H' a _ w2 _ ha y => ?_⟩⟩
  obtain ⟨rfl, c, ec, rfl⟩ := y
  refine ⟨G, Le.refl _, w2, ?_⟩
  unfold sgns at ha
  rw [List.getElem?_map, Array.getElem?_toList, ec] at ha
  cases ha
  rfl
theorem OpX.notSgn {x z : Str} {b : Bool} (e : sgnIn x z = some b) : OpX rNotSgn ω ω (is K x) (is K z) (is K (!b)) := fun G H u v Q w p1 p2 q => by
  cases p1
  cases p2
  unfold sgnIn at e
  split at e
  · rename_i c h
    cases e
    refine ⟨c, z, ?_, rfl, q _ G H (Le.refl _) w rfl⟩
    obtain ⟨⟨l⟩⟩ := x
    have h' : l = [c] := h
    rw [h']
  · cases e
end
end Lf
/-! ## Texts: turned, so many times, cut, split, joined, read as numbers -/
namespace Zs
open PySem PySem.Spec PyProof.Rows L2
/-! ### s[::-1] -/
def revS (z : Str) : Str := ⟨z.cps.toList.reverse.toArray⟩
theorem back_ix (n : Nat) : Builtin.Str.strSliceIndices none none (-1) n = (List.range n).map fun k => n - 1 - k := by
  show sliceRange ((n : Int) - 1) (-1) (-1) = _
  unfold sliceRange
  rw [if_neg (by decide)]
  have c : (if (n : Int) - 1 > -1 then ((n : Int) - 1 - (-1) - (-1) - 1) / (- -1) else 0).toNat = n := by
    have e : (- -1 : Int) = 1 := rfl
    rw [e, Int.ediv_one]
    split <;> omega
  dsimp only
  rw [c]
  refine List.map_congr_left fun k hk => ?_
  have := List.mem_range.mp hk
  omega
theorem picked_back (z : Str) (tk : Tok) : ((slicePicked z none none (some ((-1 : Int), tk))).filterMap (z.cps[·]?)).toArray = z.cps.toList.reverse.toArray := by
  have e : slicePicked z none none (some ((-1 : Int), tk)) = Builtin.Str.strSliceIndices none none (-1) z.length := rfl
  rw [e, back_ix]
  congr 1
  have h1 : ∀ k, k ≤ z.cps.size → ((List.range k).map fun j => z.length - 1 - j).filterMap (z.cps[·]?) = (List.range k).map fun m => z.cps[z.cps.size - 1 - m]! := by
    intro k
    induction k with
    | zero => intro _; rfl
    | succ k ih =>
      intro hk
      rw [List.range_succ, List.map_append, List.filterMap_append, List.map_append, ih (by omega)]
      congr 1
      have hl : z.cps.size - 1 - k < z.cps.size := by omega
      show List.filterMap (z.cps[·]?) [z.cps.size - 1 - k] = [z.cps[z.cps.size - 1 - k]!]
      rw [List.filterMap_cons, Array.getElem?_eq_getElem hl]
      show _ :: List.filterMap _ [] = _
      rw [List.filterMap_nil, getElem!_pos z.cps (z.cps.size - 1 - k) hl]
  refine (h1 z.cps.size (Nat.le_refl _)).trans ?_
  refine List.ext_getElem? fun i => ?_
  rw [List.getElem?_map]
  by_cases hi : i < z.cps.size
  · rw [List.getElem?_range hi, List.getElem?_reverse (by simpa using hi)]
    have hl : z.cps.size - 1 - i < z.cps.size := by omega
    show some (z.cps[z.cps.size - 1 - i]!) = _
    rw [getElem!_pos z.cps (z.cps.size - 1 - i) hl, Array.getElem?_toList, Array.length_toList, Array.getElem?_eq_getElem hl]
  · rw [List.getElem?_eq_none (by simpa using hi), List.getElem?_eq_none (by simpa using hi)]
    rfl
def tRevS (te : TE) : TE := fun σ H Q => te σ H fun x H1 => ∃ z, x = .str z ∧ z.length ≤ sizeLine ∧ Q (.str (revS z)) H1
section
variable {X : Cx}
theorem pe_revS {e : Expr} {te : TE} {k : Nat} {p1 p2 p3 pos : Pos} (he : PE X e te) :
    PE X (.Subscript e (.Slice none none (some (.UnaryOp .USub (.Constant (.int 1) k p1) p2)) p3) pos) (tRevS te) := by
  constructor
  intro pins s σ H Q I h
  apply Subscript_
  refine thn (he.run pins s σ H _ I h) ?_
  rintro v s1 ⟨_, H1, I1, r1, z, rfl, few, q⟩
  obtain ⟨t, rfl⟩ := r1
  apply RC.key_back I1
  intro s2 sl tk J hsl
  obtain ⟨os, hos, hcs, hds⟩ := hsl
  refine tail_any (ops := [.str z t, .ref sl]) (typeIs_str _ _ _) F.slot_str_getitem.lookup ?_ (by with_unfolding_all rfl)
  refine wpAny_getItem_str_slice (l := none) (u := none) (st := some (-1, tk)) ⟨os, hos, hcs, hds⟩ rfl ?_
  show Made.post (if ((-1 : Int) == 1 && _) = true then Made.val (.str z t) else Made.str ⟨((slicePicked z none none (some ((-1 : Int), tk))).filterMap (z.cps[·]?)).toArray⟩) _ s2
  rw [show ((-1 : Int) == 1) = false from rfl, Bool.false_and, if_neg Bool.false_ne_true, picked_back]
  refine ⟨?_, .str (revS z), H1, J.tok _, ⟨_, rfl⟩, q⟩
  show (z.cps.toList.reverse.toArray).size ≤ sizeLine
  rw [List.size_toArray, List.length_reverse, Array.length_toList]
  exact few
/-! ### s * n -/
def repS (z : Str) (k : Nat) : Str := ⟨(List.replicate k z.cps).foldl (· ++ ·) #[]⟩
theorem foldl_size (z : Array Nat) : ∀ (k : Nat) (a : Array Nat), ((List.replicate k z).foldl (· ++ ·) a).size = a.size + k * z.size
  | 0, a => by simp
  | k + 1, a => by
    rw [List.replicate_succ, List.foldl_cons, foldl_size z k, Array.size_append, Nat.succ_mul]
    omega
def rTimesS : R2 := fun x y H Q => ∃ (z : Str) (k : Int), x = .str z ∧ y = .int k ∧ 2 ≤ k ∧ k ≤ 10000 ∧ 1 ≤ z.length ∧ z.length ≤ 1000 ∧ Q (.str (repS z k.toNat)) H
theorem op_timesS : OpR X (binaryOp .Mult) rTimesS := by
  intro pins s σ H x y v u Q I rx ry ⟨z, k, ex, ey, low, high, some_, few, q⟩
  subst ex ey
  obtain ⟨t, rfl⟩ := rx
  obtain ⟨t', rfl⟩ := ry
  have big : z.length * k.toNat ≤ 1000 * 10000 := Nat.mul_le_mul few (by omega)
  have line : sizeLine = 16777216 := by decide
  refine P.mul_str ?_ (fun _ _ => ?_) (fun _ _ => ?_) ?_
  · rw [decide_eq_false (by omega), decide_eq_false (by omega)]
    rfl
  · have : (1000 : Int) ≤ (2 ^ 63 - 1) / k := by
      refine (Int.le_ediv_iff_mul_le (by omega)).mpr ?_
      omega
    omega
  · unfold Builtin.Str.tooLong
    exact decide_eq_false (by omega)
  · rw [if_neg (by omega), if_neg (by
      rw [Bool.or_eq_true, beq_iff_eq, beq_iff_eq]
      omega)]
    refine ⟨?_, .str (repS z k.toNat), H, I.tok _, ⟨_, rfl⟩, q⟩
    show ((List.replicate k.toNat z.cps).foldl (· ++ ·) #[]).size ≤ sizeLine
    rw [foldl_size, line]
    have : z.cps.size = z.length := rfl
    rw [this, Nat.mul_comm]
    show 0 + _ ≤ _
    omega
/-! ### methods of texts, by their readings' names -/
def rSplit : V → List V → Hp → VK → Prop := fun x xs H Q => ∃ a b, x = .str a ∧ xs = [.str b] ∧ (b.length == 0) = false ∧ a.length + 2 ≤ sizeLine ∧ rNewStrs (Txt.split a b) H Q
theorem mt_splitT : MtR X "str.split" rSplit := mt_split
def rJoin (K : PySem.W.Frag) : V → List V → Hp → VK → Prop := fun x xs H Q => ∃ a p, ∃ ys : List Str, x = .str a ∧ xs = [.ref p] ∧ (SqL K H p (ys.map V.str) ∨ SqT K H p (ys.map V.str)) ∧ (ys.map (·.length)).sum + ys.length * a.length ≤ 16777216 ∧ Q (.str (Txt.join a ys)) H
theorem mt_joinK : MtR X "str.join" (rJoin X.K) := mt_join
def rInSgn : R2 := fun x y H Q => ∃ (c : Nat) (z : Str), x = .str ⟨#[c]⟩ ∧ y = .str z ∧ Q (.bl (decide (c ∈ z.cps.toList))) H
theorem op_inSgn : OpR X (compareOp .In) rInSgn := op_in_sign
def rIntT : List V → Hp → VK → Prop := fun xs H Q => ∃ a n, xs = [.str a] ∧ PySem.intText? a = some n ∧ a.length ≤ 640 ∧ Q (.int n) H
theorem call_intT : CallR X (.type "int") rIntT := call_int_str
def rStrI : List V → Hp → VK → Prop := fun xs H Q => ∃ i : Int, xs = [.int i] ∧ i.natAbs.log2 < 1920 ∧ Q (.str (toString i)) H
theorem call_strI : CallR X (.type "str") rStrI := call_str_int
end
end Zs
namespace Lf
open PySem PySem.Spec PyProof.Rows L2
open PySem.W (Frag)
section
variable {K : Frag} {Γ : Gm} {ω ω1 ω2 ω3 : List Ent} {te to : TE}
def addS (x y : Str) : Option Str := if x.length + y.length ≤ sizeLine then some (x ++ y) else none
theorem OpX.addS {x y z : Str} (e : Lf.addS x y = some z) : OpX (fun x y H Q => ∃ i j, x = .str i ∧ y = .str j ∧ i.length + j.length ≤ sizeLine ∧ Q (.str (i ++ j)) H) ω ω (is K x) (is K y) (is K z) := fun G H u v Q w p1 p2 q => by
  cases p1
  cases p2
  unfold Lf.addS at e
  split at e
  · cases e
    exact ⟨_, _, rfl, rfl, by assumption, q _ G H (Le.refl _) w rfl⟩
  · cases e
def timesS (x : Str) (n : Int) : Option Str := if 2 ≤ n ∧ n ≤ 10000 ∧ 1 ≤ x.length ∧ x.length ≤ 1000 then some (Zs.repS x n.toNat) else none
theorem OpX.timesS {x z : Str} {n : Int} (e : Lf.timesS x n = some z) : OpX Zs.rTimesS ω ω (is K x) (is K n) (is K z) := fun G H u v Q w p1 p2 q => by
  cases p1
  cases p2
  unfold Lf.timesS at e
  split at e
  · rename_i c
    cases e
    exact ⟨_, _, rfl, rfl, c.1, c.2.1, c.2.2.1, c.2.2.2, q _ G H (Le.refl _) w rfl⟩
  · cases e
/-- one sign of a text -/
def atS (x : Str) (i : Int) : Option Str := if x.length ≤ sizeLine then (atI x.cps.toList i).map (fun c => ⟨#[c]⟩) else none
theorem OpX.ixT' {x z : Str} {i : Int} (e : atS x i = some z) : OpX rIxS ω ω (is K x) (is K i) (is K z) := fun G H u v Q w p1 p2 q => by
  cases p1
  cases p2
  unfold atS at e
  split at e
  · rename_i l
    cases c : atI x.cps.toList i with
    | none =>
      rw [c] at e
      cases e
    | some n =>
      rw [c] at e
      cases e
      exact ⟨_, _, n, rfl, rfl, l, c, q _ G H (Le.refl _) w rfl⟩
  · cases e
/-- a part of a text -/
def cutT (x : Str) (lo hi : Option Int) : Option Str := if x.length ≤ sizeLine then some (cutS x lo hi) else none
theorem EvX.slS {x z : Str} {tl th : TO} {lo hi : Option Int} (h : EvX te Γ ω ω1 (is K x)) (h1 : EvO tl Γ ω1 ω2 lo) (h2 : EvO th Γ ω2 ω3 hi) (e : cutT x lo hi = some z) : EvX (tSl rSlS te tl th) Γ ω ω3 (is K z) := fun σ G H Q r w q =>
  h σ G H _ r w fun v G1 H1 s1 w1 p1 => h1 σ G1 H1 _ (r.mono s1) w1 fun G2 H2 s2 w2 => h2 σ G2 H2 _ (r.mono (s1.trans s2)) w2 fun G3 H3 s3 w3 => by
    cases p1
    unfold cutT at e
    split at e
    · cases e
      exact ⟨x, rfl, by assumption, q _ G3 H3 (s1.trans (s2.trans s3)) w3 rfl⟩
    · cases e
def revT' (x : Str) : Option Str := if x.length ≤ sizeLine then some (Zs.revS x) else none
theorem EvX.revS {x z : Str} (h : EvX te Γ ω ω1 (is K x)) (e : revT' x = some z) : EvX (Zs.tRevS te) Γ ω ω1 (is K z) := fun σ G H Q r w q => h σ G H _ r w fun v G1 H1 s1 w1 p1 => by
  cases p1
  unfold revT' at e
  split at e
  · cases e
    exact ⟨x, rfl, by assumption, q _ G1 H1 s1 w1 rfl⟩
  · cases e
theorem txs_of {G : Hp} : ∀ {vs : List V} {xs : List Str}, All K G vs xs → vs = xs.map V.str
  | _, _, .nil => rfl
  | _, _, .cons r t => by rw [show _ = V.str _ from r, txs_of t]; rfl
theorem of_txs {G : Hp} : ∀ {xs : List Str}, All K G (xs.map V.str) xs
  | [] => .nil
  | _ :: _ => .cons rfl of_txs
def splitO (x b : Str) : Option (List Str) := if (b.length == 0) = false ∧ x.length + 2 ≤ sizeLine ∧ (Txt.split x b).length ≤ sizeLine then some (Txt.split x b) else none
theorem EvF.split {x b : Str} {xs : List Str} (h : EvX to Γ ω ω1 (is K x)) (h2 : EvX te Γ ω1 ω2 (is K b)) (e : splitO x b = some xs) : EvF (tM1 Zs.rSplit to te) Γ ω ω2 (olst K xs) := fun σ G H Q r w q =>
  h σ G H _ r w fun v G1 H1 s1 w1 p1 => ⟨⟨x, p1⟩, h2 σ G1 H1 _ (r.mono s1) w1 fun u G2 H2 s2 w2 p2 => by
    cases p1
    cases p2
    unfold splitO at e
    split at e
    · rename_i c
      cases e
      exact ⟨x, b, rfl, rfl, c.1, c.2.1, fun p hp => q p G2 _ (s1.trans s2) (newL w2 hp of_txs c.2.2)⟩
    · cases e⟩
def joinO (x : Str) (xs : List Str) : Option Str := if (xs.map (·.length)).sum + xs.length * x.length ≤ 16777216 then some (Txt.join x xs) else none
theorem EvX.join {x z : Str} {xs : List Str} (h : EvX to Γ ω ω1 (is K x)) (h2 : EvX te Γ ω1 ω2 (is K xs)) (e : joinO x xs = some z) : EvX (tM1 (Zs.rJoin K) to te) Γ ω ω2 (is K z) := fun σ G H Q r w q =>
  h σ G H _ r w fun v G1 H1 s1 w1 p1 => ⟨⟨x, p1⟩, h2 σ G1 H1 _ (r.mono s1) w1 fun u G2 H2 s2 w2 p2 => by
    cases p1
    obtain ⟨a, vs, rfl, ea, al, _⟩ := p2
    rw [txs_of al] at ea
    unfold joinO at e
    split at e
    · cases e
      exact ⟨x, a, xs, rfl, rfl, .inl (RC.sq_of (w2.lst ea)), by assumption, q _ G2 H2 (s1.trans s2) w2 rfl⟩
    · cases e⟩
theorem OpX.inSgn {x z : Str} {b : Bool} (e : sgnIn x z = some b) : OpX Zs.rInSgn ω ω (is K x) (is K z) (is K b) := fun G H u v Q w p1 p2 q => by
  cases p1
  cases p2
  unfold sgnIn at e
  split at e
  · rename_i c h
    cases e
    refine ⟨c, z, ?_, rfl, q _ G H (Le.refl _) w rfl⟩
    obtain ⟨⟨l⟩⟩ := x
    have h' : l = [c] := h
    rw [h']
  · cases e
def intO (x : Str) : Option Int := if x.length ≤ 640 then PySem.intText? x else none
theorem CaX.intT {x : Str} {n : Int} (e : intO x = some n) : CaX Zs.rIntT ω ω [is K x] (is K n) := fun G H vs Q w pa q => by
  obtain ⟨v, rfl, rfl⟩ := PArgs.one pa
  unfold intO at e
  split at e
  · exact ⟨x, n, rfl, e, by assumption, q _ G H (Le.refl _) w rfl⟩
  · cases e
def strO (n : Int) : Option Str := if n.natAbs.log2 < 1920 then some (toString n) else none
theorem CaX.strI {x : Str} {n : Int} (e : strO n = some x) : CaX Zs.rStrI ω ω [is K n] (is K x) := fun G H vs Q w pa q => by
  obtain ⟨v, rfl, rfl⟩ := PArgs.one pa
  unfold strO at e
  split at e
  · cases e
    exact ⟨n, rfl, by assumption, q _ G H (Le.refl _) w rfl⟩
  · cases e
end
end Lf
/-! ## replace: in a body that begins with a token out -/
namespace Zs
open PySem PySem.Spec PyProof.Rows L2
section
variable {X : Cx}
theorem nox_T {st : List Stmt} {t : TS} (h : PSsT X.nox st t) : PSsT X st t := fun pins s σ H D h0 I hw =>
  wpAny_mono (h pins s σ H D h0 (I.wish _) hw) (fun _ _ q => q.unwish) fun _ _ z => False.elim z
theorem okT {P : Program} {w : World} {K : PySem.W.Frag} {mg : Str → Option Value} {base : Heap} {x qual : Str} {params : Arguments} {body : List Stmt} {scope : Scope} {dvs : List V} {kws : List (Str × V)} {f : Addr} {fd : FuncData} {CX : CXT} {N ps : List Str} {k : Nat} {sp : Sp}
    (F : FunD K x qual params body scope dvs kws f fd) (S : FnScope N ps scope) (nc : ∀ y ∈ scope.names, y.2 ≠ .cell) (some_ : 1 ≤ ps.length) (len : ∀ vs H Q E, sp vs H Q E → vs.length = ps.length)
    (walk : ∀ (cdv : Value) (A : Around) (outer : List Env) (s : Shared) (H : Hp) (vs : List V) (Q : VK) (E : XK), Room k (A.deeper (envOfC qual scope s.heap.objs.size f cdv)) → sp vs H Q E →
      ∃ t, PSsT (cxOf CX P w K mg base N qual scope f cdv A outer s H E) body t ∧ t { nx := fun _ H' => Q .non H', rt := Q } (start N vs) H) : FnOk P w K mg base CX (k + 1) f fd ps sp := by
  obtain ⟨oc, od, dV, kV, doc, pm, an, cdv, ct, osl, rfl, lk, hcd, _, _⟩ := F.ex
  exact fn_ofT lk hcd S nc some_ len fun A outer s H vs Q E room asked => walk cdv A outer s H vs Q E room asked
/-- e.replace(..).split(sep) -/
theorem pet_split {o e : Expr} {to te : TE} {apos pos : Pos} (ho : PET X o to) (he : PE X e te) (hs : starEach [e] X.env = [(false, eval e X.env)] := by rfl) (hbase : attributeBase o "split" X.env (eval o X.env) = eval o X.env := by rfl) (hline : (apos.endLine == pos.line) = true := by rfl) :
    PET X (.Call (.Attribute o "split" apos) [e] [] pos) (tM1 rSplit to te) := by
  intro pins s σ H Q h0 I h
  apply PySem.Call_method1 hbase hs hline
  refine thn (ho pins s σ H _ h0 I h) ?_
  rintro v s1 ⟨_, H1, I1, r1, ⟨a, rfl⟩, q1⟩
  obtain ⟨t, rfl⟩ := _root_.id r1
  refine ⟨"str", _, F.plainAttrs_str, F.slot_str_split, F.type_str_split, typeIs_str _ _ _, (fun _ e => nomatch e), ?_⟩
  apply Calls.callWith_builtin rfl
  apply Calls.evalArgs_plain
  apply Calls.spliced_cons
  refine thn (he.run pins s1 σ H1 _ I1 q1) ?_
  rintro u s2 ⟨y, H2, I2, r2, q2⟩
  exact Calls.spliced_nil (mt_splitT pins s2 σ H2 _ [y] _ [u] Q I2 r1 (.cons r2 .nil) q2)
end
end Zs
namespace Lf
open PySem PySem.Spec PyProof.Rows L2
open PySem.W (Frag)
section
variable {K : Frag} {Γ : Gm} {ω ω1 : List Ent} {to : TE}
def replO (x y z : Str) : Option Str := if x.length + (x.length + 1) * z.length ≤ 16777216 then some (Txt.replace x y z) else none
theorem EvX.repl {x y z r : Str} (h : EvX to Γ ω ω1 (is K x)) (e : replO x y z = some r) : EvX (CwR.tReplC to y z) Γ ω ω1 (is K r) := fun σ G H Q rr w q => h σ G H _ rr w fun v G1 H1 s1 w1 p1 => by
  cases p1
  unfold replO at e
  split at e
  · cases e
    exact ⟨x, rfl, by assumption, q _ G1 H1 s1 w1 rfl⟩
  · cases e
end
end Lf
/-! ## == of tuples whose items are told equal by an own method -/
namespace Zs
open PySem PySem.Spec PyProof.Rows L2
section
variable {prog : Program} {w : World} {A : Around} {R : Result → Shared → Prop}
/-- the answer of == over two rows, by the items' answers -/
def allB (e : Nat → Bool) (m n : Nat) : Bool := (List.range (min m n)).all e && m == n
theorem allB_no {e : Nat → Bool} {m n i : Nat} (h1 : i < m) (h2 : i < n) (h : e i = false) : allB e m n = false := by
  unfold allB
  rw [Bool.and_eq_false_iff]
  refine .inl (List.all_eq_false.mpr ⟨i, List.mem_range.mpr (Nat.lt_min.mpr ⟨h1, h2⟩), ?_⟩)
  rw [h]
  exact Bool.false_ne_true
theorem allB_go {e : Nat → Bool} {m n i : Nat} (big : min m n ≤ i) (h : ∀ j, j < i → e j = true) : allB e m n = (m == n) := by
  unfold allB
  rw [List.all_eq_true.mpr fun j hj => h j (Nat.lt_of_lt_of_le (List.mem_range.mp hj) big), Bool.true_and]
theorem drop_at {γ : Type} : ∀ {ps rest : List γ} {i : Nat} {p : γ}, p :: rest = ps.drop i → ps[i]? = some p ∧ rest = ps.drop (i + 1)
  | [], _, i, _, h => by rw [List.drop_nil] at h; cases h
  | q :: qs, _, 0, _, h => by
    cases h
    exact ⟨rfl, rfl⟩
  | q :: qs, _, i + 1, _, h => drop_at (ps := qs) (i := i) h
theorem drop_end {γ : Type} : ∀ {ps : List γ} {i : Nat}, [] = ps.drop i → ps.length ≤ i
  | [], _, _ => Nat.zero_le _
  | _ :: _, 0, h => by cases h
  | _ :: qs, i + 1, h => Nat.succ_le_succ (drop_end (ps := qs) h)
/-- the tuples' own ==; at each turn I holds, the i-th pair's answer is e i -/
theorem tup_eqW {l b : Addr} {its us : Array Value} {n n2 : Nat} {dd dd2 : Option Addr} {sl sl2 : Array (Option Value)} (e : Nat → Bool) (I : Nat → Shared → Prop)
    (one : ∀ i x y s, its.toList[i]? = some x → us.toList[i]? = some y → I i s → wpAny (model prog w) A.in1 (eqBool x y) (fun r s' => r = e i ∧ I (i + 1) s') (fun z s' => R (.error z) s') s)
    (out : ∀ i s, I i s → R (.ok (.ret (.bool (allB e its.size us.size)))) s)
    {s : Shared} (at1 : s.heap.get? l = some { cls := .type "tuple", dict := dd, data := .seq its n, slots := sl }) (at2 : s.heap.get? b = some { cls := .type "tuple", dict := dd2, data := .seq us n2, slots := sl2 }) (start : I 0 s) :
    wpAny (model prog w) A.in1 (Builtin.«tuple.__eq__» ⟨[.ref l, .ref b], []⟩) (GQ.FinOf prog w A R) (fun z s' => R (.error z) s') s := by
  have kinds := AutoSeq1.sub_tuple_tuple
  have start2 := start
  obtain ⟨hp, g, d, tk, os⟩ := s
  wp_walk using AutoSeq1.wpAny_loadPart' at1, AutoSeq1.wpAny_loadPart' at2, wpAny_forIn_list _ (fun rest q s' => q.1 = none ∧ ∃ i, rest = (its.toList.zip us.toList).drop i ∧ (∀ j, j < i → e j = true) ∧ I i s') _
  case h => exact ⟨rfl, 0, rfl, fun j hj => absurd hj (Nat.not_lt_zero _), start2⟩
  case fin =>
    rintro ⟨q1, q2⟩ s' ⟨hq, i, stop, yes, hI⟩
    cases (show q1 = none from hq)
    have far := drop_end stop
    rw [List.length_zip, Array.length_toList, Array.length_toList] at far
    have r := out i s' hI
    rw [allB_go far yes] at r
    wp_walk
    simpa [Builtin.Tuple.tupleCompareSizes] using r
  case turn =>
    rintro ⟨x, y⟩ rest q s' ⟨_, i, here, yes, hI⟩
    obtain ⟨at_, tail⟩ := drop_at here
    obtain ⟨ex, ey⟩ := List.getElem?_zip_eq_some.mp at_
    refine wpAny_bind (wpAny_mono (one i x y s' ex ey hI) (fun r s2 t => ?_) fun _ _ z => z)
    obtain ⟨er, hI2⟩ := t
    cases c : e i with
    | true =>
      rw [er, c]
      wp_walk
      refine ⟨rfl, i + 1, tail, fun j hj => ?_, hI2⟩
      by_cases z : j = i
      · rw [z]
        exact c
      · exact yes j (by omega)
    | false =>
      have r := out _ s2 hI2
      obtain ⟨l1, _⟩ := List.getElem?_eq_some_iff.mp ex
      obtain ⟨l2, _⟩ := List.getElem?_eq_some_iff.mp ey
      rw [allB_no (by simpa using l1) (by simpa using l2) c] at r
      rw [er, c]
      wp_walk
      exact r
end
section
variable {X : Cx} {CX : CXT} {C f : Addr} {k : Nat} {fd : FuncData} {ps : List Str} {sp : Sp} {E : XK}
/-- o == y by o's own method, in any surroundings -/
theorem own_eqA {A : Around} {pins : List (Addr × Obj)} {σ : L2.St} {H : Hp} {s : Shared} {a dx : Addr} {fs : List (Str × V)} {y : V} {u : Value} {S : Bool → Hp → Prop} (hm : Meth X.K C "__eq__" f) (F : FnOk X.prog X.w X.K X.mg X.base CX k f fd ps sp) (room : Room k A) (hb : Binds X.K fd ps []) (hx : Passes CX X E)
    (I : Inv X pins σ H s) (e0 : Env0 X.prog X.w X.K X.mg X.base A X.stack s H) (ry : RelV y u) (ha : H a = some (.ins C dx fs)) (oy : RC.Other X.K C H y) (h : sp [.ref a, y] H (fun v H' => ∃ k, v = .bl k ∧ S k H') E) :
    wpAny (model X.prog X.w) A (richCompare .Eq (.ref a) u) (fun r s' => ∃ k, r = .bool k ∧ ∃ H', Inv X pins σ H' s' ∧ S k H') X.xe s := by
  obtain ⟨_, J, _⟩ := ins_get I.hok ha
  obtain ⟨_, J, _⟩ := J.look
  obtain ⟨_, fr⟩ := I.fr
  obtain ⟨_, looks, nf⟩ := RC.other_looks I ry oy
  have go := RC.run_at F room e0 hb hx I (us := [.ref a, u]) (vs := [.ref a, y]) (.cons rfl (.cons ry .nil)) h
  refine PySem.W.cmp_K (op := .Eq) room.units0 fr I.ok.mod.kin J looks nf hm.at_ hm.fn (wpAny_mono go ?_ fun _ _ z => z)
  rintro r s' ⟨_, H', J', rv, b, rfl, q⟩
  cases (show r = Value.bool b from rv)
  exact ⟨b, rfl, H', J', q⟩
/-- how one item of a tuple is told equal to another -/
def ItemEq (K : PySem.W.Frag) (C : Addr) (sp : Sp) (E : XK) (v u : V) (H : Hp) (P : Bool → Hp → Prop) : Prop :=
  ∃ a b, v = .ref a ∧ u = .ref b ∧ (a = b → P true H) ∧ (a ≠ b → ∃ dx fs, H a = some (.ins C dx fs) ∧ RC.Other K C H u ∧ sp [v, u] H (fun z H' => ∃ k, z = .bl k ∧ P k H') E)
def rEqTO (K : PySem.W.Frag) (C : Addr) (sp : Sp) (E : XK) : R2 := fun x y H Q => ∃ (a b : Addr) (vs us : List V) (e : Nat → Bool) (P : Nat → Hp → Prop), x = .ref a ∧ y = .ref b ∧ SqT K H a vs ∧ SqT K H b us ∧ P 0 H ∧
  (∀ i v u H', vs[i]? = some v → us[i]? = some u → P i H' → ItemEq K C sp E v u H' fun r H2 => r = e i ∧ P (i + 1) H2) ∧ ∀ i H', P i H' → Q (.bl (allB e vs.length us.length)) H'
theorem at_val {vs : List V} {us : List Value} (r : Vals vs us) {i : Nat} {u : Value} (h : us[i]? = some u) : ∃ v, vs[i]? = some v ∧ RelV v u := by
  induction r generalizing i with
  | nil => cases h
  | cons r1 _ ih =>
    cases i with
    | zero =>
      cases h
      exact ⟨_, rfl, r1⟩
    | succ i => exact ih h
theorem op_eqTO (hm : Meth X.K C "__eq__" f) (F : FnOk X.prog X.w X.K X.mg X.base CX k f fd ps sp) (hr : Room (k + 1) X.A) (hb : Binds X.K fd ps []) (hx : Passes CX X E) : OpR X (compareOp .Eq) (rEqTO X.K C sp E) := by
  intro pins s σ H x y v u Q I rx ry ⟨a, b, vs, us, e, P, ex, ey, ta, tb, beg, one, out⟩
  subst ex ey
  cases rx
  cases ry
  obtain ⟨its, r1, ⟨⟨c1, d1, z1, s1⟩, g1, k1, n1, m1⟩, _⟩ := I.tuple ta
  obtain ⟨jts, r2, ⟨⟨c2, d2, z2, s2⟩, g2, k2, n2, m2⟩, _⟩ := I.tuple tb
  dsimp only at k1 m1 k2 m2
  subst k1 m1 k2 m2
  have l1 := r1.length
  have l2 := r2.length
  show wpAny (model X.prog X.w) X.A (richCompare .Eq (.ref a) (.ref b)) (EP X pins σ Q) X.xe s
  refine wpAny_richCompare_same_room (op := .Eq) ⟨_, g1, rfl⟩ ⟨_, g2, rfl⟩ PySem.F.slot_tuple_eq (GQ.call_here PySem.F.slot_tuple_eq ⟨_, g1, rfl⟩ PySem.F.entry_tuple_eq (PySem.F.args_tuple_eq_2 _ _) ?_) hr.units0
  refine tup_eqW (R := wants (fun v s' => v ≠ .notImplemented ∧ EP X pins σ Q v s') X.xe) e (fun i s' => ∃ H', Inv X pins σ H' s' ∧ P i H') ?_ ?_ g1 g2 ⟨H, I, beg⟩
  · rintro i x y s' ex ey ⟨H', J, hP⟩
    obtain ⟨v, ev, rv⟩ := at_val r1 (by simpa using ex)
    obtain ⟨u, eu, ru⟩ := at_val r2 (by simpa using ey)
    obtain ⟨p, q, rfl, rfl, same, other⟩ := one i v u H' ev eu hP
    cases rv
    cases ru
    by_cases z : p = q
    · subst z
      obtain ⟨er, hn⟩ := same rfl
      exact SeqAt.EqAt.same (A := X.A.in1) (s := s') (.ref p) X.prog X.w _ _ ⟨er, H', J, hn⟩
    · obtain ⟨dx, fs, hp, oy, asked⟩ := other z
      refine GQ.eqBool_refG z (wpAny_mono (own_eqA (y := .ref q) hm F hr.in1 hb hx J J.env0.in1 rfl hp oy asked) ?_ fun _ _ z => z)
      rintro r s2 ⟨k, er, H2, J2, ek, hn⟩
      exact ⟨k, er, ek, H2, J2, hn⟩
  · rintro i s' ⟨H', J, hP⟩
    have q := out i H' hP
    rw [l1, l2] at q
    exact ⟨(fun z => nomatch z), V.bl _, H', J, rfl, by simpa using q⟩
end
end Zs
namespace Lf
open PySem PySem.Spec PyProof.Rows L2
open PySem.W (Frag)
section
variable {K : Frag} {ω : List Ent} {α : Type} [Rp α]
def allT (f : α → α → Bool) : List α → List α → Bool
  | [], [] => true
  | x :: xs, y :: ys => f x y && allT f xs ys
  | _, _ => false
/-- the answer at the i-th place -/
def ansT (f : α → α → Bool) (xs ys : List α) (i : Nat) : Bool := match xs[i]?, ys[i]? with
  | some x, some y => f x y
  | _, _ => true
theorem allT_allB (f : α → α → Bool) : ∀ (xs ys : List α), Zs.allB (ansT f xs ys) xs.length ys.length = allT f xs ys
  | [], [] => rfl
  | [], y :: ys => by simp [Zs.allB, allT]
  | x :: xs, [] => by simp [Zs.allB, allT]
  | x :: xs, y :: ys => by
    have ih := allT_allB f xs ys
    unfold Zs.allB at ih ⊢
    show _ = (f x y && allT f xs ys)
    rw [← ih, List.length_cons, List.length_cons, show min (xs.length + 1) (ys.length + 1) = min xs.length ys.length + 1 by omega, List.range_succ_eq_map, List.all_cons, List.all_map]
    have e1 : ansT f (x :: xs) (y :: ys) 0 = f x y := rfl
    have e2 : (ansT f (x :: xs) (y :: ys) ∘ Nat.succ) = ansT f xs ys := by
      funext i
      show ansT f (x :: xs) (y :: ys) (i + 1) = _
      unfold ansT
      rw [List.getElem?_cons_succ, List.getElem?_cons_succ]
    have e3 : (xs.length + 1 == ys.length + 1) = (xs.length == ys.length) := by
      rw [Bool.eq_iff_iff]
      simp
    rw [e1, e2, e3, Bool.and_assoc]
theorem OpX.eqTO {C : Addr} {sp : Sp} {E : XK} (f : α → α → Bool) {xs ys : Tu α}
    (item : ∀ {G H : Hp} {v u : V} {x y : α} {P : Bool → Hp → Prop}, At G ω H → Rp.rep K G v x → Rp.rep K G u y → (∀ G2 H2, Le G G2 → At G2 ω H2 → P (f x y) H2) → Zs.ItemEq K C sp E v u H P) :
    OpX (Zs.rEqTO K C sp E) ω ω (is K xs) (is K ys) (is K (allT f xs.l ys.l)) := fun G H u v Q w p1 p2 q => by
  obtain ⟨a, vs, rfl, ea, av, _⟩ := p1
  obtain ⟨b, us, rfl, eb, au, _⟩ := p2
  refine ⟨a, b, vs, us, ansT f xs.l ys.l, fun _ H' => ∃ G2, Le G G2 ∧ At G2 ω H', rfl, rfl, RC.st_of (w.tup ea), RC.st_of (w.tup eb), ⟨G, Le.refl _, w⟩, ?_, ?_⟩
  · rintro i x y H' ex ey ⟨G2, s2, w2⟩
    have get : ∀ {zs : List V} {ts : List α}, All K G zs ts → ∀ {z : V}, zs[i]? = some z → ∃ t, ts[i]? = some t ∧ Rp.rep K G z t := by
      intro zs ts h
      clear ex ey
      induction h generalizing i with
      | nil => intro z e; cases e
      | cons r _ ih =>
        intro z e
        cases i with
        | zero =>
          cases e
          exact ⟨_, rfl, r⟩
        | succ i => exact ih (i := i) e
    obtain ⟨t1, e1, r1⟩ := get av ex
    obtain ⟨t2, e2, r2⟩ := get au ey
    refine item w2 (Rp.mono s2 r1) (Rp.mono s2 r2) fun G3 H3 s3 w3 => ⟨?_, G3, s2.trans s3, w3⟩
    unfold ansT
    rw [e1, e2]
  · rintro i H' ⟨G2, s2, w2⟩
    rw [Paired.len av, Paired.len au, allT_allB]
    exact q _ G2 H' s2 w2 rfl
theorem tuI_one {G : Hp} {v : V} {x y : Tu Int} (h1 : Rp.rep K G v x) (h2 : Rp.rep K G v y) : x = y := by
  obtain ⟨a, vs, rfl, ea, av, _⟩ := h1
  obtain ⟨b, us, e, eb, au, _⟩ := h2
  cases e
  rw [ea] at eb
  cases eb
  have e := (ints_of av).symm.trans (ints_of au)
  have inj : ∀ {a b : List Int}, a.map V.int = b.map V.int → a = b := by
    intro a
    induction a with
    | nil =>
      intro b h
      cases b with
      | nil => rfl
      | cons => cases h
    | cons x a ih =>
      intro b h
      cases b with
      | nil => cases h
      | cons y b =>
        injection h with h1 h2
        cases h1
        rw [ih h2]
  obtain ⟨l⟩ := x
  obtain ⟨m⟩ := y
  exact congrArg Tu.mk (inj e)
end
end Lf
/-! ## try: x = f(..), the error kept -/
namespace Lf
open PySem PySem.Spec PyProof.Rows L2
open PySem.W (Frag)
open He (ga)
/-- what is kept of a call in a try, and what it told (t0: what stood there before) -/
def Res.told {R T : Type} (L : List Str) (t0 : T) (g : R → T) : Res R → Res (Option Exn × T)
  | .ok r => .ok (none, g r)
  | .err e => if e.cls ∈ L then .ok (some e, t0) else .bad
  | .bad => .bad
section
variable {K : Frag} {W : WX} {ωe : List Ent} {X R T : Type} [Rp R] [Rp T] {Γ : Gm} {ω ω1 : List Ent} {Z : ZF K W ωe X} {u : TS} {ta : TA} {ms : List MP} {sp : Sp} {fo : R → RS}
theorem Go.tryA {mr : Res R} {t0 : T} {g : R → T} {x : Option Exn × T → Res X} {L : List Str} {c : Value} {i j l : Nat} (h : EvA ta Γ ω ω1 ms) (hs : ∀ E, SpR K sp E ms ω1 ω1 mr fo) (hf : ∀ r, mr = .ok r → fo r = RS.val (is K r) ω1) (up : ∀ r G v, (is K r).p G v → (is K (g r)).p G v)
    (hL : ∀ cls ∈ L, PySem.W.exmOne K (.ref (ga K cls)) c = some true) (hij : i ≠ j) (hl : Γ[l]? = some (some (is K t0))) (hn : ∀ m, Sub (Γ.set l (some m)) (((Γ.set l (some m)).set j (some (is K (none : Option Exn)))).set i none))
    (k : ∀ y, Res.told L t0 g mr = .ok y → Go u (((Γ.set l (some (is K y.2))).set j (some (is K y.1))).set i none) ω1 Z (x y)) :
    Go (tSeq (fun D σ H => tSeq (tAsg (tCallS sp (WE (RC.wKeep K c i j D)) ta) (gName l)) tNext D σ H) u) Γ ω Z (Res.bind (Res.told L t0 g mr) x) := fun σ G H D rp w z => h σ G H _ rp w fun vs G2 H2 s2 w2 p2 => by
  have same : Γ.set l (some (is K t0)) = Γ := by
    refine List.ext_getElem? fun n => ?_
    by_cases z : l = n
    · subst z
      obtain ⟨lt, _⟩ := List.getElem?_eq_some_iff.mp hl
      rw [List.getElem?_set_self lt, hl]
    · rw [List.getElem?_set_ne z]
  refine hs _ G2 H2 vs _ p2 w2 ⟨fun e => ?_, fun r e => ?_, fun e ee σ' d v G3 H3 s3 w3 hd hv => ?_⟩
  · rw [e] at z
    exact Z.nobad z
  · rw [hf r e]
    intro v G3 H3 s3 w3 pv
    have ec : Res.told L t0 g mr = .ok (none, g r) := by rw [e]; rfl
    rw [ec] at z
    exact k (none, g r) ec _ G3 H3 D (((rp.mono (s2.trans s3)).set (i := l) (up r G3 v pv)).sub (hn _)) w3 (Z.mono (s2.trans s3) z)
  · have inL : e.cls ∈ L := Decidable.byContradiction fun q => by
      rw [ee, show Res.told L t0 g (.err e : Res R) = .bad from if_neg q] at z
      exact Z.nobad z
    have ec : Res.told L t0 g mr = .ok (some e, t0) := by rw [ee]; exact if_pos inL
    rw [ec] at z
    refine ⟨hL _ inL, fun a ha => ?_⟩
    obtain ⟨w4, s4⟩ := w3.new (o := RC.ErrO (.ref (ga K e.cls)) (some d) a) ha
    have all := s2.trans (s3.trans s4)
    have kept : (is K (some e)).p (upd G3 a (RC.ErrO (.ref (ga K e.cls)) (some d) a)) (.ref a) := ⟨⟨a, d, v, rfl, upd_same, s4.at hd, Rp.mono s4 hv⟩, fun z => by cases z⟩
    have turn : ((Γ.set i none).set j (some (is K (some e)))).set i none = (Γ.set j (some (is K (some e)))).set i none := by rw [List.set_comm _ _ hij, List.set_set]
    have go := k (some e, t0) ec
    dsimp only at go
    rw [same, ← turn] at go
    exact go _ _ _ D (((((rp.mono all).off (i := i) (o := some (.ref a))).set (i := j) kept)).off (i := i) (o := none)) w4 (Z.mono all z)
end
end Lf
/-! ## A list of any things compared with [] -/
namespace Lf
open PySem PySem.Spec PyProof.Rows L2
open PySem.W (Frag)
def rEqE (K : Frag) : R2 := fun x y H Q => ∃ (a b : Addr) (xs : List V), x = .ref a ∧ y = .ref b ∧ SqL K H a xs ∧ SqL K H b [] ∧ Q (.bl xs.isEmpty) H
def rNeE (K : Frag) : R2 := fun x y H Q => ∃ (a b : Addr) (xs : List V), x = .ref a ∧ y = .ref b ∧ SqL K H a xs ∧ SqL K H b [] ∧ Q (.bl (!xs.isEmpty)) H
section
variable {X : Cx}
theorem op_eqE (hu : X.A.units < cLine) : OpR X (compareOp .Eq) (rEqE X.K) := fun pins s σ H x y v u Q I rx ry ⟨a, b, xs, ex, ey, ha, hb, q⟩ => by
  subst ex ey
  cases rx
  cases ry
  obtain ⟨its, r1, l1, _⟩ := I.list ha
  obtain ⟨jts, r2, l2, _⟩ := I.list hb
  have n1 := r1.length
  have n2 := r2.length
  cases xs with
  | nil =>
    refine SeqAt.eq_listAt (e := fun _ => true) l1.isList l2.isList (by rw [List.size_toArray, List.size_toArray, ← n1, ← n2]) hu (fun j h1 _ => ?_) ?_
    · rw [List.size_toArray, ← n1] at h1
      cases h1
    · exact ⟨.bl true, H, I, by show Value.bool _ = Value.bool true; simp, q⟩
  | cons z zs =>
    refine SeqAt.eq_list_lengthsAt l1.isList l2.isList ?_ hu ⟨.bl false, H, I, rfl, q⟩
    rw [List.size_toArray, List.size_toArray, ← n1, ← n2]
    rfl
theorem op_neE (hu : X.A.units < cLine) : OpR X (compareOp .NotEq) (rNeE X.K) := fun pins s σ H x y v u Q I rx ry ⟨a, b, xs, ex, ey, ha, hb, q⟩ => by
  subst ex ey
  cases rx
  cases ry
  obtain ⟨its, r1, l1, _⟩ := I.list ha
  obtain ⟨jts, r2, l2, _⟩ := I.list hb
  have n1 := r1.length
  have n2 := r2.length
  cases xs with
  | nil =>
    refine SeqAt.RcNeAt.lists (e := fun _ => true) l1.isList l2.isList (by rw [List.size_toArray, List.size_toArray, ← n1, ← n2]) hu (fun j h1 _ => ?_) X.prog X.w X.xe _ ?_
    · rw [List.size_toArray, ← n1] at h1
      cases h1
    · exact ⟨.bl false, H, I, by show Value.bool _ = Value.bool false; simp, q⟩
  | cons z zs =>
    refine SeqAt.RcNeAt.lists_lengths l1.isList l2.isList ?_ hu X.prog X.w X.xe _ ⟨.bl true, H, I, rfl, q⟩
    rw [List.size_toArray, List.size_toArray, ← n1, ← n2]
    rfl
end
section
variable {K : Frag} {ω : List Ent} {α β : Type} [Rp α] [Rp β] {a : MP}
/-- a list, still or one's own -/
def LstAt (K : Frag) (ω : List Ent) (a : MP) (xs : List α) : Prop := ∀ (G H : Hp) (v : V), At G ω H → a.p G v → ∃ p vs, v = .ref p ∧ SqL K H p vs ∧ vs.length = xs.length
theorem LstAt.of {xs : List α} : LstAt K ω (is K xs) xs := fun G H v w ⟨p, vs, e, h, al, _⟩ => ⟨p, vs, e, RC.sq_of (w.lst h), Paired.len al⟩
theorem LstAt.own {xs : List α} {k : Nat} {p : Addr} (ho : ω[k]? = some (Ent.own p (olst K xs))) : LstAt K ω (adr p) xs := fun G H v w e => by
  obtain ⟨o, eo, vs, rfl, al, _⟩ := w.ownAt ho
  exact ⟨p, vs, e, RC.sq_of eo, Paired.len al⟩
theorem emp_len {γ δ : Type} {xs : List γ} {ys : List δ} (h : xs.length = ys.length) : xs.isEmpty = ys.isEmpty := by
  cases xs <;> cases ys <;> first | rfl | cases h
theorem OpX.eqE {xs : List α} (h : LstAt K ω a xs) : OpX (rEqE K) ω ω a (is K ([] : List β)) (is K xs.isEmpty) := fun G H u v Q w p1 p2 q => by
  obtain ⟨p, vs, rfl, e, l⟩ := h G H u w p1
  obtain ⟨b, us, rfl, e2, l2⟩ := (LstAt.of (xs := ([] : List β))) G H v w p2
  cases us with
  | cons => cases l2
  | nil => exact ⟨p, b, vs, rfl, rfl, e, e2, q _ G H (Le.refl _) w (by show V.bl _ = V.bl _; rw [emp_len l])⟩
theorem OpX.neE {xs : List α} (h : LstAt K ω a xs) : OpX (rNeE K) ω ω a (is K ([] : List β)) (is K (!xs.isEmpty)) := fun G H u v Q w p1 p2 q => by
  obtain ⟨p, vs, rfl, e, l⟩ := h G H u w p1
  obtain ⟨b, us, rfl, e2, l2⟩ := (LstAt.of (xs := ([] : List β))) G H v w p2
  cases us with
  | cons => cases l2
  | nil => exact ⟨p, b, vs, rfl, rfl, e, e2, q _ G H (Le.refl _) w (by show V.bl _ = V.bl _; rw [emp_len l])⟩
end
end Lf
/-! ## A list of one's own whose last item is a list of one's own -/
namespace Lf
open PySem PySem.Spec PyProof.Rows L2
open PySem.W (Frag)
/-- the items ahead stand still; the last one is at q -/
def olstB {α : Type} [Rp α] (K : Frag) (xs : List α) (q : Addr) : OC := ⟨fun G o => ∃ vs, o = .lst (vs ++ [.ref q]) ∧ All K G vs xs ∧ xs.length < sizeLine, fun s ⟨vs, e, h, l⟩ => ⟨vs, e, All.mono s h, l⟩, fun ⟨_, e, _⟩ => e ▸ fun z => z⟩
section
variable {K : Frag} {W : WX} {ωe : List Ent} {X : Type} {Γ : Gm} {ω : List Ent} {Z : ZF K W ωe X} {u : TS} {to : TE} {p q : Addr} {α : Type} [Rp α] {xs : List (List α)} {ys : List α}
theorem Go.asgR {i : Nat} {x : Res X} (k : ∀ p q, Go u (Γ.set i (some (adr p))) (.own p (olstB K ([] : List (List α)) q) :: .own q (olst K ([] : List α)) :: ω) Z x) : Go (tSeq (tAsg (tLst (tCons (tLst tNil) tNil)) (gName i)) u) Γ ω Z x := fun σ G H D rp w z => by
    have one : EvF (tLst tNil) Γ ω ω (olst K ([] : List α)) := EvF.lst (α := α) (xs := []) EvA.nil rfl (Nat.zero_le _)
    have l : 1 ≤ sizeLine := by decide
    refine one σ G H (fun v H1 => [v].length ≤ sizeLine ∧ ∀ p, H1 p = none → u D (σ.set i (some (.ref p))) (upd H1 p (.lst [v]))) rp w fun q G2 H2 s2 w2 => ?_
    refine ⟨l, fun p hp => ?_⟩
    have w3 := w2.newOwn (φ := olstB K ([] : List (List α)) q) (o := .lst [.ref q]) hp ⟨[], rfl, .nil, Nat.lt_of_lt_of_le Nat.zero_lt_one l⟩
    exact k p q _ G2 _ D ((rp.mono s2).set (m := adr p) rfl) w3 (Z.mono s2 z)
theorem last_at {vs : List V} {v : V} : L2.atI (vs ++ [v]) (-1) = some v := by
  unfold L2.atI
  have e : ixN (vs ++ [v]).length (-1) = some vs.length := by
    rw [List.length_append]
    unfold ixN
    simp
    omega
  rw [e]
  simp
theorem OpX.lastR : OpX (rIxL K) (.own p (olstB K xs q) :: .own q (olst K ys) :: ω) (.own p (olstB K xs q) :: .own q (olst K ys) :: ω) (adr p) (is K (-1 : Int)) (adr q) := fun G H u v Q w p1 p2 r => by
  cases p1
  cases p2
  obtain ⟨o, eo, vs, rfl, _, _⟩ := w.ownAt (k := 0) rfl
  exact ⟨p, _, -1, .ref q, rfl, rfl, RC.sq_of eo, last_at, r _ G H (Le.refl _) w rfl⟩
/-- the last item stands still, a new one behind it -/
theorem Go.appR {x : Res X} (ht : EvX to Γ (.own p (olstB K xs q) :: .own q (olst K ys) :: ω) (.own p (olstB K xs q) :: .own q (olst K ys) :: ω) (adr p)) (c : xs.length + 1 < sizeLine)
    (hk : ∀ q', Go u Γ (.own p (olstB K (xs ++ [ys]) q') :: .own q' (olst K ([] : List α)) :: ω) Z x) : Go (tSeq (tDrop (tBM K "list" rAppend to (tCons (tLst tNil) tNil))) u) Γ (.own p (olstB K xs q) :: .own q (olst K ys) :: ω) Z x := fun σ G H D rp w z => ht σ G H _ rp w fun v G1 H1 s1 w1 p1 => by
  cases p1
  obtain ⟨o, eo, us, rfl, _, _⟩ := w1.ownAt (k := 0) rfl
  refine ⟨RC.ty_l eo, (EvF.lst (α := α) (xs := []) EvA.nil rfl (Nat.zero_le _) : EvF (tLst tNil) Γ _ _ (olst K ([] : List α))) σ G1 H1 _ (rp.mono s1) w1 fun q' G2 H2 s2 w2 => ?_⟩
  obtain ⟨o, eo, us, rfl, au, lu⟩ := w2.ownAt (k := 1) rfl
  refine ⟨p, us ++ [.ref q], .ref q', rfl, rfl, eo, by rw [List.length_append, Paired.len au]; exact c, ?_⟩
  obtain ⟨o, eq, ⟨vs, rfl, av, lv⟩, w3, s3⟩ := (w2.front (k := 2) rfl).freeze
  have here : Rp.rep K (upd G2 q (stl (.lst vs))) (.ref q) ys := ⟨q, vs, rfl, upd_same, All.mono s3 av, lv⟩
  have w4 := w3.put (k := 1) (p := p) (φ := olstB K xs q) (φ' := olstB K (xs ++ [ys]) q') (o := .lst ((us ++ [.ref q]) ++ [.ref q'])) rfl ⟨us ++ [.ref q], rfl, Paired.app' (All.mono s3 au) (.cons here .nil), by rw [List.length_append]; exact c⟩
  exact hk q' σ _ _ D (rp.mono (s1.trans (s2.trans s3))) (w4.front (k := 1) rfl) (Z.mono (s1.trans (s2.trans s3)) z)
/-- all of it stands still from here on -/
theorem Go.freezeR {i : Nat} {x : Res X} (hi : Γ[i]? = some (some (adr p))) (h : Go u (Γ.set i (some (is K (xs ++ [ys])))) ω Z x) : Go u Γ (.own p (olstB K xs q) :: .own q (olst K ys) :: ω) Z x := fun σ G H D rp w z => by
  obtain ⟨o, eq, ⟨vs, rfl, av, lv⟩, w2, s2⟩ := (w.front (k := 1) rfl).freeze
  have here : Rp.rep K (upd G q (stl (.lst vs))) (.ref q) ys := ⟨q, vs, rfl, upd_same, All.mono s2 av, lv⟩
  obtain ⟨o, ep, ⟨us, rfl, au, lu⟩, w3, s3⟩ := w2.freeze
  obtain ⟨v, ev, pv⟩ := rp.2 i _ hi
  cases (show v = .ref p from pv)
  have all := s2.trans s3
  have told := (rp.mono all).set (i := i) (v := .ref p) (m := is K (xs ++ [ys])) ⟨p, us ++ [.ref q], rfl, upd_same, Paired.app' (All.mono s3 au) (.cons (Rp.mono s3 here) .nil), by rw [List.length_append]; exact lu⟩
  have same : σ.set i (some (.ref p)) = σ := by
    refine List.ext_getElem? fun j => ?_
    by_cases z : i = j
    · subst z
      rw [ev, List.getElem?_set_self (List.getElem?_eq_some_iff.mp ev).1]
    · rw [List.getElem?_set_ne z]
  rw [same] at told
  exact h σ _ H D told w3 (Z.mono all z)
end
/-- room for one more list -/
def roomR {α : Type} (xs : List α) : Option Unit := if xs.length + 1 < sizeLine then some () else none
theorem roomR_of {α : Type} {xs : List α} {y : Unit} (h : roomR xs = some y) : xs.length + 1 < sizeLine := by
  unfold roomR at h
  split at h
  · assumption
  · cases h
end Lf
/-! ## A comprehension over what draws -/
namespace Lf
open PySem PySem.Spec PyProof.Rows L2
open PySem.W (Frag)
section
variable {K : Frag} {Γ : Gm} {ω ω1 : List Ent} {te : TE} {tt : TT} {α β : Type} [Rp α] [Rp β]
theorem EvF.lcI {wi : TI} {g : TG} {vs : List Nat} {P : List Ent → Prop} {xs : List α} {ys : List β} {fb : α → Option (Option β)} {Γb : α → Gm} (hi : IterX K wi Γ ω ω1 P xs) (hP : P ω1) (hP' : ∀ p φ, P ω1 → P (.own p φ :: ω1)) (ht : TgW K g vs (wipeG Γ vs) Γb) (h : mapO fb xs = some ys)
    (hb : ∀ a o p φ, fb a = some o → Elt K tt te (Γb a) (.own p φ :: ω1) o) : EvF (tLc wi g tt te vs) Γ ω ω1 (olst K ys) := fun σ G H Q rp w q => hi σ G H _ rp w fun J G2 H2 s2 w2 wk D hD => by
  have hl := wk.len
  refine ⟨fun i m H' => m = xs.length - i ∧ i ≤ xs.length ∧ ∃ acc G' ys', Le G2 G' ∧ At G' (.own D (olst K acc) :: ω1) H' ∧ acc.length ≤ i ∧ mapO fb (xs.drop i) = some ys' ∧ acc ++ ys' = ys, ⟨xs.length, by simp, Nat.zero_le _, [], G2, ys, Le.refl _, newL w2 hD .nil (Nat.zero_le _), Nat.le_refl _, h, rfl⟩, ?_⟩
  rintro i m H' ⟨rfl, hle, acc, G', ys', sG, w', la, ef, ea⟩
  by_cases hlt : i < xs.length
  · have hx : xs[i]? = some xs[i] := List.getElem?_eq_getElem hlt
    rw [mapO_drop hx] at ef
    refine .inr ⟨wk.go G' _ H' i sG w' (hP' _ _ hP) hlt, fun H3 => ∃ acc G3 ys', Le G2 G3 ∧ At G3 (.own D (olst K acc) :: ω1) H3 ∧ acc.length ≤ i + 1 ∧ mapO fb (xs.drop (i + 1)) = some ys' ∧ acc ++ ys' = ys, fun H3 q => ⟨xs.length - (i + 1), by omega, rfl, hlt, q⟩, fun x H3 y => ?_⟩
    obtain ⟨G3, s3, w3, px⟩ := wk.yld G' _ H' i x H3 _ sG w' (hP' _ _ hP) hx y
    have rw0 := (rp.mono (s2.trans (sG.trans s3))).wipe vs
    refine ht _ _ G3 H3 _ x _ rw0 w3 px fun σ4 l4 k4 r4 => ⟨?_, ?_⟩
    · refine (wipe_eq l4 k4).trans (wipe_eq (by rw [wipe_length]) fun i hi => ?_)
      rw [wipe_get, if_neg hi]
    · cases ho : fb xs[i] with
      | none =>
        rw [ho] at ef
        cases ef
      | some o =>
        rw [ho] at ef
        obtain ⟨c, hc, h1, h2⟩ := hb _ o D (olst K acc) ho
        refine hc σ4 G3 H3 _ r4 w3 fun G4 H4 s4 w4 => ?_
        cases c with
        | false =>
          have e := h1 rfl
          subst e
          exact RC.if_f rfl ⟨acc, G4, ys', sG.trans (s3.trans s4), w4, by omega, ef, ea⟩
        | true =>
          obtain ⟨y, e, hy⟩ := h2 rfl
          subst e
          have ef' : (match mapO fb (xs.drop (i + 1)) with | none => none | some ys => some (y :: ys)) = some ys' := ef
          split at ef'
          · cases ef'
          · rename_i ys2 e2
            cases ef'
            refine RC.if_t rfl (hy σ4 G4 H4 _ (r4.mono s4) w4 fun v G5 H5 s5 w5 p5 => ?_)
            obtain ⟨o, eo, us, rfl, hu, _⟩ := w5.ownAt (k := 0) rfl
            have lu := Paired.len hu
            refine ⟨us, eo, by rw [lu]; omega, acc ++ [y], G5, ys2, sG.trans (s3.trans (s4.trans s5)), ?_, by rw [List.length_append]; show acc.length + 1 ≤ _; omega, e2, by rw [List.append_assoc]; exact ea⟩
            have w6 := w5.put (k := 0) (φ' := olst K (acc ++ [y])) rfl ⟨_, rfl, Paired.app' hu (.cons p5 .nil), by rw [List.length_append]; show acc.length + 1 ≤ _; omega⟩
            exact w6
  · have e : i = xs.length := by omega
    subst e
    rw [List.drop_length] at ef
    cases ef
    rw [List.append_nil] at ea
    subst ea
    exact .inl ⟨wk.stop G' _ H' sG w' (hP' _ _ hP), q D G' H' (s2.trans sG) w'⟩
end
end Lf
set_option pp.maxSteps 600
namespace Mi
open PySem PySem.Spec PyProof.Rows L2 He Lf RC
open PySem.W (Frag)
section
variable {w : World} {K : Frag} {mg : Str → Option Value} {base : Heap}
structure MRoll where
  row : (Tu Int)
  firsts : (Tu Int)
instance : Rp MRoll := ⟨fun K G v r => ∃ p dx x_row x_firsts, v = .ref p ∧ G p = some (.ins (ga K "Roll") dx [("row", x_row), ("firsts", x_firsts)]) ∧ Rp.rep K G x_row r.row ∧ Rp.rep K G x_firsts r.firsts, fun s ⟨p, dx, x_row, x_firsts, e, h, h_row, h_firsts⟩ => ⟨p, dx, x_row, x_firsts, e, s.at h, Rp.mono s h_row, Rp.mono s h_firsts⟩⟩
instance : Ob MRoll := { cls := "Roll", fl := ["row", "firsts"], at_ := fun ⟨p, dx, x_row, x_firsts, e, h, h_row, h_firsts⟩ => ⟨p, dx, _, e, h, rfl⟩ }
instance : NN MRoll := { nn := fun ⟨_, _, _, _, e, _⟩ z => by rw [z] at e; cases e }
theorem fld_Roll_row {K : Frag} {r : MRoll} : FldOf K "Roll" "row" r r.row := fun G v ⟨p, dx, x_row, x_firsts, e, h, h_row, h_firsts⟩ => ⟨p, dx, _, x_row, e, h, rfl, h_row⟩
theorem fld_Roll_firsts {K : Frag} {r : MRoll} : FldOf K "Roll" "firsts" r r.firsts := fun G v ⟨p, dx, x_row, x_firsts, e, h, h_row, h_firsts⟩ => ⟨p, dx, _, x_firsts, e, h, rfl, h_firsts⟩
theorem made_Roll {K : Frag} : ∀ (r : MRoll) (p : Addr) (G : Hp) (o : HO), (oins (ga K "Roll") [("row", is K r.row), ("firsts", is K r.firsts)]).p G o → G p = some o → (is K r).p G (.ref p) := by
  rintro r p G o ⟨dx, fs, rfl, h⟩ e
  obtain ⟨x_row, fs, rfl, h_row, h⟩ := paired_cons h
  obtain ⟨x_firsts, fs, rfl, h_firsts, h⟩ := paired_cons h
  cases h
  exact ⟨p, dx, x_row, x_firsts, rfl, e, h_row, h_firsts⟩
section
variable {K : Frag} {mg : Str → Option Value} {base : Heap} {ω : List Ent}
theorem _root_.Lf.CaX.isiR (T : Txt K mg) {r : MRoll} {c : V} {u : Value} {b : Bool} (hc : ClsV c u) (e : PySem.W.kitOne K (.ref (ga K "Roll")) u = some b) : CaX (rIsi K) ω ω [is K r, eqv c] (is K b) := fun G H vs Q wA pa q => by
  obtain ⟨v, v', rfl, ⟨p, dx, x1, x2, rfl, h, _, _⟩, rfl⟩ := PArgs.two pa
  exact ⟨_, _, _, _, b, rfl, hc, .base (.ins (wA.get h) T.cl_Roll T.x_Roll.ha T.x_Roll.hn T.x_Roll.htk T.x_Roll.hm), e, q _ G H (Le.refl _) wA rfl⟩
theorem rollTy (T : Txt K mg) {r : MRoll} {G H : Hp} {v : V} (wA : At G ω H) (h : Rp.rep K G v r) : TyX K H v (.ref (ga K "Roll")) := by
  obtain ⟨p, dx, x1, x2, rfl, h, _, _⟩ := h
  exact .base (.ins (wA.get h) T.cl_Roll T.x_Roll.ha T.x_Roll.hn T.x_Roll.htk T.x_Roll.hm)
end

section
variable {K : Frag} {mg : Str → Option Value} {ω : List Ent}
theorem rollAny {K : Frag} {G : Hp} {v : V} {r : MRoll} (h : Rp.rep K G v r) : AnyV K G v (.roll r.row.l r.firsts.l) := by
  obtain ⟨p, dx, x1, x2, rfl, h, ⟨a, vs, rfl, h1, p1, l1⟩, ⟨b, us, rfl, h2, p2, l2⟩⟩ := h
  rw [ints_of p1] at h1
  rw [ints_of p2] at h2
  exact .roll h h1 h2 l1 l2
instance : ToPV MRoll := { of := fun r => .roll r.row.l r.firsts.l, conv := rollAny }
def asRoll : PV → Option MRoll
  | .roll r f => some ⟨⟨r⟩, ⟨f⟩⟩
  | _ => none
theorem asRoll_imp {x : PV} {r : MRoll} (h : asRoll x = some r) : ∀ (G : Hp) (v : V), (is K x).p G v → (is K r).p G v := fun G v p => by
  cases x with
  | roll row firsts =>
    cases h
    cases (show AnyV K G v (.roll row firsts) from p) with
    | roll h h1 h2 l1 l2 => exact ⟨_, _, _, _, rfl, h, ⟨_, _, rfl, h1, all_ints _, l1⟩, ⟨_, _, rfl, h2, all_ints _, l2⟩⟩
  | _ => cases h
theorem _root_.Lf.CaX.isiP (T : Txt K mg) {x : PV} {c : V} (hc : ClsV c (.ref (ga K "Roll"))) : CaX (rIsi K) ω ω [is K x, eqv c] (is K x.isRoll) := fun G H vs Q wA pa q => by
  obtain ⟨v, v', rfl, pv, rfl⟩ := PArgs.two pa
  have pv : AnyV K G v x := pv
  by_cases n : x.isRoll = false
  · have k : PySem.W.kitOne K (.type x.ty) (.ref (ga K "Roll")) = some x.isRoll := by
      rw [n]
      cases x with
      | non => exact T.k_NoneType_Roll
      | bl b => exact T.k_bool_Roll
      | int i => exact T.k_int_Roll
      | str s => exact T.k_str_Roll
      | lst xs => exact T.k_list_Roll
      | tup xs => exact T.k_tuple_Roll
      | edict => exact T.k_dict_Roll
      | roll r f => cases n
    exact ⟨_, _, _, _, _, rfl, hc, any_ty wA pv n, k, q _ G H (Le.refl _) wA rfl⟩
  · cases pv with
    | roll h h1 h2 l1 l2 => exact ⟨_, _, _, _, true, rfl, hc, .base (.ins (wA.get h) T.cl_Roll T.x_Roll.ha T.x_Roll.hn T.x_Roll.htk T.x_Roll.hm), T.k_Roll_Roll, q _ G H (Le.refl _) wA rfl⟩
    | _ => exact absurd rfl n
theorem _root_.Lf.CaX.isiT (T : Txt K mg) {x : PV} {c : V} {t : String} (hc : ClsV c (.type t)) (hk : ∀ y : PV, y.isRoll = false → PySem.W.kitOne K (.type y.ty) (.type t) = some (y.isTy t)) (hr : PySem.W.kitOne K (.ref (ga K "Roll")) (.type t) = some false) : CaX (rIsi K) ω ω [is K x, eqv c] (is K (x.isTy t)) := fun G H vs Q wA pa q => by
  obtain ⟨v, v', rfl, pv, rfl⟩ := PArgs.two pa
  have pv : AnyV K G v x := pv
  by_cases n : x.isRoll = false
  · exact ⟨_, _, _, _, _, rfl, hc, any_ty wA pv n, hk x n, q _ G H (Le.refl _) wA rfl⟩
  · cases pv with
    | roll h h1 h2 l1 l2 => exact ⟨_, _, _, _, false, rfl, hc, .base (.ins (wA.get h) T.cl_Roll T.x_Roll.ha T.x_Roll.hn T.x_Roll.htk T.x_Roll.hm), hr, q _ G H (Le.refl _) wA rfl⟩
    | _ => exact absurd rfl n
theorem anyk_int {K : Frag} : ∀ y : PV, y.isRoll = false → PySem.W.kitOne K (.type y.ty) (.type "int") = some (y.isTy "int") := fun y n => by
  cases y with
  | non => exact kit_ty (show kitB "NoneType" "int" = some false by decide +kernel)
  | bl b => exact kit_ty (show kitB "bool" "int" = some true by decide +kernel)
  | int i => exact kit_ty (show kitB "int" "int" = some true by decide +kernel)
  | str s => exact kit_ty (show kitB "str" "int" = some false by decide +kernel)
  | lst xs => exact kit_ty (show kitB "list" "int" = some false by decide +kernel)
  | tup xs => exact kit_ty (show kitB "tuple" "int" = some false by decide +kernel)
  | edict => exact kit_ty (show kitB "dict" "int" = some false by decide +kernel)
  | roll _ _ => cases n
theorem anyk_bool {K : Frag} : ∀ y : PV, y.isRoll = false → PySem.W.kitOne K (.type y.ty) (.type "bool") = some (y.isTy "bool") := fun y n => by
  cases y with
  | non => exact kit_ty (show kitB "NoneType" "bool" = some false by decide +kernel)
  | bl b => exact kit_ty (show kitB "bool" "bool" = some true by decide +kernel)
  | int i => exact kit_ty (show kitB "int" "bool" = some false by decide +kernel)
  | str s => exact kit_ty (show kitB "str" "bool" = some false by decide +kernel)
  | lst xs => exact kit_ty (show kitB "list" "bool" = some false by decide +kernel)
  | tup xs => exact kit_ty (show kitB "tuple" "bool" = some false by decide +kernel)
  | edict => exact kit_ty (show kitB "dict" "bool" = some false by decide +kernel)
  | roll _ _ => cases n
theorem anyk_str {K : Frag} : ∀ y : PV, y.isRoll = false → PySem.W.kitOne K (.type y.ty) (.type "str") = some (y.isTy "str") := fun y n => by
  cases y with
  | non => exact kit_ty (show kitB "NoneType" "str" = some false by decide +kernel)
  | bl b => exact kit_ty (show kitB "bool" "str" = some false by decide +kernel)
  | int i => exact kit_ty (show kitB "int" "str" = some false by decide +kernel)
  | str s => exact kit_ty (show kitB "str" "str" = some true by decide +kernel)
  | lst xs => exact kit_ty (show kitB "list" "str" = some false by decide +kernel)
  | tup xs => exact kit_ty (show kitB "tuple" "str" = some false by decide +kernel)
  | edict => exact kit_ty (show kitB "dict" "str" = some false by decide +kernel)
  | roll _ _ => cases n
theorem anyk_list {K : Frag} : ∀ y : PV, y.isRoll = false → PySem.W.kitOne K (.type y.ty) (.type "list") = some (y.isTy "list") := fun y n => by
  cases y with
  | non => exact kit_ty (show kitB "NoneType" "list" = some false by decide +kernel)
  | bl b => exact kit_ty (show kitB "bool" "list" = some false by decide +kernel)
  | int i => exact kit_ty (show kitB "int" "list" = some false by decide +kernel)
  | str s => exact kit_ty (show kitB "str" "list" = some false by decide +kernel)
  | lst xs => exact kit_ty (show kitB "list" "list" = some true by decide +kernel)
  | tup xs => exact kit_ty (show kitB "tuple" "list" = some false by decide +kernel)
  | edict => exact kit_ty (show kitB "dict" "list" = some false by decide +kernel)
  | roll _ _ => cases n
theorem anyk_tuple {K : Frag} : ∀ y : PV, y.isRoll = false → PySem.W.kitOne K (.type y.ty) (.type "tuple") = some (y.isTy "tuple") := fun y n => by
  cases y with
  | non => exact kit_ty (show kitB "NoneType" "tuple" = some false by decide +kernel)
  | bl b => exact kit_ty (show kitB "bool" "tuple" = some false by decide +kernel)
  | int i => exact kit_ty (show kitB "int" "tuple" = some false by decide +kernel)
  | str s => exact kit_ty (show kitB "str" "tuple" = some false by decide +kernel)
  | lst xs => exact kit_ty (show kitB "list" "tuple" = some false by decide +kernel)
  | tup xs => exact kit_ty (show kitB "tuple" "tuple" = some true by decide +kernel)
  | edict => exact kit_ty (show kitB "dict" "tuple" = some false by decide +kernel)
  | roll _ _ => cases n
theorem anyk_dict {K : Frag} : ∀ y : PV, y.isRoll = false → PySem.W.kitOne K (.type y.ty) (.type "dict") = some (y.isTy "dict") := fun y n => by
  cases y with
  | non => exact kit_ty (show kitB "NoneType" "dict" = some false by decide +kernel)
  | bl b => exact kit_ty (show kitB "bool" "dict" = some false by decide +kernel)
  | int i => exact kit_ty (show kitB "int" "dict" = some false by decide +kernel)
  | str s => exact kit_ty (show kitB "str" "dict" = some false by decide +kernel)
  | lst xs => exact kit_ty (show kitB "list" "dict" = some false by decide +kernel)
  | tup xs => exact kit_ty (show kitB "tuple" "dict" = some false by decide +kernel)
  | edict => exact kit_ty (show kitB "dict" "dict" = some true by decide +kernel)
  | roll _ _ => cases n
end

theorem xms_ClerkError (T : Txt K mg) : ∀ cls ∈ (["InvalidText"] : List Str), PySem.W.exmOne K (.ref (ga K cls)) (.ref (ga K "ClerkError")) = some true := by
  intro cls h
  simp only [List.mem_cons, List.not_mem_nil, or_false] at h
  rcases h with rfl
  · exact T.xm_InvalidText
theorem xms_InvalidText (T : Txt K mg) : ∀ cls ∈ (["InvalidText"] : List Str), PySem.W.exmOne K (.ref (ga K cls)) (.ref (ga K "InvalidText")) = some true := by
  intro cls h
  simp only [List.mem_cons, List.not_mem_nil, or_false] at h
  rcases h with rfl
  · exact RC.exm_self T.e_InvalidText T.es_InvalidText
theorem errs_InvalidText (T : Txt K mg) : ErrsOk PR K mg ["InvalidText"] "InvalidText" := by
  refine ⟨T.k_NoneType_InvalidText, fun e h => ?_⟩
  simp only [List.mem_cons, List.not_mem_nil, or_false] at h
  rcases h with rfl
  · exact ⟨_, T.e_InvalidText, T.x_InvalidText, T.k_InvalidText_InvalidText⟩
def m_is_whole (value : Int) : Res Bool :=
  .ok (true && (!false))
def sp_is_whole (K : Frag) : Sp := fun vs H Q E => ∃ (value : Int) (ω : List Ent) (G : Hp), PArgs G vs [is K value] ∧ At G (ω) H ∧ Says K G (ω) (m_is_whole value) (fun (r : Bool) => RS.val (is K r) (ω)) Q E
theorem use_is_whole {E : XK} {ω : List Ent} {value : Int} : SpR K (sp_is_whole K) E [is K value] (ω) (ω) (m_is_whole value) (fun (r : Bool) => RS.val (is K r) (ω)) := fun G H vs Q pa w s => ⟨value, ω, G, pa, w, s⟩
theorem ok_is_whole (T : Txt K mg) : FnOk PR w K mg base (L2.CX PR w) 1 (He.fAd K ("is_whole", none)) T.fd_is_whole ["value"] (sp_is_whole K) := by
  refine T.F_is_whole.ok sc_is_whole (fun vs H Q E h => ?_) (fun cdv A outer s H vs Q E hr h => ⟨_, PSs.nox ((pss_one (ps_ret (pe_and (pe_callB call_isi rfl T.fr_isinstance (by decide +kernel) (pa_cons (pv 0) (pa_cons (pe_bltn (v := .ty "int") rfl T.fr_int (by decide +kernel) rfl) pa_nil))) (pe_one (pe_not (pe_callB call_isi rfl T.fr_isinstance (by decide +kernel) (pa_cons (pv 0) (pa_cons (pe_bltn (v := .ty "bool") rfl T.fr_bool (by decide +kernel) rfl) pa_nil))))))))), ?_⟩)
  · obtain ⟨_, _, _, pa, _, _⟩ := h
    exact pa.len
  · obtain ⟨value, ω, G, pa, wA, sy⟩ := h
    try dsimp only [L2.cxOf, L2.Cx.nox, L2.Cx.wish]
    refine Go.fin (Γ := [some (is K value)]) (fo := (fun (r : Bool) => RS.val (is K r) (ω))) (ω := ω) (ωe := ω) (?_) pa rfl wA sy
    unfold m_is_whole
    exact Go.ret (EvX.and (EvX.ca (EvA.cons (EvX.var (i := 0) rfl) (EvA.cons EvX.c EvA.nil)) (CaX.isi (b := true) (.ty _) (kit_ty (by decide +kernel)))) fun _ => (EvX.not (EvX.ca (EvA.cons (EvX.var (i := 0) rfl) (EvA.cons EvX.c EvA.nil)) (CaX.isi (b := false) (.ty _) (kit_ty (by decide +kernel)))))) rfl (Dr.refl _)
def m_check_number (value : Int) (least : Int) : Res Unit :=
  Res.req (Res.val (m_is_whole value)) fun y1 =>
  (if ((!y1) || (decide (value < least))) then .bad else
  .ok ())
def sp_check_number (K : Frag) : Sp := fun vs H Q E => ∃ (value : Int) (least : Int) (ω : List Ent) (G : Hp), PArgs G vs [is K value, is K least] ∧ At G (ω) H ∧ Says K G (ω) (m_check_number value least) (fun (r : Unit) => RS.val (is K r) (ω)) Q E
theorem use_check_number {E : XK} {ω : List Ent} {value : Int} {least : Int} : SpR K (sp_check_number K) E [is K value, is K least] (ω) (ω) (m_check_number value least) (fun (r : Unit) => RS.val (is K r) (ω)) := fun G H vs Q pa w s => ⟨value, least, ω, G, pa, w, s⟩
theorem ok_check_number (T : Txt K mg) : FnOk PR w K mg base (L2.CX PR w) 2 (He.fAd K ("check_number", none)) T.fd_check_number ["value", "least"] (sp_check_number K) := by
  refine T.F_check_number.ok sc_check_number (fun vs H Q E h => ?_) (fun cdv A outer s H vs Q E hr h => ⟨_, PSs.nox ((pss_one (ps_if (PW.pt (pw_or (pt_not (pt_val (pe_call (ok_is_whole T) (hr.mono (by decide)) rfl T.g_is_whole T.F_is_whole.kp (b_is_whole T) .nil passF (pa_cons (pv 0) pa_nil)))) (pw_or1 (pt_cmpR op_lt (pv 0) (pv 1) (nomark _))))) (pss_one ps_never) pss_nil))), ?_⟩)
  · obtain ⟨_, _, _, _, pa, _, _⟩ := h
    exact pa.len
  · obtain ⟨value, least, ω, G, pa, wA, sy⟩ := h
    try dsimp only [L2.cxOf, L2.Cx.nox, L2.Cx.wish]
    refine Go.fin (Γ := [some (is K value), some (is K least)]) (fo := (fun (r : Unit) => RS.val (is K r) (ω))) (ω := ω) (ωe := ω) (?_) pa rfl wA sy
    unfold m_check_number
    exact Go.req fun y1 h2 =>
  Go.last (Go.ifX (EvT.or (EvT.not (EvT.B (EvX.call (EvA.cons (EvX.var (i := 0) rfl) EvA.nil) (use_is_whole) (val_ok h2) rfl))) fun _ => (EvT.test (EvX.op (EvX.var (i := 0) rfl) (EvX.var (i := 1) rfl) OpX.lt))) (fun h3 => Go.never) (fun _ z => nomatch z) (fun h4 =>
  Go.fall rfl (fun _ => rfl) (Dr.refl _)))
def m_Roll_init (worths : (List Int)) : Res MRoll :=
  (if ((!true) || (decide (worths = []))) then .bad else
  Res.bind (Res.fold (fun (s7 : Unit) (x8 : Int) =>
  Res.req (Res.val (m_is_whole x8)) fun y9 =>
  (if ((!y9) || (decide (x8 < (1 : Int)))) then .bad else
  .ok ())) worths ()) fun (s13 : Unit) =>
  Res.bind (Res.fold (fun (s16 : (List Int)) (x17 : Int) =>
  Res.req (atI s16 (-(1 : Int))) fun y18 =>
  Res.req (app s16 (y18 + x17)) fun y20 =>
  .ok y20) worths [(0 : Int)]) fun (s22 : (List Int)) =>
  .ok (MRoll.mk ((Tu.mk worths) : (Tu Int)) ((Tu.mk s22) : (Tu Int))))
def sp_Roll_init (K : Frag) : Sp := fun vs H Q E => ∃ (worths : (List Int)) (p_self : Addr) (ω : List Ent) (G : Hp), PArgs G vs [adr p_self, is K worths] ∧ At G (.own p_self (oins (ga K "Roll") []) :: ω) H ∧ Says K G ω (m_Roll_init worths) (fun (r : MRoll) => RS.val (is K ()) (.own p_self (oins (ga K "Roll") [("row", is K r.row), ("firsts", is K r.firsts)]) :: ω)) Q E
theorem use_Roll_init {E : XK} {ω : List Ent} {worths : (List Int)} {p_self : Addr} : SpR K (sp_Roll_init K) E [adr p_self, is K worths] (.own p_self (oins (ga K "Roll") []) :: ω) ω (m_Roll_init worths) (fun (r : MRoll) => RS.val (is K ()) (.own p_self (oins (ga K "Roll") [("row", is K r.row), ("firsts", is K r.firsts)]) :: ω)) := fun G H vs Q pa w s => ⟨worths, p_self, ω, G, pa, w, s⟩
theorem ok_Roll_init (T : Txt K mg) : FnOk PR w K mg base (L2.CX PR w) 2 (He.fAd K ("Roll", some "__init__")) T.fd_Roll_init ["self", "worths"] (sp_Roll_init K) := by
  refine T.F_Roll_init.ok sc_Roll_init (fun vs H Q E h => ?_) (fun cdv A outer s H vs Q E hr h => ⟨_, PSs.nox ((pss_cons (ps_if (PW.pt (pw_or (pt_not (pt_val (pe_callB call_isi rfl T.fr_isinstance (by decide +kernel) (pa_cons (pv 1) (pa_cons (pe_bltn (v := .ty "list") rfl T.fr_list (by decide +kernel) rfl) pa_nil))))) (pw_or1 (pt_cmpR (op_eqD hr.units) (pv 1) (pe_lst pa_nil) (nomark _))))) (pss_one ps_never) pss_nil)
      (pss_cons (ps_for PassesOwn.never rfl (pi_list (pv 1)) (pg_name (i := 2) sc_Roll_init.nd rfl (by first | exact .inl rfl | exact .inr rfl))
      (pss_one (ps_if (PW.pt (pw_or (pt_not (pt_val (pe_call (ok_is_whole T) (hr.mono (by decide)) rfl T.g_is_whole T.F_is_whole.kp (b_is_whole T) .nil passF (pa_cons (pv 2) pa_nil)))) (pw_or1 (pt_cmpR op_lt (pv 2) pe_int (nomark _))))) (pss_one ps_never) pss_nil)))
      (pss_cons (ps_fld (pv 0) (pe_callTy RC.call_tupS rfl T.fr_tuple (by decide +kernel) (pa_cons (pv 1) pa_nil)) rfl)
      (pss_cons (ps_set (i := 3) sc_Roll_init.nd rfl (by first | exact .inl rfl | exact .inr rfl) (pe_lst (pa_cons pe_int pa_nil)))
      (pss_cons (ps_for PassesOwn.never rfl (pi_list (pv 1)) (pg_name (i := 2) sc_Roll_init.nd rfl (by first | exact .inl rfl | exact .inr rfl))
      (pss_one (ps_expr (pe_bm PySem.F.plainAttrs_list PySem.F.slot_list_append PySem.F.type_list_append mt_append (pv 3) (pa_cons (pe_op op_add (pe_ix ix_list (pv 3) (pe_un un_neg pe_int) (fun _ _ => rfl)) (pv 2)) pa_nil)))))
      (pss_one (ps_fld (pv 0) (pe_callTy RC.call_tupS rfl T.fr_tuple (by decide +kernel) (pa_cons (pv 3) pa_nil)) rfl)))))))), ?_⟩)
  · obtain ⟨_, _, _, _, pa, _, _⟩ := h
    exact pa.len
  · obtain ⟨worths, p_self, ω, G, pa, wA, sy⟩ := h
    try dsimp only [L2.cxOf, L2.Cx.nox, L2.Cx.wish]
    refine Go.fin (Γ := [some (adr p_self), some (is K worths), none, none]) (fo := (fun (r : MRoll) => RS.val (is K ()) (.own p_self (oins (ga K "Roll") [("row", is K r.row), ("firsts", is K r.firsts)]) :: ω))) (ω := .own p_self (oins (ga K "Roll") []) :: ω) (ωe := ω) (?_) pa rfl wA sy
    unfold m_Roll_init
    exact Go.ifX (EvT.or (EvT.not (EvT.B (EvX.ca (EvA.cons (EvX.var (i := 1) rfl) (EvA.cons EvX.c EvA.nil)) (CaX.isi (b := true) (.ty _) (kit_ty (by decide +kernel)))))) fun _ => (EvT.test (EvX.op (EvX.var (i := 1) rfl) (EvX.fr (EvF.lst EvA.nil rfl (by show 0 ≤ sizeLine; decide))) (OpX.eqA DtAt.of DtAt.of (by decide))))) (fun h5 => Go.never) (fun _ z => nomatch z) (fun h6 =>
  Go.seqN (fn := (fun (s7 : Unit) => ([some (adr p_self), some (is K (worths : (List Int))), none, none], (.own p_self (oins (ga K "Roll") []) :: ω)))) (Go.forN (IterX.list (EvX.var (i := 1) rfl)) (Sub.keep (Sub.keep (Sub.keep (Sub.keep Sub.nil)))) (Dr.refl _) (fun _ => trivial) (fun s7 => TgX.name) fun s7 x8 =>
  Go.req fun y9 h10 =>
  Go.last (Go.ifX (EvT.or (EvT.not (EvT.B (EvX.call (EvA.cons (EvX.var (i := 2) rfl) EvA.nil) (use_is_whole) (val_ok h10) rfl))) fun _ => (EvT.test (EvX.op (EvX.var (i := 2) rfl) EvX.int OpX.lt))) (fun h11 => Go.never) (fun _ z => nomatch z) (fun h12 =>
  Go.next (Sub.keep (Sub.keep (Sub.lose (Sub.keep Sub.nil)))) (Dr.refl _)))) fun s13 h14 =>
  Go.setF (k := 0) (EvX.ca (EvA.cons (EvX.var (i := 1) rfl) EvA.nil) CaX.tuple) (EvX.var (i := 0) rfl) rfl rfl (by show 0 < 1000; decide) T.cl_Roll T.na_Roll_row (
  Go.asgF (i := 3) (φ := olst K ([(0 : Int)] : (List Int))) (EvF.lst (EvA.cons EvX.int EvA.nil) rfl (by show 1 ≤ sizeLine; decide)) fun p15 =>
  Go.seqN (fn := (fun (s16 : (List Int)) => ([some (adr p_self), some (is K (worths : (List Int))), none, some (adr p15)], (.own p15 (olst K (s16 : (List Int))) :: .own p_self (oins (ga K "Roll") [("row", is K ((Tu.mk worths) : (Tu Int)))]) :: ω)))) (Go.forN (IterX.list (EvX.var (i := 1) rfl)) (Sub.keep (Sub.keep (Sub.keep (Sub.keep Sub.nil)))) (Dr.refl _) (fun _ => trivial) (fun s16 => TgX.name) fun s16 x17 =>
  Go.req fun y18 h19 =>
  Go.req fun y20 h21 =>
  Go.last (Go.app (k := 0) (EvX.var (i := 3) rfl) ⟨_, rfl⟩ (EvX.op (EvX.op (EvX.var (i := 3) rfl) (EvX.neg EvX.int) (OpX.ixO (k := 0) rfl h19)) (EvX.var (i := 2) rfl) OpX.add) rfl h21 (
  Go.next (Sub.keep (Sub.keep (Sub.lose (Sub.keep Sub.nil)))) (Dr.refl _)))) fun s22 h23 =>
  Go.last (Go.setF (k := 1) (EvX.ca (EvA.cons (EvX.var (i := 3) rfl) EvA.nil) (CaX.tupleO (k := 0) rfl)) (EvX.var (i := 0) rfl) rfl rfl (by show 1 < 1000; decide) T.cl_Roll T.na_Roll_firsts (
  Go.fall rfl (fun _ => rfl) (Dr.drop (Dr.refl _))))))
def m_Roll_worths (self : MRoll) : Res (List Int) :=
  .ok self.row.l
def sp_Roll_worths (K : Frag) : Sp := fun vs H Q E => ∃ (self : MRoll) (ω : List Ent) (G : Hp), PArgs G vs [is K self] ∧ At G (ω) H ∧ Says K G (ω) (m_Roll_worths self) (fun (r : (List Int)) => RS.own (olst K (r : (List Int))) (ω)) Q E
theorem use_Roll_worths {E : XK} {ω : List Ent} {self : MRoll} : SpR K (sp_Roll_worths K) E [is K self] (ω) (ω) (m_Roll_worths self) (fun (r : (List Int)) => RS.own (olst K (r : (List Int))) (ω)) := fun G H vs Q pa w s => ⟨self, ω, G, pa, w, s⟩
theorem ok_Roll_worths (T : Txt K mg) : FnOk PR w K mg base (L2.CX PR w) 1 (He.fAd K ("Roll", some "worths")) T.fd_Roll_worths ["self"] (sp_Roll_worths K) := by
  refine T.F_Roll_worths.ok sc_Roll_worths (fun vs H Q E h => ?_) (fun cdv A outer s H vs Q E hr h => ⟨_, PSs.nox ((pss_one (ps_ret (pe_callTy RC.call_listS rfl T.fr_list (by decide +kernel) (pa_cons (pe_fld (pv 0) rfl) pa_nil))))), ?_⟩)
  · obtain ⟨_, _, _, pa, _, _⟩ := h
    exact pa.len
  · obtain ⟨self, ω, G, pa, wA, sy⟩ := h
    try dsimp only [L2.cxOf, L2.Cx.nox, L2.Cx.wish]
    refine Go.fin (Γ := [some (is K self)]) (fo := (fun (r : (List Int)) => RS.own (olst K (r : (List Int))) (ω))) (ω := ω) (ωe := ω) (?_) pa rfl wA sy
    unfold m_Roll_worths
    exact Go.retF (EvF.ca (EvA.cons (EvX.fld (EvX.var (i := 0) rfl) fld_Roll_row T.cl_Roll T.na_Roll_row) EvA.nil) CaF.listT) rfl (Dr.refl _)
def m_Roll_len (self : MRoll) : Res Int :=
  .ok (self.row.l.length : Int)
def sp_Roll_len (K : Frag) : Sp := fun vs H Q E => ∃ (self : MRoll) (ω : List Ent) (G : Hp), PArgs G vs [is K self] ∧ At G (ω) H ∧ Says K G (ω) (m_Roll_len self) (fun (r : Int) => RS.val (is K r) (ω)) Q E
theorem use_Roll_len {E : XK} {ω : List Ent} {self : MRoll} : SpR K (sp_Roll_len K) E [is K self] (ω) (ω) (m_Roll_len self) (fun (r : Int) => RS.val (is K r) (ω)) := fun G H vs Q pa w s => ⟨self, ω, G, pa, w, s⟩
theorem ok_Roll_len (T : Txt K mg) : FnOk PR w K mg base (L2.CX PR w) 1 (He.fAd K ("Roll", some "__len__")) T.fd_Roll_len ["self"] (sp_Roll_len K) := by
  refine T.F_Roll_len.ok sc_Roll_len (fun vs H Q E h => ?_) (fun cdv A outer s H vs Q E hr h => ⟨_, PSs.nox ((pss_one (ps_ret (pe_callB RC.call_lenS rfl T.fr_len (by decide +kernel) (pa_cons (pe_fld (pv 0) rfl) pa_nil))))), ?_⟩)
  · obtain ⟨_, _, _, pa, _, _⟩ := h
    exact pa.len
  · obtain ⟨self, ω, G, pa, wA, sy⟩ := h
    try dsimp only [L2.cxOf, L2.Cx.nox, L2.Cx.wish]
    refine Go.fin (Γ := [some (is K self)]) (fo := (fun (r : Int) => RS.val (is K r) (ω))) (ω := ω) (ωe := ω) (?_) pa rfl wA sy
    unfold m_Roll_len
    exact Go.ret (EvX.ca (EvA.cons (EvX.fld (EvX.var (i := 0) rfl) fld_Roll_row T.cl_Roll T.na_Roll_row) EvA.nil) CaX.lenT) rfl (Dr.refl _)
def lenOk (m : Res Int) : Option Int := match m with
  | .ok n => if 0 ≤ n ∧ n < 2 ^ 63 then some n else none
  | _ => none
theorem lenOk_of {m : Res Int} {n : Int} (h : lenOk m = some n) : m = .ok n ∧ 0 ≤ n ∧ n < 2 ^ 63 := by
  unfold lenOk at h
  split at h
  · split at h
    · rename_i c
      cases h
      exact ⟨rfl, c⟩
    · cases h
  · cases h
theorem call_lenR {X : Cx} (hp : X.prog = PR) (T : Txt X.K X.mg) (hr : Room 2 X.A) : CallR X (.builtin "len") (RC.rLenO (ga X.K "Roll") (sp_Roll_len X.K) fun _ _ _ => False) := RC.call_lenOwn (CX := L2.CX X.prog X.w) T.m_Roll_len (hp ▸ ok_Roll_len T) (hr.mono (by decide)) (b_Roll_len T) passF
theorem _root_.Lf.CaX.lenR {K : Frag} {ω : List Ent} {r : MRoll} {n : Int} (h : lenOk (m_Roll_len r) = some n) : CaX (RC.rLenO (ga K "Roll") (sp_Roll_len K) fun _ _ _ => False) ω ω [is K r] (is K n) := fun G H vs Q wA pa q => by
  obtain ⟨v, rfl, hv⟩ := PArgs.one pa
  obtain ⟨e, h0⟩ := lenOk_of h
  obtain ⟨p, dx, fs, rfl, hi, _⟩ := Ob.at_ hv
  exact ⟨p, dx, fs, rfl, wA.get hi, use_Roll_len G H _ _ pa wA (Says.ok' e fun v G2 H2 s2 w2 p2 => ⟨n, p2, h0, q _ G2 H2 s2 w2 rfl⟩)⟩

def m_Roll_worth (self : MRoll) (at' : Int) : Res Int :=
  Res.req (Res.val (m_check_number at' (0 : Int))) fun y24 =>
  Res.req (imod at' (self.row.l.length : Int)) fun y26 =>
  Res.req (atI self.row.l y26) fun y28 =>
  .ok y28
def sp_Roll_worth (K : Frag) : Sp := fun vs H Q E => ∃ (self : MRoll) (at' : Int) (ω : List Ent) (G : Hp), PArgs G vs [is K self, is K at'] ∧ At G (ω) H ∧ Says K G (ω) (m_Roll_worth self at') (fun (r : Int) => RS.val (is K r) (ω)) Q E
theorem use_Roll_worth {E : XK} {ω : List Ent} {self : MRoll} {at' : Int} : SpR K (sp_Roll_worth K) E [is K self, is K at'] (ω) (ω) (m_Roll_worth self at') (fun (r : Int) => RS.val (is K r) (ω)) := fun G H vs Q pa w s => ⟨self, at', ω, G, pa, w, s⟩
theorem ok_Roll_worth (T : Txt K mg) : FnOk PR w K mg base (L2.CX PR w) 3 (He.fAd K ("Roll", some "worth")) T.fd_Roll_worth ["self", "at"] (sp_Roll_worth K) := by
  refine T.F_Roll_worth.ok sc_Roll_worth (fun vs H Q E h => ?_) (fun cdv A outer s H vs Q E hr h => ⟨_, PSs.nox ((pss_cons (ps_expr (pe_call (ok_check_number T) (hr.mono (by decide)) rfl T.g_check_number T.F_check_number.kp (b_check_number T) .nil passF (pa_cons (pv 1) (pa_cons pe_int pa_nil))))
      (pss_one (ps_ret (pe_ix ix_tup (pe_fld (pv 0) rfl) (pe_op op_mod (pv 1) (pe_callB RC.call_lenS rfl T.fr_len (by decide +kernel) (pa_cons (pe_fld (pv 0) rfl) pa_nil))) (fun _ _ => rfl)))))), ?_⟩)
  · obtain ⟨_, _, _, _, pa, _, _⟩ := h
    exact pa.len
  · obtain ⟨self, at', ω, G, pa, wA, sy⟩ := h
    try dsimp only [L2.cxOf, L2.Cx.nox, L2.Cx.wish]
    refine Go.fin (Γ := [some (is K self), some (is K at')]) (fo := (fun (r : Int) => RS.val (is K r) (ω))) (ω := ω) (ωe := ω) (?_) pa rfl wA sy
    unfold m_Roll_worth
    exact Go.req fun y24 h25 =>
  Go.drop (EvX.call (EvA.cons (EvX.var (i := 1) rfl) (EvA.cons EvX.int EvA.nil)) (use_check_number) (val_ok h25) rfl) (
  Go.req fun y26 h27 =>
  Go.req fun y28 h29 =>
  Go.ret (EvX.op (EvX.fld (EvX.var (i := 0) rfl) fld_Roll_row T.cl_Roll T.na_Roll_row) (EvX.op (EvX.var (i := 1) rfl) (EvX.ca (EvA.cons (EvX.fld (EvX.var (i := 0) rfl) fld_Roll_row T.cl_Roll T.na_Roll_row) EvA.nil) CaX.lenT) (OpX.mod h27)) (OpX.ixT h29)) rfl (Dr.refl _))
def m_Roll_eq (self : MRoll) (other : MRoll) : Res Bool :=
  .ok (true && (decide (self.row = other.row)))
def sp_Roll_eq (K : Frag) : Sp := fun vs H Q E => ∃ (self : MRoll) (other : MRoll) (ω : List Ent) (G : Hp), PArgs G vs [is K self, is K other] ∧ At G (ω) H ∧ Says K G (ω) (m_Roll_eq self other) (fun (r : Bool) => RS.val (is K r) (ω)) Q E
theorem use_Roll_eq {E : XK} {ω : List Ent} {self : MRoll} {other : MRoll} : SpR K (sp_Roll_eq K) E [is K self, is K other] (ω) (ω) (m_Roll_eq self other) (fun (r : Bool) => RS.val (is K r) (ω)) := fun G H vs Q pa w s => ⟨self, other, ω, G, pa, w, s⟩
theorem ok_Roll_eq (T : Txt K mg) : FnOk PR w K mg base (L2.CX PR w) 1 (He.fAd K ("Roll", some "__eq__")) T.fd_Roll_eq ["self", "other"] (sp_Roll_eq K) := by
  refine T.F_Roll_eq.ok sc_Roll_eq (fun vs H Q E h => ?_) (fun cdv A outer s H vs Q E hr h => ⟨_, PSs.nox ((pss_one (ps_ret (pe_and (pe_callB call_isi rfl T.fr_isinstance (by decide +kernel) (pa_cons (pv 1) (pa_cons (pe_glob (v := .ref (He.ga K "Roll")) rfl T.g_Roll rfl) pa_nil))) (pe_one (pe_cmpR (op_eqD hr.units) (pe_fld (pv 0) rfl) (pe_fld (pv 1) rfl) (nomark _))))))), ?_⟩)
  · obtain ⟨_, _, _, _, pa, _, _⟩ := h
    exact pa.len
  · obtain ⟨self, other, ω, G, pa, wA, sy⟩ := h
    try dsimp only [L2.cxOf, L2.Cx.nox, L2.Cx.wish]
    refine Go.fin (Γ := [some (is K self), some (is K other)]) (fo := (fun (r : Bool) => RS.val (is K r) (ω))) (ω := ω) (ωe := ω) (?_) pa rfl wA sy
    unfold m_Roll_eq
    exact Go.ret (EvX.and (EvX.ca (EvA.cons (EvX.var (i := 1) rfl) (EvA.cons EvX.c EvA.nil)) (CaX.isiR T (.own _) T.k_Roll_Roll)) fun _ => (EvX.op (EvX.fld (EvX.var (i := 0) rfl) fld_Roll_row T.cl_Roll T.na_Roll_row) (EvX.fld (EvX.var (i := 1) rfl) fld_Roll_row T.cl_Roll T.na_Roll_row) (OpX.eqA DtAt.of DtAt.of (by decide)))) rfl (Dr.refl _)
theorem op_eqR {X : Cx} (hp : X.prog = PR) (T : Txt X.K X.mg) (hr : Room 2 X.A) : OpR X (compareOp .Eq) (RC.rEqO X.K (ga X.K "Roll") (sp_Roll_eq X.K) fun _ _ _ => False) := RC.op_eqOwn (CX := L2.CX X.prog X.w) T.m_Roll_eq (hp ▸ ok_Roll_eq T) (hr.mono (by decide)) (b_Roll_eq T) passF
theorem op_neR {X : Cx} (hp : X.prog = PR) (T : Txt X.K X.mg) (hr : Room 2 X.A) : OpR X (compareOp .NotEq) (RC.rNeO X.K (ga X.K "Roll") (sp_Roll_eq X.K) fun _ _ _ => False) := RC.op_neOwn (CX := L2.CX X.prog X.w) T.m_Roll_eq T.x_Roll.ne T.x_Roll.hm (hp ▸ ok_Roll_eq T) (hr.mono (by decide)) (b_Roll_eq T) passF
theorem _root_.Lf.OpX.eqR {K : Frag} {mg : Str → Option Value} {ω : List Ent} (T : Txt K mg) {x y : MRoll} {b : Bool} (h : Res.val (m_Roll_eq x y) = some b) : OpX (RC.rEqO K (ga K "Roll") (sp_Roll_eq K) fun _ _ _ => False) ω ω (is K x) (is K y) (is K b) := fun G H u v Q wA p1 p2 q => by
  obtain ⟨p, dx, fs, rfl, hi, _⟩ := Ob.at_ (show Rp.rep K G u x from p1)
  exact ⟨p, dx, fs, rfl, wA.get hi, ⟨_, rollTy T wA p2, T.n_Roll_Roll⟩, use_Roll_eq G H _ _ (.cons p1 (.cons p2 .nil)) wA (Says.ok' (val_ok h) fun v G2 H2 s2 w2 p2 => ⟨b, p2, q _ G2 H2 s2 w2 rfl⟩)⟩
theorem _root_.Lf.OpX.neR {K : Frag} {mg : Str → Option Value} {ω : List Ent} (T : Txt K mg) {x y : MRoll} {b : Bool} (h : Res.val (m_Roll_eq x y) = some b) : OpX (RC.rNeO K (ga K "Roll") (sp_Roll_eq K) fun _ _ _ => False) ω ω (is K x) (is K y) (is K (!b)) := fun G H u v Q wA p1 p2 q => by
  obtain ⟨p, dx, fs, rfl, hi, _⟩ := Ob.at_ (show Rp.rep K G u x from p1)
  exact ⟨p, dx, fs, rfl, wA.get hi, ⟨_, rollTy T wA p2, T.n_Roll_Roll⟩, use_Roll_eq G H _ _ (.cons p1 (.cons p2 .nil)) wA (Says.ok' (val_ok h) fun v G2 H2 s2 w2 p2 => ⟨b, p2, q _ G2 H2 s2 w2 rfl⟩)⟩

end
end Mi
set_option pp.maxSteps 600
namespace Mi
open PySem PySem.Spec PyProof.Rows L2 He Lf RC
open PySem.W (Frag)
section
variable {w : World} {K : Frag} {mg : Str → Option Value} {base : Heap}
structure MCounter where
  held : (Tu MRoll)
  found : (Dic Int Int)
instance : Rp MCounter := ⟨fun K G v r => ∃ p dx x_held x_found, v = .ref p ∧ G p = some (.ins (ga K "Counter") dx [("held", x_held), ("found", x_found)]) ∧ Rp.rep K G x_held r.held ∧ Rp.rep K G x_found r.found, fun s ⟨p, dx, x_held, x_found, e, h, h_held, h_found⟩ => ⟨p, dx, x_held, x_found, e, s.at h, Rp.mono s h_held, Rp.mono s h_found⟩⟩
instance : Ob MCounter := { cls := "Counter", fl := ["held", "found"], at_ := fun ⟨p, dx, x_held, x_found, e, h, h_held, h_found⟩ => ⟨p, dx, _, e, h, rfl⟩ }
instance : NN MCounter := { nn := fun ⟨_, _, _, _, e, _⟩ z => by rw [z] at e; cases e }
theorem fld_Counter_held {K : Frag} {r : MCounter} : FldOf K "Counter" "held" r r.held := fun G v ⟨p, dx, x_held, x_found, e, h, h_held, h_found⟩ => ⟨p, dx, _, x_held, e, h, rfl, h_held⟩
theorem fld_Counter_found {K : Frag} {r : MCounter} : FldOf K "Counter" "found" r r.found := fun G v ⟨p, dx, x_held, x_found, e, h, h_held, h_found⟩ => ⟨p, dx, _, x_found, e, h, rfl, h_found⟩
theorem made_Counter {K : Frag} : ∀ (r : MCounter) (p : Addr) (G : Hp) (o : HO), (oins (ga K "Counter") [("held", is K r.held), ("found", is K r.found)]).p G o → G p = some o → (is K r).p G (.ref p) := by
  rintro r p G o ⟨dx, fs, rfl, h⟩ e
  obtain ⟨x_held, fs, rfl, h_held, h⟩ := paired_cons h
  obtain ⟨x_found, fs, rfl, h_found, h⟩ := paired_cons h
  cases h
  exact ⟨p, dx, x_held, x_found, rfl, e, h_held, h_found⟩
theorem _root_.Lf.CaX.isiC {K : Frag} {mg : Str → Option Value} {ω : List Ent} (T : Txt K mg) {r : MCounter} {c : V} {u : Value} {b : Bool} (hc : ClsV c u) (e : PySem.W.kitOne K (.ref (ga K "Counter")) u = some b) : CaX (rIsi K) ω ω [is K r, eqv c] (is K b) := fun G H vs Q wA pa q => by
  obtain ⟨v, v', rfl, ⟨p, dx, x1, x2, rfl, h, _, _⟩, rfl⟩ := PArgs.two pa
  exact ⟨_, _, _, _, b, rfl, hc, .base (.ins (wA.get h) T.cl_Counter T.x_Counter.ha T.x_Counter.hn T.x_Counter.htk T.x_Counter.hm), e, q _ G H (Le.refl _) wA rfl⟩

def m_Counter_init (rolls : (List MRoll)) : Res MCounter :=
  (if ((!true) || (!((decide ((1 : Int) ≤ (rolls.length : Int))) && (decide ((rolls.length : Int) ≤ (3 : Int)))))) then .bad else
  Res.bind (Res.fold (fun (s32 : Unit) (x33 : MRoll) =>
  (if (!true) then .bad else
  .ok ())) rolls ()) fun (s36 : Unit) =>
  .ok (MCounter.mk ((Tu.mk rolls) : (Tu MRoll)) (((Dic.mk []) : (Dic Int Int)) : (Dic Int Int))))
def sp_Counter_init (K : Frag) : Sp := fun vs H Q E => ∃ (rolls : (List MRoll)) (p_self : Addr) (ω : List Ent) (G : Hp), PArgs G vs [adr p_self, is K rolls] ∧ At G (.own p_self (oins (ga K "Counter") []) :: ω) H ∧ Says K G ω (m_Counter_init rolls) (fun (r : MCounter) => RS.val (is K ()) (.own p_self (oins (ga K "Counter") [("held", is K r.held), ("found", is K r.found)]) :: ω)) Q E
theorem use_Counter_init {E : XK} {ω : List Ent} {rolls : (List MRoll)} {p_self : Addr} : SpR K (sp_Counter_init K) E [adr p_self, is K rolls] (.own p_self (oins (ga K "Counter") []) :: ω) ω (m_Counter_init rolls) (fun (r : MCounter) => RS.val (is K ()) (.own p_self (oins (ga K "Counter") [("held", is K r.held), ("found", is K r.found)]) :: ω)) := fun G H vs Q pa w s => ⟨rolls, p_self, ω, G, pa, w, s⟩
theorem ok_Counter_init (T : Txt K mg) : FnOk PR w K mg base (L2.CX PR w) 1 (He.fAd K ("Counter", some "__init__")) T.fd_Counter_init ["self", "rolls"] (sp_Counter_init K) := by
  refine T.F_Counter_init.ok sc_Counter_init (fun vs H Q E h => ?_) (fun cdv A outer s H vs Q E hr h => ⟨_, PSs.nox ((pss_cons (ps_if (PW.pt (pw_or (pt_not (pt_val (pe_callB call_isi rfl T.fr_isinstance (by decide +kernel) (pa_cons (pv 1) (pa_cons (pe_bltn (v := .ty "list") rfl T.fr_list (by decide +kernel) rfl) pa_nil))))) (pw_or1 (pt_not (pt_chain op_le op_le pe_int (pe_callB RC.call_lenS rfl T.fr_len (by decide +kernel) (pa_cons (pv 1) pa_nil)) (pe_glob (v := .int 3) rfl (Classical.choose_spec T.c_MOST_ROLLS) ⟨_, rfl⟩)))))) (pss_one ps_never) pss_nil)
      (pss_cons (ps_for PassesOwn.never rfl (pi_list (pv 1)) (pg_name (i := 2) sc_Counter_init.nd rfl (by first | exact .inl rfl | exact .inr rfl))
      (pss_one (ps_if (pt_not (pt_val (pe_callB call_isi rfl T.fr_isinstance (by decide +kernel) (pa_cons (pv 2) (pa_cons (pe_glob (v := .ref (He.ga K "Roll")) rfl T.g_Roll rfl) pa_nil))))) (pss_one ps_never) pss_nil)))
      (pss_cons (ps_fld (pv 0) (pe_callTy RC.call_tupS rfl T.fr_tuple (by decide +kernel) (pa_cons (pv 1) pa_nil)) rfl)
      (pss_one (ps_fld (pv 0) pe_dnewK rfl)))))), ?_⟩)
  · obtain ⟨_, _, _, _, pa, _, _⟩ := h
    exact pa.len
  · obtain ⟨rolls, p_self, ω, G, pa, wA, sy⟩ := h
    try dsimp only [L2.cxOf, L2.Cx.nox, L2.Cx.wish]
    refine Go.fin (Γ := [some (adr p_self), some (is K rolls), none]) (fo := (fun (r : MCounter) => RS.val (is K ()) (.own p_self (oins (ga K "Counter") [("held", is K r.held), ("found", is K r.found)]) :: ω))) (ω := .own p_self (oins (ga K "Counter") []) :: ω) (ωe := ω) (?_) pa rfl wA sy
    unfold m_Counter_init
    exact Go.ifX (EvT.or (EvT.not (EvT.B (EvX.ca (EvA.cons (EvX.var (i := 1) rfl) (EvA.cons EvX.c EvA.nil)) (CaX.isi (b := true) (.ty _) (kit_ty (by decide +kernel)))))) fun _ => (EvT.not (EvT.chain EvX.int (EvX.ca (EvA.cons (EvX.var (i := 1) rfl) EvA.nil) CaX.len) OpX.le EvX.int OpX.le))) (fun h30 => Go.never) (fun _ z => nomatch z) (fun h31 =>
  Go.seqN (fn := (fun (s32 : Unit) => ([some (adr p_self), some (is K (rolls : (List MRoll))), none], (.own p_self (oins (ga K "Counter") []) :: ω)))) (Go.forN (IterX.list (EvX.var (i := 1) rfl)) (Sub.keep (Sub.keep (Sub.keep Sub.nil))) (Dr.refl _) (fun _ => trivial) (fun s32 => TgX.name) fun s32 x33 =>
  Go.last (Go.ifX (EvT.not (EvT.B (EvX.ca (EvA.cons (EvX.var (i := 2) rfl) (EvA.cons EvX.c EvA.nil)) (CaX.isiR T (.own _) T.k_Roll_Roll)))) (fun h34 => Go.never) (fun _ z => nomatch z) (fun h35 =>
  Go.next (Sub.keep (Sub.keep (Sub.lose Sub.nil))) (Dr.refl _)))) fun s36 h37 =>
  Go.setF (k := 0) (EvX.ca (EvA.cons (EvX.var (i := 1) rfl) EvA.nil) CaX.tuple) (EvX.var (i := 0) rfl) rfl rfl (by show 0 < 1000; decide) T.cl_Counter T.na_Counter_held (
  Go.last (Go.setF (k := 0) (EvX.frD EvF.dnew) (EvX.var (i := 0) rfl) rfl rfl (by show 1 < 1000; decide) T.cl_Counter T.na_Counter_found (
  Go.fall rfl (fun _ => rfl) (Dr.refl _)))))
theorem op_eqRs {X : Cx} (hp : X.prog = PR) (T : Txt X.K X.mg) (hr : Room 3 X.A) : OpR X (compareOp .Eq) (Zs.rEqTO X.K (ga X.K "Roll") (sp_Roll_eq X.K) fun _ _ _ => False) := Zs.op_eqTO (k := 1) (CX := L2.CX X.prog X.w) T.m_Roll_eq (hp ▸ ok_Roll_eq T) (hr.mono (by decide)) (b_Roll_eq T) passF
def rowB (x y : MRoll) : Bool := decide (x.row = y.row)
theorem roll_eq_ok (x y : MRoll) : m_Roll_eq x y = .ok (rowB x y) := rfl
theorem _root_.Lf.OpX.eqRs {K : Frag} {mg : Str → Option Value} {ω : List Ent} (T : Txt K mg) {x y : Tu MRoll} : OpX (Zs.rEqTO K (ga K "Roll") (sp_Roll_eq K) fun _ _ _ => False) ω ω (is K x) (is K y) (is K (allT rowB x.l y.l)) := OpX.eqTO rowB fun {G H v u x y P} w p1 p2 q => by
  obtain ⟨a, dx, x1, x2, rfl, e1, r1, _⟩ := id p1
  obtain ⟨b, dy, y1, y2, rfl, e2, r2, _⟩ := id p2
  refine ⟨a, b, rfl, rfl, fun z => ?_, fun _ => ⟨dx, _, w.get e1, ⟨_, rollTy T w p2, T.n_Roll_Roll⟩, use_Roll_eq G H _ _ (.cons p1 (.cons p2 .nil)) w (Says.ok' (roll_eq_ok x y) fun v G2 H2 s2 w2 p2 => ⟨_, p2, q G2 H2 s2 w2⟩)⟩⟩
  subst z
  rw [e1] at e2
  cases e2
  have t : rowB x y = true := decide_eq_true (tuI_one r1 r2)
  have q := q G H (Le.refl _) w
  rw [t] at q
  exact q

def m_Counter_eq (self : MCounter) (other : MCounter) : Res Bool :=
  .ok (true && (allT rowB self.held.l other.held.l))
def sp_Counter_eq (K : Frag) : Sp := fun vs H Q E => ∃ (self : MCounter) (other : MCounter) (ω : List Ent) (G : Hp), PArgs G vs [is K self, is K other] ∧ At G (ω) H ∧ Says K G (ω) (m_Counter_eq self other) (fun (r : Bool) => RS.val (is K r) (ω)) Q E
theorem use_Counter_eq {E : XK} {ω : List Ent} {self : MCounter} {other : MCounter} : SpR K (sp_Counter_eq K) E [is K self, is K other] (ω) (ω) (m_Counter_eq self other) (fun (r : Bool) => RS.val (is K r) (ω)) := fun G H vs Q pa w s => ⟨self, other, ω, G, pa, w, s⟩
theorem ok_Counter_eq (T : Txt K mg) : FnOk PR w K mg base (L2.CX PR w) 4 (He.fAd K ("Counter", some "__eq__")) T.fd_Counter_eq ["self", "other"] (sp_Counter_eq K) := by
  refine T.F_Counter_eq.ok sc_Counter_eq (fun vs H Q E h => ?_) (fun cdv A outer s H vs Q E hr h => ⟨_, PSs.nox ((pss_one (ps_ret (pe_and (pe_callB call_isi rfl T.fr_isinstance (by decide +kernel) (pa_cons (pv 1) (pa_cons (pe_glob (v := .ref (He.ga K "Counter")) rfl T.g_Counter rfl) pa_nil))) (pe_one (pe_cmpR (op_eqRs rfl T (hr.mono (by decide))) (pe_fld (pv 0) rfl) (pe_fld (pv 1) rfl) (nomark _))))))), ?_⟩)
  · obtain ⟨_, _, _, _, pa, _, _⟩ := h
    exact pa.len
  · obtain ⟨self, other, ω, G, pa, wA, sy⟩ := h
    try dsimp only [L2.cxOf, L2.Cx.nox, L2.Cx.wish]
    refine Go.fin (Γ := [some (is K self), some (is K other)]) (fo := (fun (r : Bool) => RS.val (is K r) (ω))) (ω := ω) (ωe := ω) (?_) pa rfl wA sy
    unfold m_Counter_eq
    exact Go.ret (EvX.and (EvX.ca (EvA.cons (EvX.var (i := 1) rfl) (EvA.cons EvX.c EvA.nil)) (CaX.isiC T (.own _) T.k_Counter_Counter)) fun _ => (EvX.op (EvX.fld (EvX.var (i := 0) rfl) fld_Counter_held T.cl_Counter T.na_Counter_held) (EvX.fld (EvX.var (i := 1) rfl) fld_Counter_held T.cl_Counter T.na_Counter_held) (OpX.eqRs T))) rfl (Dr.refl _)
theorem cntTy (T : Txt K mg) {ω : List Ent} {G H : Hp} {v : V} {c : MCounter} (w : At G ω H) (h : Rp.rep K G v c) : TyX K H v (.ref (ga K "Counter")) := by
  obtain ⟨p, dx, x1, x2, rfl, e, _⟩ := h
  exact .base (.ins (w.get e) T.cl_Counter T.x_Counter.ha T.x_Counter.hn T.x_Counter.htk T.x_Counter.hm)
theorem op_eqC {X : Cx} (hp : X.prog = PR) (T : Txt X.K X.mg) (hr : Room 5 X.A) : OpR X (compareOp .Eq) (RC.rEqO X.K (ga X.K "Counter") (sp_Counter_eq X.K) fun _ _ _ => False) := RC.op_eqOwn (CX := L2.CX X.prog X.w) T.m_Counter_eq (hp ▸ ok_Counter_eq T) (hr.mono (by decide)) (b_Counter_eq T) passF
theorem op_neC {X : Cx} (hp : X.prog = PR) (T : Txt X.K X.mg) (hr : Room 5 X.A) : OpR X (compareOp .NotEq) (RC.rNeO X.K (ga X.K "Counter") (sp_Counter_eq X.K) fun _ _ _ => False) := RC.op_neOwn (CX := L2.CX X.prog X.w) T.m_Counter_eq T.x_Counter.ne T.x_Counter.hm (hp ▸ ok_Counter_eq T) (hr.mono (by decide)) (b_Counter_eq T) passF
theorem _root_.Lf.OpX.eqC {K : Frag} {mg : Str → Option Value} {ω : List Ent} (T : Txt K mg) {x y : MCounter} {b : Bool} (h : Res.val (m_Counter_eq x y) = some b) : OpX (RC.rEqO K (ga K "Counter") (sp_Counter_eq K) fun _ _ _ => False) ω ω (is K x) (is K y) (is K b) := fun G H u v Q wA p1 p2 q => by
  obtain ⟨p, dx, fs, rfl, hi, _⟩ := Ob.at_ (show Rp.rep K G u x from p1)
  exact ⟨p, dx, fs, rfl, wA.get hi, ⟨_, cntTy T wA p2, T.n_Counter_Counter⟩, use_Counter_eq G H _ _ (.cons p1 (.cons p2 .nil)) wA (Says.ok' (val_ok h) fun v G2 H2 s2 w2 p2 => ⟨b, p2, q _ G2 H2 s2 w2 rfl⟩)⟩
theorem _root_.Lf.OpX.neC {K : Frag} {mg : Str → Option Value} {ω : List Ent} (T : Txt K mg) {x y : MCounter} {b : Bool} (h : Res.val (m_Counter_eq x y) = some b) : OpX (RC.rNeO K (ga K "Counter") (sp_Counter_eq K) fun _ _ _ => False) ω ω (is K x) (is K y) (is K (!b)) := fun G H u v Q wA p1 p2 q => by
  obtain ⟨p, dx, fs, rfl, hi, _⟩ := Ob.at_ (show Rp.rep K G u x from p1)
  exact ⟨p, dx, fs, rfl, wA.get hi, ⟨_, cntTy T wA p2, T.n_Counter_Counter⟩, use_Counter_eq G H _ _ (.cons p1 (.cons p2 .nil)) wA (Says.ok' (val_ok h) fun v G2 H2 s2 w2 p2 => ⟨b, p2, q _ G2 H2 s2 w2 rfl⟩)⟩

def m_tokens_of (text : Str) : Res (Option (List Str)) :=
  Res.req (fits text) fun y39 =>
  Res.after (Res.loop (fun (s41 : Str × (List Str)) (x42 : Str) =>
  Res.req (sgnIn x42 "0123456789") fun y43 =>
  Res.req (if y43 then (Option.bind (sgnIn s41.1 "0123456789") fun y45 => (some y45)) else some false) fun y47 =>
  Res.after (if y47 then Res.req (atI s41.2 (-(1 : Int))) fun y52 =>
  Res.req (addS y52 x42) fun y54 =>
  Res.req (setAt s41.2 (-(1 : Int)) y54) fun y56 =>
  .ok (.nx y56) else Res.req (sgnIn x42 "0123456789") fun y58 =>
  (if (y58 || (decide (x42 = "/"))) then Res.req (app s41.2 x42) fun y62 =>
  .ok (.nx y62) else Res.req (sgnIn x42 " \n") fun y64 =>
  (if (!y64) then Res.esc (.ok none) else
  .ok (.nx s41.2)))) (fun (s68 : (List Str)) =>
  .ok (.nx (x42, s68))) (fun r => .ok (.rt r))) (sgns text) (" ", [])) (fun (s70 : Str × (List Str)) =>
  .ok (some s70.2)) .ok
def sp_tokens_of (K : Frag) : Sp := fun vs H Q E => ∃ (text : Str) (ω : List Ent) (G : Hp), PArgs G vs [is K text] ∧ At G (ω) H ∧ Says K G (ω) (m_tokens_of text) (fun (r : (Option (List Str))) => RS.val (is K r) (ω)) Q E
theorem use_tokens_of {E : XK} {ω : List Ent} {text : Str} : SpR K (sp_tokens_of K) E [is K text] (ω) (ω) (m_tokens_of text) (fun (r : (Option (List Str))) => RS.val (is K r) (ω)) := fun G H vs Q pa w s => ⟨text, ω, G, pa, w, s⟩
theorem ok_tokens_of (T : Txt K mg) : FnOk PR w K mg base (L2.CX PR w) 1 (He.fAd K ("tokens_of", none)) T.fd_tokens_of ["text"] (sp_tokens_of K) := by
  refine T.F_tokens_of.ok sc_tokens_of (fun vs H Q E h => ?_) (fun cdv A outer s H vs Q E hr h => ⟨_, PSs.nox ((pss_cons (ps_par (i := 1) (j := 2) rfl sc_tokens_of.nd rfl rfl (by decide) rfl rfl (pa_cons (pe_lst pa_nil) (pa_cons pe_str pa_nil)) rfl)
      (pss_cons (ps_for PassesOwn.never rfl (pi_str (pv 0)) (pg_name (i := 3) sc_tokens_of.nd rfl (by first | exact .inl rfl | exact .inr rfl))
      (pss_cons (ps_if (PW.pt (pw_and (pt_cmpR Zs.op_inSgn (pv 3) (pe_glob (v := .str "0123456789") rfl (Classical.choose_spec T.c_DIGITS) ⟨_, rfl⟩) rfl) (pw_and1 (pt_cmpR Zs.op_inSgn (pv 2) (pe_glob (v := .str "0123456789") rfl (Classical.choose_spec T.c_DIGITS) ⟨_, rfl⟩) rfl)))) (pss_one (ps_asg (pe_op op_add_str (pe_ix ix_list (pv 1) (pe_un un_neg pe_int) (fun _ _ => rfl)) (pv 3)) (pg_sub (pv 1) (pe_un un_neg pe_int) set_list))) (pss_one (ps_if (PW.pt (pw_or (pt_cmpR Zs.op_inSgn (pv 3) (pe_glob (v := .str "0123456789") rfl (Classical.choose_spec T.c_DIGITS) ⟨_, rfl⟩) rfl) (pw_or1 (pt_cmpR op_eq (pv 3) pe_str (nomark _))))) (pss_one (ps_expr (pe_bm PySem.F.plainAttrs_list PySem.F.slot_list_append PySem.F.type_list_append mt_append (pv 1) (pa_cons (pv 3) pa_nil)))) (pss_one (ps_if (pt_cmpR op_notSgn (pv 3) (pe_glob (v := .str " \n") rfl (Classical.choose_spec T.c_BLANKS) ⟨_, rfl⟩) rfl) (pss_one (ps_ret pe_non)) pss_nil)))))
      (pss_one (ps_set (i := 2) sc_tokens_of.nd rfl (by first | exact .inl rfl | exact .inr rfl) (pv 3)))))
      (pss_one (ps_ret (pv 1)))))), ?_⟩)
  · obtain ⟨_, _, _, pa, _, _⟩ := h
    exact pa.len
  · obtain ⟨text, ω, G, pa, wA, sy⟩ := h
    try dsimp only [L2.cxOf, L2.Cx.nox, L2.Cx.wish]
    refine Go.fin (Γ := [some (is K text), none, none, none]) (fo := (fun (r : (Option (List Str))) => RS.val (is K r) (ω))) (ω := ω) (ωe := ω) (?_) pa rfl wA sy
    unfold m_tokens_of
    exact Go.parF1 (i := 1) (j := 2) (φ := olst K ([] : (List Str))) (EvF.lst EvA.nil rfl (by show 0 ≤ sizeLine; decide)) (fun _ => EvX.str) fun p38 =>
  Go.req fun y39 h40 =>
  Go.seqR (fn := (fun (s41 : Str × (List Str)) => ([some (is K (text : Str)), some (adr p38), some (is K (s41.1 : Str)), none], (.own p38 (olst K (s41.2 : (List Str))) :: ω)))) (Go.forC (IterX.str (EvX.var (i := 0) rfl) h40) (Sub.keep (Sub.keep (Sub.keep (Sub.keep Sub.nil)))) (Dr.refl _) (fun _ => trivial) (fun s41 => TgX.name) fun s41 x42 =>
  Go.req fun y43 h44 =>
  Go.req fun y47 h48 =>
  Go.seqC (fn' := (fun (s68 : (List Str)) => ([some (is K (text : Str)), some (adr p38), some (is K (s41.1 : Str)), some (is K (x42 : Str))], (.own p38 (olst K (s68 : (List Str))) :: ω)))) (Go.ifS (EvT.andO (EvT.test (EvX.op (EvX.var (i := 3) rfl) EvX.str (OpX.inSgn h44))) (fun _ q49 => (bindO q49 fun y45 h46 q49 => (EvT.eq (EvT.test (EvX.op (EvX.var (i := 2) rfl) EvX.str (OpX.inSgn h46))) (Option.some.inj q49)))) h48) (fun h50 =>
  Go.req fun y52 h53 =>
  Go.req fun y54 h55 =>
  Go.req fun y56 h57 =>
  Go.last (Go.setL (k := 0) (EvX.op (EvX.op (EvX.var (i := 1) rfl) (EvX.neg EvX.int) (OpX.ixO (k := 0) rfl h53)) (EvX.var (i := 3) rfl) (OpX.addS h55)) (EvX.var (i := 1) rfl) (EvX.neg EvX.int) rfl h57 (
  Go.nextC (Sub.keep (Sub.keep (Sub.keep (Sub.keep Sub.nil)))) (Dr.refl _)))) (fun h51 =>
  Go.req fun y58 h59 =>
  Go.ifS (EvT.or (EvT.test (EvX.op (EvX.var (i := 3) rfl) EvX.str (OpX.inSgn h59))) fun _ => (EvT.test (EvX.op (EvX.var (i := 3) rfl) EvX.str OpX.eq))) (fun h60 =>
  Go.req fun y62 h63 =>
  Go.last (Go.app (k := 0) (EvX.var (i := 1) rfl) ⟨_, rfl⟩ (EvX.var (i := 3) rfl) rfl h63 (
  Go.nextC (Sub.keep (Sub.keep (Sub.keep (Sub.keep Sub.nil)))) (Dr.refl _)))) (fun h61 =>
  Go.req fun y64 h65 =>
  Go.last (Go.ifEC (EvT.test (EvX.op (EvX.var (i := 3) rfl) EvX.str (OpX.notSgn h65))) (fun h66 =>
  Go.ret (EvX.non (K := K)) rfl (Dr.drop (Dr.refl _))) (fun h67 =>
  Go.nextC (Sub.keep (Sub.keep (Sub.keep (Sub.keep Sub.nil)))) (Dr.refl _)))))) fun s68 h69 =>
  Go.last (Go.asg (i := 2) (EvX.var (i := 3) rfl) (
  Go.nextC (Sub.keep (Sub.keep (Sub.keep (Sub.lose Sub.nil)))) (Dr.refl _)))) fun s70 h71 =>
  Go.freeze (k := 0) (i := 1) rfl rfl (Go.ret (EvX.opt (EvX.var (i := 1) rfl)) rfl (Dr.refl _))
def m_is_number (token : Str) : Res Bool :=
  Res.req (atS token (0 : Int)) fun y72 =>
  Res.req (sgnIn y72 "0123456789") fun y74 =>
  Res.req (if y74 then (Option.bind (atS token (0 : Int)) fun y76 => (Option.bind (if (!decide (y76 = "0")) then (Option.bind (fits token) fun y78 => (some (decide ((token.length : Int) ≤ (30 : Int))))) else some false) fun y80 => (some y80))) else some false) fun y83 =>
  .ok y83
def sp_is_number (K : Frag) : Sp := fun vs H Q E => ∃ (token : Str) (ω : List Ent) (G : Hp), PArgs G vs [is K token] ∧ At G (ω) H ∧ Says K G (ω) (m_is_number token) (fun (r : Bool) => RS.val (is K r) (ω)) Q E
theorem use_is_number {E : XK} {ω : List Ent} {token : Str} : SpR K (sp_is_number K) E [is K token] (ω) (ω) (m_is_number token) (fun (r : Bool) => RS.val (is K r) (ω)) := fun G H vs Q pa w s => ⟨token, ω, G, pa, w, s⟩
theorem ok_is_number (T : Txt K mg) : FnOk PR w K mg base (L2.CX PR w) 1 (He.fAd K ("is_number", none)) T.fd_is_number ["token"] (sp_is_number K) := by
  refine T.F_is_number.ok sc_is_number (fun vs H Q E h => ?_) (fun cdv A outer s H vs Q E hr h => ⟨_, PSs.nox ((pss_one (ps_ret (pe_and (pe_cmpR Zs.op_inSgn (pe_ix ix_str (pv 0) pe_int (fun _ _ => rfl)) (pe_glob (v := .str "0123456789") rfl (Classical.choose_spec T.c_DIGITS) ⟨_, rfl⟩) rfl) (pe_and (pe_cmpR op_ne (pe_ix ix_str (pv 0) pe_int (fun _ _ => rfl)) pe_str (nomark _)) (pe_one (pe_cmpR op_le (pe_callB call_len_str rfl T.fr_len (by decide +kernel) (pa_cons (pv 0) pa_nil)) (pe_glob (v := .int 30) rfl (Classical.choose_spec T.c_MOST_DIGITS) ⟨_, rfl⟩) (nomark _)))))))), ?_⟩)
  · obtain ⟨_, _, _, pa, _, _⟩ := h
    exact pa.len
  · obtain ⟨token, ω, G, pa, wA, sy⟩ := h
    try dsimp only [L2.cxOf, L2.Cx.nox, L2.Cx.wish]
    refine Go.fin (Γ := [some (is K token)]) (fo := (fun (r : Bool) => RS.val (is K r) (ω))) (ω := ω) (ωe := ω) (?_) pa rfl wA sy
    unfold m_is_number
    exact Go.req fun y72 h73 =>
  Go.req fun y74 h75 =>
  Go.req fun y83 h84 =>
  Go.ret (EvX.andO (EvX.op (EvX.op (EvX.var (i := 0) rfl) EvX.int (OpX.ixT' h73)) EvX.str (OpX.inSgn h75)) (fun _ q85 => (bindO q85 fun y76 h77 q85 => (bindO q85 fun y80 h81 q85 => (EvX.eq (EvX.andO (EvX.op (EvX.op (EvX.var (i := 0) rfl) EvX.int (OpX.ixT' h77)) EvX.str OpX.ne) (fun _ q82 => (bindO q82 fun y78 h79 q82 => (EvX.eq (EvX.op (EvX.ca (EvA.cons (EvX.var (i := 0) rfl) EvA.nil) (CaX.lenTx h79)) EvX.int OpX.le) (Option.some.inj q82)))) h81) (Option.some.inj q85))))) h84) rfl (Dr.refl _)
def m_read_counter (text : PV) : Res MCounter :=
  Res.req (if (text.isTy "str") then (Option.bind (PV.asS text) fun y86 => (Option.bind (Res.val (m_tokens_of y86)) fun y88 => (some y88))) else (some none)) fun y90 =>
  Res.req (if y90.isNone then some true else (Option.bind y90 fun y93 => (Option.bind (mapO (fun (x95 : Str) => (Option.bind (if (!decide (x95 = "/")) then (Option.bind (Res.val (m_is_number x95)) fun y100 => (some (!y100))) else some false) fun y102 => (if y102 then (some (some x95)) else some none))) y93) fun y105 => (some (!(y105 : (List Str)).isEmpty))))) fun y108 =>
  (if y108 then .err ⟨"InvalidText", text⟩ else
  Res.req y90 fun y115 =>
  Res.bind (Res.fold (fun (s117 : (List (List Int)) × (List Int)) (x119 : Str) =>
  (if (decide (x119 = "/")) then Res.req (roomR s117.1) fun y120 =>
  .ok (s117.1 ++ [s117.2], ([] : (List Int))) else Res.req (intO x119) fun y123 =>
  Res.req (app s117.2 y123) fun y125 =>
  .ok (s117.1, y125))) y115 (([] : (List (List Int))), ([] : (List Int)))) fun (s127 : (List (List Int)) × (List Int)) =>
  (if ((decide (([] : (List Int)) ∈ (s127.1 ++ [s127.2]))) || (decide ((3 : Int) < ((s127.1 ++ [s127.2]).length : Int)))) then .err ⟨"InvalidText", text⟩ else
  Res.req (mapO (fun (x132 : (List Int)) => (Option.bind (Res.val (m_Roll_init x132)) fun y137 => (some (some y137)))) (s127.1 ++ [s127.2])) fun y139 =>
  Res.req (Res.val (m_Counter_init y139)) fun y141 =>
  .ok y141))
def sp_read_counter (K : Frag) : Sp := fun vs H Q E => ∃ (text : PV) (ω : List Ent) (G : Hp), PArgs G vs [is K text] ∧ At G (ω) H ∧ Says K G (ω) (m_read_counter text) (fun (r : MCounter) => RS.val (is K r) (ω)) Q E
theorem use_read_counter {E : XK} {ω : List Ent} {text : PV} : SpR K (sp_read_counter K) E [is K text] (ω) (ω) (m_read_counter text) (fun (r : MCounter) => RS.val (is K r) (ω)) := fun G H vs Q pa w s => ⟨text, ω, G, pa, w, s⟩
theorem ok_read_counter (T : Txt K mg) : FnOk PR w K mg base (L2.CX PR w) 4 (He.fAd K ("read_counter", none)) T.fd_read_counter ["text"] (sp_read_counter K) := by
  refine T.F_read_counter.ok sc_read_counter (fun vs H Q E h => ?_) (fun cdv A outer s H vs Q E hr h => ⟨_, (pss_cons (ps_set (i := 1) sc_read_counter.nd rfl (by first | exact .inl rfl | exact .inr rfl) (pe_ifExp (pt_val (pe_callB call_isi rfl T.fr_isinstance (by decide +kernel) (pa_cons (pv 0) (pa_cons (pe_bltn (v := .ty "str") rfl T.fr_str (by decide +kernel) rfl) pa_nil)))) (pe_call (ok_tokens_of T) (hr.mono (by decide)) rfl T.g_tokens_of T.F_tokens_of.kp (b_tokens_of T) .nil passF (pa_cons (pv 0) pa_nil)) pe_non))
      (pss_cons (ps_if (PW.pt (pw_or (pt_cmpR op_isN (pv 1) pe_non (nomark _)) (pw_or1 (pt_cmpR (op_neE (by exact hr.units0)) (pe_lc (own := [("token", 3)]) rfl sc_read_counter.nd (pi_list (pv 1)) (blkOk_by (N := N_read_counter) (sc := defScope s_read_counter) (by decide +kernel)) (fun _ _ _ _ _ => (pg_name (i := 3) sc_read_counter.nd rfl (by first | exact .inl rfl | exact .inr rfl))) (fun _ _ _ _ _ => (pts_one (PW.pt (pw_and (pt_cmpR op_ne (pv 3) pe_str (nomark _)) (pw_and1 (pt_not (pt_val (pe_call (ok_is_number T) (hr.mono (by decide)) rfl T.g_is_number T.F_is_number.kp (b_is_number T) .nil passF (pa_cons (pv 3) pa_nil))))))))) (fun _ _ _ _ _ => (pv 3))) (pe_lst pa_nil) (nomark _))))) (pss_one (ps_raiseE rfl T.e_InvalidText T.g_InvalidText hr (takes_of rfl rfl rfl rfl) (pa_cons (pv 0) pa_nil))) pss_nil)
      (pss_cons (ps_set (i := 2) sc_read_counter.nd rfl (by first | exact .inl rfl | exact .inr rfl) (pe_lst (pa_cons (pe_lst pa_nil) pa_nil)))
      (pss_cons (ps_for (passes_of rfl) rfl (pi_list (pv 1)) (pg_name (i := 3) sc_read_counter.nd rfl (by first | exact .inl rfl | exact .inr rfl))
      (pss_one (ps_if (pt_cmpR op_eq (pv 3) pe_str (nomark _)) (pss_one (ps_expr (pe_bm PySem.F.plainAttrs_list PySem.F.slot_list_append PySem.F.type_list_append mt_append (pv 2) (pa_cons (pe_lst pa_nil) pa_nil)))) (pss_one (ps_expr (pe_bm PySem.F.plainAttrs_list PySem.F.slot_list_append PySem.F.type_list_append mt_append (pe_ix ix_list (pv 2) (pe_un un_neg pe_int) (fun _ _ => rfl)) (pa_cons (pe_callTy Zs.call_intT rfl T.fr_int (by decide +kernel) (pa_cons (pv 3) pa_nil)) pa_nil)))))))
      (pss_cons (ps_if (PW.pt (pw_or (pt_cmpR (op_inD hr.units65) (pe_lst pa_nil) (pv 2) rfl) (pw_or1 (pt_cmpR op_gt (pe_callB RC.call_lenS rfl T.fr_len (by decide +kernel) (pa_cons (pv 2) pa_nil)) (pe_glob (v := .int 3) rfl (Classical.choose_spec T.c_MOST_ROLLS) ⟨_, rfl⟩) (nomark _))))) (pss_one (ps_raiseE rfl T.e_InvalidText T.g_InvalidText hr (takes_of rfl rfl rfl rfl) (pa_cons (pv 0) pa_nil))) pss_nil)
      (pss_one (ps_ret (pe_make T.mk_Counter (ok_Counter_init T) (hr.mono (by decide)) rfl T.g_Counter (b_Counter_init T) .nil passF (pa_cons (pe_lc (own := [("worths", 4)]) rfl sc_read_counter.nd (pi_list (pv 2)) (blkOk_by (N := N_read_counter) (sc := defScope s_read_counter) (by decide +kernel)) (fun _ _ _ _ _ => (pg_name (i := 4) sc_read_counter.nd rfl (by first | exact .inl rfl | exact .inr rfl))) (fun _ _ _ _ _ => pts_nil) (fun _ _ _ _ _ => (pe_make T.mk_Roll (ok_Roll_init T) (hr.mono (by decide)) rfl T.g_Roll (b_Roll_init T) .nil passF (pa_cons (pv 4) pa_nil)))) pa_nil))))))))), ?_⟩)
  · obtain ⟨_, _, _, pa, _, _⟩ := h
    exact pa.len
  · obtain ⟨text, ω, G, pa, wA, sy⟩ := h
    try dsimp only [L2.cxOf, L2.Cx.nox, L2.Cx.wish]
    refine Go.fin (Γ := [some (is K text), none, none, none, none]) (fo := (fun (r : MCounter) => RS.val (is K r) (ω))) (ω := ω) (ωe := ω) (?_) pa rfl wA sy
    unfold m_read_counter
    exact Go.req fun y90 h91 =>
  Go.asg (i := 1) (EvX.iteO (EvT.B (EvX.ca (EvA.cons (EvX.var (i := 0) rfl) (EvA.cons EvX.c EvA.nil)) (CaX.isiT T (.ty _) anyk_str T.k_Roll_str))) (fun _ q92 => (bindO q92 fun y86 h87 q92 => (bindO q92 fun y88 h89 q92 => (EvX.eq (EvX.call (EvA.cons (EvX.asS (EvX.var (i := 0) rfl) h87) EvA.nil) (use_tokens_of) (val_ok h89) rfl) (Option.some.inj q92))))) (fun _ q92 => (EvX.eq (EvX.non (K := K)) (Option.some.inj q92))) h91) (
  Go.req fun y108 h109 =>
  Go.ifX (EvT.orO (EvT.test (EvX.op (EvX.var (i := 1) rfl) (EvX.unit (K := K)) (OpX.isN non_unit))) (fun _ q110 => (bindO q110 fun y93 h94 q110 => (bindO q110 fun y105 h106 q110 => (EvT.eq (EvT.test (EvX.op (EvX.fr (EvF.lc (IterX.list (EvX.unopt (EvX.var (i := 1) rfl) h94)) trivial (fun _ _ _ => trivial) (TgW.name (by decide)) h106 fun x95 o98 p96 f97 q99 => (bindO q99 fun y102 h103 q99 => (Elt.iteO (EvT.andO (EvT.test (EvX.op (EvX.var (i := 3) rfl) EvX.str OpX.ne)) (fun _ q104 => (bindO q104 fun y100 h101 q104 => (EvT.eq (EvT.not (EvT.B (EvX.call (EvA.cons (EvX.var (i := 3) rfl) EvA.nil) (use_is_number) (val_ok h101) rfl))) (Option.some.inj q104)))) h103) (fun _ q107 => ⟨_, (Option.some.inj q107).symm, (EvX.var (i := 3) rfl)⟩) q99)))) (EvX.fr (EvF.lst (α := Int) (xs := []) EvA.nil rfl (by show 0 ≤ sizeLine; decide))) (OpX.neE LstAt.of))) (Option.some.inj q110))))) h109) (fun h111 => Go.raise (EvA.cons (EvX.var (i := 0) rfl) EvA.nil) (Dr.refl _)) (fun _ z => nomatch z) (fun h112 =>
  Go.asgR (i := 2) fun p113 p114 =>
  Go.req fun y115 h116 =>
  Go.seqP (fn := (fun (s117 : (List (List Int)) × (List Int)) (p118 : Addr) => ([some (is K (text : PV)), some (is K (y90 : (Option (List Str)))), some (adr p113), none, none], (.own p113 (olstB K (s117.1 : (List (List Int))) p118) :: .own p118 (olst K (s117.2 : (List Int))) :: ω)))) (Go.forP (p0 := p114) (IterX.list (EvX.unopt (EvX.var (i := 1) rfl) h116)) (Sub.keep (Sub.keep (Sub.keep (Sub.keep (Sub.keep Sub.nil))))) (Dr.refl _) (fun _ _ => trivial) (fun s117 p118 => TgX.name) fun s117 p118 x119 =>
  Go.ifS (EvT.test (EvX.op (EvX.var (i := 3) rfl) EvX.str OpX.eq)) (fun _ =>
  Go.req fun y120 h121 =>
  Go.last (Go.appR (EvX.var (i := 2) rfl) (roomR_of h121) fun p122 =>
  Go.nextE (Sub.keep (Sub.keep (Sub.keep (Sub.lose (Sub.keep Sub.nil))))) (Dr.refl _))) (fun _ =>
  Go.req fun y123 h124 =>
  Go.req fun y125 h126 =>
  Go.last (Go.app (k := 1) (EvX.op (EvX.var (i := 2) rfl) (EvX.neg EvX.int) OpX.lastR) ⟨_, rfl⟩ (EvX.ca (EvA.cons (EvX.var (i := 3) rfl) EvA.nil) (CaX.intT h124)) rfl h126 (
  Go.nextE (Sub.keep (Sub.keep (Sub.keep (Sub.lose (Sub.keep Sub.nil))))) (Dr.refl _))))) fun s127 p128 h129 =>
  Go.freezeR (i := 2) rfl (
  Go.ifX (EvT.or (EvT.test (EvX.op (EvX.fr (EvF.lst EvA.nil rfl (by show 0 ≤ sizeLine; decide))) (EvX.var (i := 2) rfl) (OpX.inA (α := (List Int)) DtAt.of DtAt.of (by decide)))) fun _ => (EvT.test (EvX.op (EvX.ca (EvA.cons (EvX.var (i := 2) rfl) EvA.nil) CaX.len) EvX.int OpX.gt))) (fun h130 => Go.raise (EvA.cons (EvX.var (i := 0) rfl) EvA.nil) (Dr.refl _)) (fun _ z => nomatch z) (fun h131 =>
  Go.req fun y139 h140 =>
  Go.req fun y141 h142 =>
  Go.ret (EvX.make (EvA.cons (EvX.fr (EvF.lc (IterX.list (EvX.var (i := 2) rfl)) trivial (fun _ _ _ => trivial) (TgW.name (by decide)) h140 fun x132 o135 p133 f134 q136 => (bindO q136 fun y137 h138 q136 => (Elt.all (EvX.make (EvA.cons (EvX.var (i := 4) rfl) EvA.nil) (fun _ => (use_Roll_init)) made_Roll (val_ok h138)) q136)))) EvA.nil) (fun _ => (use_Counter_init)) made_Counter (val_ok h142)) rfl (Dr.refl _)))))
end
end Mi
set_option pp.maxSteps 600
namespace Mi
open PySem PySem.Spec PyProof.Rows L2 He Lf RC
open PySem.W (Frag)
section
variable {w : World} {K : Frag} {mg : Str → Option Value} {base : Heap}
def inBody : Stmt → List Stmt
  | .While _ b _ _ => b
  | .For _ _ b _ _ => b
  | .If _ b _ _ => b
  | _ => []
def lcSc : Stmt → Scope
  | .Assign _ (.ListComp _ _ sc _) _ => sc
  | .Return (some (.ListComp _ _ sc _)) _ => sc
  | s => defScope s
def blkSc (sc outer : Scope) : Scope := relabel sc (envOfC "" outer 0 0 .none)
/-- x = f(arg), as x = arg -/
def argOf : Stmt → Stmt
  | .Assign ts (.Call _ (a :: _) _ _) p => .Assign ts a p
  | s => s

def m_l_cell (_law_script : Sc) (_law_index : Int) : Res Int :=
  (if (decide (_law_index < (_law_script.l.length : Int))) then Res.req (atI _law_script.l _law_index) fun y145 =>
  .ok y145 else
  .ok (0 : Int))
def sp_l_cell (K : Frag) : Sp := fun vs H Q E => ∃ (_law_script : Sc) (_law_index : Int) (ω : List Ent) (G : Hp), _law_script.l.length ≤ 63 ∧ PArgs G vs [is K _law_script, is K _law_index] ∧ At G (ω) H ∧ Says K G (ω) (m_l_cell _law_script _law_index) (fun (r : Int) => RS.val (is K r) (ω)) Q E
theorem use_l_cell {E : XK} {ω : List Ent} {_law_script : Sc} {_law_index : Int} (hsc : _law_script.l.length ≤ 63) : SpR K (sp_l_cell K) E [is K _law_script, is K _law_index] (ω) (ω) (m_l_cell _law_script _law_index) (fun (r : Int) => RS.val (is K r) (ω)) := fun G H vs Q pa w s => ⟨_law_script, _law_index, ω, G, hsc, pa, w, s⟩
theorem ok_l_cell (T : Txt K mg) : FnOk PR w K mg base (L2.CX PR w) 1 (He.fAd K ("_law_cell", none)) T.fd_l_cell ["_law_script", "_law_index"] (sp_l_cell K) := by
  refine T.F_l_cell.ok sc_l_cell (fun vs H Q E h => ?_) (fun cdv A outer s H vs Q E hr h => ⟨_, PSs.nox ((pss_cons (ps_if (pt_cmpR op_lt (pv 1) (pe_callB RC.call_lenS rfl T.fr_len (by decide +kernel) (pa_cons (pv 0) pa_nil)) (nomark _)) (pss_one (ps_ret (pe_ix ix_list (pv 0) (pv 1) (fun _ _ => rfl)))) pss_nil)
      (pss_one (ps_ret pe_int)))), ?_⟩)
  · obtain ⟨_, _, _, _, _, pa, _, _⟩ := h
    exact pa.len
  · obtain ⟨_law_script, _law_index, ω, G, hsc, pa, wA, sy⟩ := h
    try dsimp only [L2.cxOf, L2.Cx.nox, L2.Cx.wish]
    refine Go.fin (Γ := [some (is K _law_script), some (is K _law_index)]) (fo := (fun (r : Int) => RS.val (is K r) (ω))) (ω := ω) (ωe := ω) (?_) pa rfl wA sy
    unfold m_l_cell
    exact Go.ifE (EvT.test (EvX.op (EvX.var (i := 1) rfl) (EvX.ca (EvA.cons (EvX.var (i := 0) rfl) EvA.nil) CaX.lenS) OpX.lt)) (fun h143 =>
  Go.req fun y145 h146 =>
  Go.ret (EvX.op (EvX.var (i := 0) rfl) (EvX.var (i := 1) rfl) (OpX.ixS h146)) rfl (Dr.refl _)) (fun h144 =>
  Go.ret EvX.int rfl (Dr.refl _))
def m_l_hash (_law_seed : Int) (_law_index : Int) : Res Int :=
  Res.req (imul ((7919 : Int) * _law_index) _law_index) fun y147 =>
  Res.req (some (((((_law_seed * (1103515245 : Int)) + y147) + _law_index) + (1 : Int)) % (2147483647 : Int))) fun y149 =>
  Res.req (imul y149 y149) fun y151 =>
  Res.req (some ((y151 + (69621 : Int)) % (2147483629 : Int))) fun y153 =>
  .ok ((y153 * (48271 : Int)) % (2147483587 : Int))
def sp_l_hash (K : Frag) : Sp := fun vs H Q E => ∃ (_law_seed : Int) (_law_index : Int) (ω : List Ent) (G : Hp), PArgs G vs [is K _law_seed, is K _law_index] ∧ At G (ω) H ∧ Says K G (ω) (m_l_hash _law_seed _law_index) (fun (r : Int) => RS.val (is K r) (ω)) Q E
theorem use_l_hash {E : XK} {ω : List Ent} {_law_seed : Int} {_law_index : Int} : SpR K (sp_l_hash K) E [is K _law_seed, is K _law_index] (ω) (ω) (m_l_hash _law_seed _law_index) (fun (r : Int) => RS.val (is K r) (ω)) := fun G H vs Q pa w s => ⟨_law_seed, _law_index, ω, G, pa, w, s⟩
theorem ok_l_hash (T : Txt K mg) : FnOk PR w K mg base (L2.CX PR w) 1 (He.fAd K ("_law_hash", none)) T.fd_l_hash ["_law_seed", "_law_index"] (sp_l_hash K) := by
  refine T.F_l_hash.ok sc_l_hash (fun vs H Q E h => ?_) (fun cdv A outer s H vs Q E hr h => ⟨_, PSs.nox ((pss_cons (ps_set (i := 2) sc_l_hash.nd rfl (by first | exact .inl rfl | exact .inr rfl) (pe_op op_mod (pe_callTy RC.call_intS rfl T.fr_int (by decide +kernel) (pa_cons (pe_op op_add (pe_op op_add (pe_op op_add (pe_op op_mul (pv 0) pe_int) (pe_op op_mulW (pe_op op_mul pe_int (pv 1)) (pv 1))) (pv 1)) pe_int) pa_nil)) pe_int))
      (pss_cons (ps_set (i := 2) sc_l_hash.nd rfl (by first | exact .inl rfl | exact .inr rfl) (pe_op op_mod (pe_callTy RC.call_intS rfl T.fr_int (by decide +kernel) (pa_cons (pe_op op_add (pe_op op_mulW (pv 2) (pv 2)) pe_int) pa_nil)) pe_int))
      (pss_one (ps_ret (pe_op op_mod (pe_callTy RC.call_intS rfl T.fr_int (by decide +kernel) (pa_cons (pe_op op_mul (pv 2) pe_int) pa_nil)) pe_int)))))), ?_⟩)
  · obtain ⟨_, _, _, _, pa, _, _⟩ := h
    exact pa.len
  · obtain ⟨_law_seed, _law_index, ω, G, pa, wA, sy⟩ := h
    try dsimp only [L2.cxOf, L2.Cx.nox, L2.Cx.wish]
    refine Go.fin (Γ := [some (is K _law_seed), some (is K _law_index), none]) (fo := (fun (r : Int) => RS.val (is K r) (ω))) (ω := ω) (ωe := ω) (?_) pa rfl wA sy
    unfold m_l_hash
    exact Go.req fun y147 h148 =>
  Go.req fun y149 h150 =>
  Go.asg (i := 2) (EvX.eq (EvX.op (EvX.ca (EvA.cons (EvX.op (EvX.op (EvX.op (EvX.op (EvX.var (i := 0) rfl) EvX.int (OpX.mulK (.inr (by decide)))) (EvX.op (EvX.op EvX.int (EvX.var (i := 1) rfl) (OpX.mulK (.inl (by decide)))) (EvX.var (i := 1) rfl) (OpX.mul h148)) OpX.add) (EvX.var (i := 1) rfl) OpX.add) EvX.int OpX.add) EvA.nil) CaX.int1) EvX.int (OpX.modK (by decide))) (Option.some.inj h150)) (
  Go.req fun y151 h152 =>
  Go.req fun y153 h154 =>
  Go.asg (i := 2) (EvX.eq (EvX.op (EvX.ca (EvA.cons (EvX.op (EvX.op (EvX.var (i := 2) rfl) (EvX.var (i := 2) rfl) (OpX.mul h152)) EvX.int OpX.add) EvA.nil) CaX.int1) EvX.int (OpX.modK (by decide))) (Option.some.inj h154)) (
  Go.ret (EvX.op (EvX.ca (EvA.cons (EvX.op (EvX.var (i := 2) rfl) EvX.int (OpX.mulK (.inr (by decide)))) EvA.nil) CaX.int1) EvX.int (OpX.modK (by decide))) rfl (Dr.refl _)))
def m_l_generator (_law_script : Sc) (_law_index : Int) : Res (List Int) :=
  Res.req (Res.val (m_l_cell _law_script _law_index)) fun y155 =>
  Res.req (ipow ((10 : Int) ^ 60) (10 : Int)) fun y157 =>
  Res.req (imod (max2 (y155 - ((10 : Int) ^ 18)) (0 : Int)) y157) fun y159 =>
  .ok [y159, (y155 % (2147483647 : Int)), ((1000 : Int) * _law_index)]
def sp_l_generator (K : Frag) : Sp := fun vs H Q E => ∃ (_law_script : Sc) (_law_index : Int) (ω : List Ent) (G : Hp), _law_script.l.length ≤ 63 ∧ PArgs G vs [is K _law_script, is K _law_index] ∧ At G (ω) H ∧ Says K G (ω) (m_l_generator _law_script _law_index) (fun (r : (List Int)) => RS.own (olst K (r : (List Int))) (ω)) Q E
theorem use_l_generator {E : XK} {ω : List Ent} {_law_script : Sc} {_law_index : Int} (hsc : _law_script.l.length ≤ 63) : SpR K (sp_l_generator K) E [is K _law_script, is K _law_index] (ω) (ω) (m_l_generator _law_script _law_index) (fun (r : (List Int)) => RS.own (olst K (r : (List Int))) (ω)) := fun G H vs Q pa w s => ⟨_law_script, _law_index, ω, G, hsc, pa, w, s⟩
theorem ok_l_generator (T : Txt K mg) : FnOk PR w K mg base (L2.CX PR w) 2 (He.fAd K ("_law_generator", none)) T.fd_l_generator ["_law_script", "_law_index"] (sp_l_generator K) := by
  refine T.F_l_generator.ok sc_l_generator (fun vs H Q E h => ?_) (fun cdv A outer s H vs Q E hr h => ⟨_, PSs.nox ((pss_cons (ps_set (i := 2) sc_l_generator.nd rfl (by first | exact .inl rfl | exact .inr rfl) (pe_call (ok_l_cell T) (hr.mono (by decide)) rfl T.g_l_cell T.F_l_cell.kp (b_l_cell T) .nil passF (pa_cons (pv 0) (pa_cons (pv 1) pa_nil))))
      (pss_one (ps_ret (pe_lst (pa_cons (pe_op op_mod (pe_callTy RC.call_intS rfl T.fr_int (by decide +kernel) (pa_cons (pe_callB (RC.call_max2S rfl) rfl T.fr_max (by decide +kernel) (pa_cons (pe_op op_sub (pv 2) (pe_op op_pow pe_int pe_int)) (pa_cons pe_int pa_nil))) pa_nil)) (pe_op RC.op_powW (pe_op op_pow pe_int pe_int) pe_int)) (pa_cons (pe_op op_mod (pe_callTy RC.call_intS rfl T.fr_int (by decide +kernel) (pa_cons (pv 2) pa_nil)) pe_int) (pa_cons (pe_op op_mul pe_int (pv 1)) pa_nil)))))))), ?_⟩)
  · obtain ⟨_, _, _, _, _, pa, _, _⟩ := h
    exact pa.len
  · obtain ⟨_law_script, _law_index, ω, G, hsc, pa, wA, sy⟩ := h
    try dsimp only [L2.cxOf, L2.Cx.nox, L2.Cx.wish]
    refine Go.fin (Γ := [some (is K _law_script), some (is K _law_index), none]) (fo := (fun (r : (List Int)) => RS.own (olst K (r : (List Int))) (ω))) (ω := ω) (ωe := ω) (?_) pa rfl wA sy
    unfold m_l_generator
    exact Go.req fun y155 h156 =>
  Go.asg (i := 2) (EvX.call (EvA.cons (EvX.var (i := 0) rfl) (EvA.cons (EvX.var (i := 1) rfl) EvA.nil)) (use_l_cell hsc) (val_ok h156) rfl) (
  Go.req fun y157 h158 =>
  Go.req fun y159 h160 =>
  Go.retF (EvF.lst (EvA.cons (EvX.op (EvX.ca (EvA.cons (EvX.ca (EvA.cons (EvX.op (EvX.var (i := 2) rfl) (EvX.op EvX.int EvX.int (OpX.powK ⟨by decide, by decide, by decide⟩)) OpX.sub) (EvA.cons EvX.int EvA.nil)) CaX.max2) EvA.nil) CaX.int1) (EvX.op (EvX.op EvX.int EvX.int (OpX.powK ⟨by decide, by decide, by decide⟩)) EvX.int (OpX.pow h158)) (OpX.mod h160)) (EvA.cons (EvX.op (EvX.ca (EvA.cons (EvX.var (i := 2) rfl) EvA.nil) CaX.int1) EvX.int (OpX.modK (by decide))) (EvA.cons (EvX.op EvX.int (EvX.var (i := 1) rfl) (OpX.mulK (.inl (by decide)))) EvA.nil))) rfl (by show 3 ≤ sizeLine; decide)) rfl (Dr.refl _))
def m_l_random (_law_generator_here : (List Int)) (_law_bound : Int) : Res (Int × (List Int)) :=
  Res.req (atI _law_generator_here (0 : Int)) fun y161 =>
  (if (decide ((0 : Int) < y161)) then Res.req (atI _law_generator_here (0 : Int)) fun y165 =>
  Res.req (imod y165 _law_bound) fun y167 =>
  Res.req (atI _law_generator_here (0 : Int)) fun y169 =>
  Res.req (ifdiv y169 _law_bound) fun y171 =>
  Res.req (setAt _law_generator_here (0 : Int) y171) fun y173 =>
  .ok (y167, y173) else
  Res.req (irng (0 : Int) ((1 : Int) + ((Builtin.Int.intBits _law_bound : Int) / (30 : Int)))) fun y175 =>
  Res.bind (Res.fold (fun (s177 : Int × (List Int)) (x178 : Int) =>
  Res.req (atI s177.2 (2 : Int)) fun y179 =>
  Res.req (setAt s177.2 (2 : Int) (y179 + (1 : Int))) fun y181 =>
  Res.req (atI y181 (1 : Int)) fun y183 =>
  Res.req (atI y181 (2 : Int)) fun y185 =>
  Res.req (Res.val (m_l_hash y183 y185)) fun y187 =>
  Res.req (some ((s177.1 * (2147483587 : Int)) + y187)) fun y189 =>
  .ok (y189, y181)) y175 ((0 : Int), _law_generator_here)) fun (s191 : Int × (List Int)) =>
  Res.req (imod s191.1 _law_bound) fun y193 =>
  .ok (y193, s191.2))
def sp_l_random (K : Frag) : Sp := fun vs H Q E => ∃ (_law_generator_here : (List Int)) (_law_bound : Int) (p__law_generator_here : Addr) (ω : List Ent) (G : Hp), PArgs G vs [adr p__law_generator_here, is K _law_bound] ∧ At G (.own p__law_generator_here (olst K (_law_generator_here : (List Int))) :: ω) H ∧ Says K G (.own p__law_generator_here (olst K (_law_generator_here : (List Int))) :: ω) (m_l_random _law_generator_here _law_bound) (fun (r : (Int × (List Int))) => RS.val (is K r.1) (.own p__law_generator_here (olst K (r.2 : (List Int))) :: ω)) Q E
theorem use_l_random {E : XK} {ω : List Ent} {_law_generator_here : (List Int)} {_law_bound : Int} {p__law_generator_here : Addr} {k : Nat} (ho : ω[k]? = some (Ent.own p__law_generator_here (olst K (_law_generator_here : (List Int))))) : SpR K (sp_l_random K) E [adr p__law_generator_here, is K _law_bound] ω ω (m_l_random _law_generator_here _law_bound) (fun (r : (Int × (List Int))) => RS.val (is K r.1) (ω.set k (.own p__law_generator_here (olst K (r.2 : (List Int)))))) := fun G H vs Q pa w s => ⟨_law_generator_here, _law_bound, p__law_generator_here, ω.eraseIdx k, G, pa, w.front ho, Says.front (φ := olst K (_law_generator_here : (List Int))) (φ' := fun (r : (Int × (List Int))) => olst K (r.2 : (List Int))) (f1 := fun (r : (Int × (List Int))) => is K r.1) ho s⟩
theorem ok_l_random (T : Txt K mg) : FnOk PR w K mg base (L2.CX PR w) 2 (He.fAd K ("_law_random", none)) T.fd_l_random ["_law_generator_here", "_law_bound"] (sp_l_random K) := by
  refine T.F_l_random.ok sc_l_random (fun vs H Q E h => ?_) (fun cdv A outer s H vs Q E hr h => ⟨_, PSs.nox ((pss_cons (ps_if (pt_cmpR op_gt (pe_ix ix_list (pv 0) pe_int (fun _ _ => rfl)) pe_int (nomark _)) (pss_cons (ps_set (i := 2) sc_l_random.nd rfl (by first | exact .inl rfl | exact .inr rfl) (pe_op op_mod (pe_callTy RC.call_intS rfl T.fr_int (by decide +kernel) (pa_cons (pe_ix ix_list (pv 0) pe_int (fun _ _ => rfl)) pa_nil)) (pv 1)))
      (pss_cons (ps_asg (pe_op op_fdivW (pe_ix ix_list (pv 0) pe_int (fun _ _ => rfl)) (pv 1)) (pg_sub (pv 0) pe_int set_list))
      (pss_one (ps_ret (pv 2))))) pss_nil)
      (pss_cons (ps_set (i := 2) sc_l_random.nd rfl (by first | exact .inl rfl | exact .inr rfl) pe_int)
      (pss_cons (ps_for PassesOwn.never rfl (pi_range1 rfl T.fr_range (pa_cons (pe_op op_add pe_int (pe_op op_fdiv (pe_bits (pv 1)) pe_int)) pa_nil)) (pg_name (i := 3) sc_l_random.nd rfl (by first | exact .inl rfl | exact .inr rfl))
      (pss_cons (ps_asg (pe_op op_add (pe_ix ix_list (pv 0) pe_int (fun _ _ => rfl)) pe_int) (pg_sub (pv 0) pe_int set_list))
      (pss_one (ps_set (i := 2) sc_l_random.nd rfl (by first | exact .inl rfl | exact .inr rfl) (pe_op op_add (pe_op op_mul (pv 2) pe_int) (pe_call (ok_l_hash T) (hr.mono (by decide)) rfl T.g_l_hash T.F_l_hash.kp (b_l_hash T) .nil passF (pa_cons (pe_ix ix_list (pv 0) pe_int (fun _ _ => rfl)) (pa_cons (pe_ix ix_list (pv 0) pe_int (fun _ _ => rfl)) pa_nil))))))))
      (pss_one (ps_ret (pe_op op_mod (pe_callTy RC.call_intS rfl T.fr_int (by decide +kernel) (pa_cons (pv 2) pa_nil)) (pv 1)))))))), ?_⟩)
  · obtain ⟨_, _, _, _, _, pa, _, _⟩ := h
    exact pa.len
  · obtain ⟨_law_generator_here, _law_bound, p__law_generator_here, ω, G, pa, wA, sy⟩ := h
    try dsimp only [L2.cxOf, L2.Cx.nox, L2.Cx.wish]
    refine Go.fin (Γ := [some (adr p__law_generator_here), some (is K _law_bound), none, none]) (fo := (fun (r : (Int × (List Int))) => RS.val (is K r.1) (.own p__law_generator_here (olst K (r.2 : (List Int))) :: ω))) (ω := .own p__law_generator_here (olst K (_law_generator_here : (List Int))) :: ω) (ωe := .own p__law_generator_here (olst K (_law_generator_here : (List Int))) :: ω) (?_) pa rfl wA sy
    unfold m_l_random
    exact Go.req fun y161 h162 =>
  Go.ifE (EvT.test (EvX.op (EvX.op (EvX.var (i := 0) rfl) EvX.int (OpX.ixO (k := 0) rfl h162)) EvX.int OpX.gt)) (fun h163 =>
  Go.req fun y165 h166 =>
  Go.req fun y167 h168 =>
  Go.asg (i := 2) (EvX.op (EvX.ca (EvA.cons (EvX.op (EvX.var (i := 0) rfl) EvX.int (OpX.ixO (k := 0) rfl h166)) EvA.nil) CaX.int1) (EvX.var (i := 1) rfl) (OpX.mod h168)) (
  Go.req fun y169 h170 =>
  Go.req fun y171 h172 =>
  Go.req fun y173 h174 =>
  Go.setL (k := 0) (EvX.op (EvX.op (EvX.var (i := 0) rfl) EvX.int (OpX.ixO (k := 0) rfl h170)) (EvX.var (i := 1) rfl) (OpX.fdiv h172)) (EvX.var (i := 0) rfl) EvX.int rfl h174 (
  Go.ret (EvX.var (i := 2) rfl) rfl (Dr.refl _)))) (fun h164 =>
  Go.asg (i := 2) EvX.int (
  Go.req fun y175 h176 =>
  Go.seqN (fn := (fun (s177 : Int × (List Int)) => ([some (adr p__law_generator_here), some (is K (_law_bound : Int)), some (is K (s177.1 : Int)), none], (.own p__law_generator_here (olst K (s177.2 : (List Int))) :: ω)))) (Go.forN (IterX.rng1 (EvA.cons (EvX.op EvX.int (EvX.op (EvX.bits (EvX.var (i := 1) rfl)) EvX.int (OpX.fdivK ⟨by decide, by decide⟩)) OpX.add) EvA.nil) h176) (Sub.keep (Sub.keep (Sub.keep (Sub.keep Sub.nil)))) (Dr.refl _) (fun _ => trivial) (fun s177 => TgX.name) fun s177 x178 =>
  Go.req fun y179 h180 =>
  Go.req fun y181 h182 =>
  Go.setL (k := 0) (EvX.op (EvX.op (EvX.var (i := 0) rfl) EvX.int (OpX.ixO (k := 0) rfl h180)) EvX.int OpX.add) (EvX.var (i := 0) rfl) EvX.int rfl h182 (
  Go.req fun y183 h184 =>
  Go.req fun y185 h186 =>
  Go.req fun y187 h188 =>
  Go.req fun y189 h190 =>
  Go.last (Go.asg (i := 2) (EvX.eq (EvX.op (EvX.op (EvX.var (i := 2) rfl) EvX.int (OpX.mulK (.inr (by decide)))) (EvX.call (EvA.cons (EvX.op (EvX.var (i := 0) rfl) EvX.int (OpX.ixO (k := 0) rfl h184)) (EvA.cons (EvX.op (EvX.var (i := 0) rfl) EvX.int (OpX.ixO (k := 0) rfl h186)) EvA.nil)) (use_l_hash) (val_ok h188) rfl) OpX.add) (Option.some.inj h190)) (
  Go.next (Sub.keep (Sub.keep (Sub.keep (Sub.lose Sub.nil)))) (Dr.refl _))))) fun s191 h192 =>
  Go.req fun y193 h194 =>
  Go.ret (EvX.op (EvX.ca (EvA.cons (EvX.var (i := 2) rfl) EvA.nil) CaX.int1) (EvX.var (i := 1) rfl) (OpX.mod h194)) rfl (Dr.refl _)))
def m_l_rows (_law_generator_here : (List Int)) (_law_most : Int) : Res ((List (List Int)) × (List Int)) :=
  Res.req (Res.val (m_l_random _law_generator_here (3 : Int))) fun y195 =>
  Res.req (irng (0 : Int) ((1 : Int) + y195.1)) fun y198 =>
  Res.bind (Res.fold (fun (s200 : (List Int) × (List (List Int))) (x201 : Int) =>
  Res.req (Res.val (m_l_random s200.1 (_law_most - (s200.2.length : Int)))) fun y202 =>
  Res.req (Res.val (m_l_random y202.2 (3 : Int))) fun y204 =>
  Res.req (atI [(2 : Int), (3 : Int), (6 : Int)] y204.1) fun y206 =>
  Res.req (irng (0 : Int) ((1 : Int) + y202.1)) fun y208 =>
  Res.req (mapT (fun (s210 : (List Int)) (x211 : Int) => (Option.bind (Res.val (m_l_random s210 y206)) fun y216 => (some (y216.2, ((1 : Int) + y216.1))))) y208 y204.2) fun y218 =>
  Res.req (app s200.2 y218.2) fun y220 =>
  .ok (y218.1, y220)) y198 (y195.2, [])) fun (s222 : (List Int) × (List (List Int))) =>
  .ok (s222.2, s222.1)
def sp_l_rows (K : Frag) : Sp := fun vs H Q E => ∃ (_law_generator_here : (List Int)) (_law_most : Int) (p__law_generator_here : Addr) (ω : List Ent) (G : Hp), PArgs G vs [adr p__law_generator_here, is K _law_most] ∧ At G (.own p__law_generator_here (olst K (_law_generator_here : (List Int))) :: ω) H ∧ Says K G (.own p__law_generator_here (olst K (_law_generator_here : (List Int))) :: ω) (m_l_rows _law_generator_here _law_most) (fun (r : ((List (List Int)) × (List Int))) => RS.val (is K r.1) (.own p__law_generator_here (olst K (r.2 : (List Int))) :: ω)) Q E
theorem use_l_rows {E : XK} {ω : List Ent} {_law_generator_here : (List Int)} {_law_most : Int} {p__law_generator_here : Addr} {k : Nat} (ho : ω[k]? = some (Ent.own p__law_generator_here (olst K (_law_generator_here : (List Int))))) : SpR K (sp_l_rows K) E [adr p__law_generator_here, is K _law_most] ω ω (m_l_rows _law_generator_here _law_most) (fun (r : ((List (List Int)) × (List Int))) => RS.val (is K r.1) (ω.set k (.own p__law_generator_here (olst K (r.2 : (List Int)))))) := fun G H vs Q pa w s => ⟨_law_generator_here, _law_most, p__law_generator_here, ω.eraseIdx k, G, pa, w.front ho, Says.front (φ := olst K (_law_generator_here : (List Int))) (φ' := fun (r : ((List (List Int)) × (List Int))) => olst K (r.2 : (List Int))) (f1 := fun (r : ((List (List Int)) × (List Int))) => is K r.1) ho s⟩
theorem ok_l_rows (T : Txt K mg) : FnOk PR w K mg base (L2.CX PR w) 3 (He.fAd K ("_law_rows", none)) T.fd_l_rows ["_law_generator_here", "_law_most"] (sp_l_rows K) := by
  refine T.F_l_rows.ok sc_l_rows (fun vs H Q E h => ?_) (fun cdv A outer s H vs Q E hr h => ⟨_, PSs.nox ((pss_cons (ps_par (i := 2) (j := 3) rfl sc_l_rows.nd rfl rfl (by decide) rfl rfl (pa_cons (pe_op op_add pe_int (pe_call (ok_l_random T) (hr.mono (by decide)) rfl T.g_l_random T.F_l_random.kp (b_l_random T) .nil passF (pa_cons (pv 0) (pa_cons pe_int pa_nil)))) (pa_cons (pe_lst pa_nil) pa_nil)) rfl)
      (pss_cons (ps_for PassesOwn.never rfl (pi_range1 rfl T.fr_range (pa_cons (pv 2) pa_nil)) (pg_name (i := 4) sc_l_rows.nd rfl (by first | exact .inl rfl | exact .inr rfl))
      (pss_cons (ps_set (i := 5) sc_l_rows.nd rfl (by first | exact .inl rfl | exact .inr rfl) (pe_op op_add pe_int (pe_call (ok_l_random T) (hr.mono (by decide)) rfl T.g_l_random T.F_l_random.kp (b_l_random T) .nil passF (pa_cons (pv 0) (pa_cons (pe_op op_sub (pv 1) (pe_callB RC.call_lenS rfl T.fr_len (by decide +kernel) (pa_cons (pv 3) pa_nil))) pa_nil)))))
      (pss_cons (ps_set (i := 6) sc_l_rows.nd rfl (by first | exact .inl rfl | exact .inr rfl) (pe_ix ix_list (pe_lst (pa_cons pe_int (pa_cons pe_int (pa_cons pe_int pa_nil)))) (pe_call (ok_l_random T) (hr.mono (by decide)) rfl T.g_l_random T.F_l_random.kp (b_l_random T) .nil passF (pa_cons (pv 0) (pa_cons pe_int pa_nil))) (fun _ _ => rfl)))
      (pss_one (ps_expr (pe_bm PySem.F.plainAttrs_list PySem.F.slot_list_append PySem.F.type_list_append mt_append (pv 3) (pa_cons (pe_lc (own := [("_law_place", 7)]) rfl sc_l_rows.nd (pi_range1 rfl T.fr_range (pa_cons (pv 5) pa_nil)) (blkOk_by (N := N_l_rows) (sc := defScope s_l_rows) (by decide +kernel)) (fun _ _ _ _ _ => (pg_name (i := 7) sc_l_rows.nd rfl (by first | exact .inl rfl | exact .inr rfl))) (fun _ _ _ _ _ => pts_nil) (fun _ _ _ _ _ => (pe_op op_add pe_int (pe_call (ok_l_random T) (hr.mono (by decide)) rfl T.g_l_random T.F_l_random.kp (b_l_random T) .nil passF (pa_cons (pv 0) (pa_cons (pv 6) pa_nil)))))) pa_nil)))))))
      (pss_one (ps_ret (pv 3)))))), ?_⟩)
  · obtain ⟨_, _, _, _, _, pa, _, _⟩ := h
    exact pa.len
  · obtain ⟨_law_generator_here, _law_most, p__law_generator_here, ω, G, pa, wA, sy⟩ := h
    try dsimp only [L2.cxOf, L2.Cx.nox, L2.Cx.wish]
    refine Go.fin (Γ := [some (adr p__law_generator_here), some (is K _law_most), none, none, none, none, none, none]) (fo := (fun (r : ((List (List Int)) × (List Int))) => RS.val (is K r.1) (.own p__law_generator_here (olst K (r.2 : (List Int))) :: ω))) (ω := .own p__law_generator_here (olst K (_law_generator_here : (List Int))) :: ω) (ωe := .own p__law_generator_here (olst K (_law_generator_here : (List Int))) :: ω) (?_) pa rfl wA sy
    unfold m_l_rows
    exact Go.req fun y195 h196 =>
  Go.parF (i := 2) (j := 3) (φ := olst K ([] : (List (List Int)))) (EvX.op EvX.int (EvX.call (EvA.cons (EvX.var (i := 0) rfl) (EvA.cons EvX.int EvA.nil)) (use_l_random (k := 0) rfl) (val_ok h196) rfl) OpX.add) (EvF.lst EvA.nil rfl (by show 0 ≤ sizeLine; decide)) fun p197 =>
  Go.req fun y198 h199 =>
  Go.seqN (fn := (fun (s200 : (List Int) × (List (List Int))) => ([some (adr p__law_generator_here), some (is K (_law_most : Int)), some (is K (((1 : Int) + y195.1) : Int)), some (adr p197), none, none, none, none], (.own p197 (olst K (s200.2 : (List (List Int)))) :: .own p__law_generator_here (olst K (s200.1 : (List Int))) :: ω)))) (Go.forN (IterX.rng1 (EvA.cons (EvX.var (i := 2) rfl) EvA.nil) h199) (Sub.keep (Sub.keep (Sub.keep (Sub.keep (Sub.keep (Sub.keep (Sub.keep (Sub.keep Sub.nil)))))))) (Dr.refl _) (fun _ => trivial) (fun s200 => TgX.name) fun s200 x201 =>
  Go.req fun y202 h203 =>
  Go.asg (i := 5) (EvX.op EvX.int (EvX.call (EvA.cons (EvX.var (i := 0) rfl) (EvA.cons (EvX.op (EvX.var (i := 1) rfl) (EvX.ca (EvA.cons (EvX.var (i := 3) rfl) EvA.nil) (CaX.lenO (k := 0) rfl)) OpX.sub) EvA.nil)) (use_l_random (k := 1) rfl) (val_ok h203) rfl) OpX.add) (
  Go.req fun y204 h205 =>
  Go.req fun y206 h207 =>
  Go.asg (i := 6) (EvX.op (EvX.fr (EvF.lst (EvA.cons EvX.int (EvA.cons EvX.int (EvA.cons EvX.int EvA.nil))) rfl (by show 3 ≤ sizeLine; decide))) (EvX.call (EvA.cons (EvX.var (i := 0) rfl) (EvA.cons EvX.int EvA.nil)) (use_l_random (k := 1) rfl) (val_ok h205) rfl) (OpX.ixL h207)) (
  Go.req fun y208 h209 =>
  Go.req fun y218 h219 =>
  Go.req fun y220 h221 =>
  Go.last (Go.app (k := 0) (EvX.var (i := 3) rfl) ⟨_, rfl⟩ (EvX.fr (EvF.lcS (fo := (fun (s210 : (List Int)) => (.own p197 (olst K (s200.2 : (List (List Int)))) :: .own p__law_generator_here (olst K (s210 : (List Int))) :: ω))) (IterX.rng1 (EvA.cons (EvX.var (i := 5) rfl) EvA.nil) h209) (fun _ _ _ => trivial) (TgW.name (by decide)) (fun _ _ => EvT.yes) h219 fun s210 x211 b214 p212 f213 q215 => (bindO q215 fun y216 h217 q215 => (EvX.pairS (f := (fun (s210 : (List Int)) => .own p212 f213 :: (.own p197 (olst K (s200.2 : (List (List Int)))) :: .own p__law_generator_here (olst K (s210 : (List Int))) :: ω))) (EvX.op EvX.int (EvX.call (EvA.cons (EvX.var (i := 0) rfl) (EvA.cons (EvX.var (i := 6) rfl) EvA.nil)) (use_l_random (k := 2) rfl) (val_ok h217) rfl) OpX.add) (Option.some.inj q215))))) rfl h221 (
  Go.next (Sub.keep (Sub.keep (Sub.keep (Sub.keep (Sub.lose (Sub.lose (Sub.lose (Sub.keep Sub.nil)))))))) (Dr.refl _)))))) fun s222 h223 =>
  Go.freeze (k := 0) (i := 3) rfl rfl (Go.ret (EvX.var (i := 3) rfl) rfl (Dr.refl _))
def m_l_counter (_law_rows_here : (List (List Int))) : Res MCounter :=
  Res.req (mapO (fun (x224 : (List Int)) => (Option.bind (Res.val (m_Roll_init x224)) fun y229 => (some (some y229)))) _law_rows_here) fun y231 =>
  Res.req (Res.val (m_Counter_init y231)) fun y233 =>
  .ok y233
def sp_l_counter (K : Frag) : Sp := fun vs H Q E => ∃ (_law_rows_here : (List (List Int))) (ω : List Ent) (G : Hp), PArgs G vs [is K _law_rows_here] ∧ At G (ω) H ∧ Says K G (ω) (m_l_counter _law_rows_here) (fun (r : MCounter) => RS.val (is K r) (ω)) Q E
theorem use_l_counter {E : XK} {ω : List Ent} {_law_rows_here : (List (List Int))} : SpR K (sp_l_counter K) E [is K _law_rows_here] (ω) (ω) (m_l_counter _law_rows_here) (fun (r : MCounter) => RS.val (is K r) (ω)) := fun G H vs Q pa w s => ⟨_law_rows_here, ω, G, pa, w, s⟩
theorem ok_l_counter (T : Txt K mg) : FnOk PR w K mg base (L2.CX PR w) 4 (He.fAd K ("_law_counter", none)) T.fd_l_counter ["_law_rows_here"] (sp_l_counter K) := by
  refine T.F_l_counter.ok sc_l_counter (fun vs H Q E h => ?_) (fun cdv A outer s H vs Q E hr h => ⟨_, PSs.nox ((pss_one (ps_ret (pe_make T.mk_Counter (ok_Counter_init T) (hr.mono (by decide)) rfl T.g_Counter (b_Counter_init T) .nil passF (pa_cons (pe_lc (own := [("_law_worths", 1)]) rfl sc_l_counter.nd (pi_list (pv 0)) (blkOk_by (N := N_l_counter) (sc := defScope s_l_counter) (by decide +kernel)) (fun _ _ _ _ _ => (pg_name (i := 1) sc_l_counter.nd rfl (by first | exact .inl rfl | exact .inr rfl))) (fun _ _ _ _ _ => pts_nil) (fun _ _ _ _ _ => (pe_make T.mk_Roll (ok_Roll_init T) (hr.mono (by decide)) rfl T.g_Roll (b_Roll_init T) .nil passF (pa_cons (pe_callTy (RC.kOf Evl.rListS (K := K) RC.call_listS rfl) rfl T.fr_list (by decide +kernel) (pa_cons (pv 1) pa_nil)) pa_nil)))) pa_nil))))), ?_⟩)
  · obtain ⟨_, _, _, pa, _, _⟩ := h
    exact pa.len
  · obtain ⟨_law_rows_here, ω, G, pa, wA, sy⟩ := h
    try dsimp only [L2.cxOf, L2.Cx.nox, L2.Cx.wish]
    refine Go.fin (Γ := [some (is K _law_rows_here), none]) (fo := (fun (r : MCounter) => RS.val (is K r) (ω))) (ω := ω) (ωe := ω) (?_) pa rfl wA sy
    unfold m_l_counter
    exact Go.req fun y231 h232 =>
  Go.req fun y233 h234 =>
  Go.ret (EvX.make (EvA.cons (EvX.fr (EvF.lc (IterX.list (EvX.var (i := 0) rfl)) trivial (fun _ _ _ => trivial) (TgW.name (by decide)) h232 fun x224 o227 p225 f226 q228 => (bindO q228 fun y229 h230 q228 => (Elt.all (EvX.make (EvA.cons (EvX.fr (EvF.ca (EvA.cons (EvX.var (i := 1) rfl) EvA.nil) CaF.list)) EvA.nil) (fun _ => (use_Roll_init)) made_Roll (val_ok h230)) q228)))) EvA.nil) (fun _ => (use_Counter_init)) made_Counter (val_ok h234)) rfl (Dr.refl _)
def m_l_due (_law_text : Str) : Res (Option (List (List Int))) :=
  Res.req (fits _law_text) fun y235 =>
  Res.req (mapO (fun (x237 : Str) => (Option.bind (sgnIn x237 "0123456789/ \n") fun y242 => (if (!y242) then (some (some x237)) else some none))) (sgns _law_text)) fun y244 =>
  (if (!(y244 : (List Str)).isEmpty) then .ok none else
  Res.req (replO _law_text "\n" " ") fun y250 =>
  Res.req (splitO y250 "/") fun y252 =>
  Res.after (Res.loop (fun (s254 : (List (List Int))) (x255 : Str) =>
  Res.req (splitO x255 " ") fun y256 =>
  Res.req (some (List.map (fun (x258 : Str) => x258) (List.filter (fun (x258 : Str) => (!decide (x258 = ""))) y256))) fun y263 =>
  Res.req (if ((y263 : (List Str)).isEmpty) then some true else (Option.bind (mapO (fun (x265 : Str) => (Option.bind (cutT x265 none (some (1 : Int))) fun y270 => (Option.bind (if (decide (y270 = "0")) then some true else (Option.bind (fits x265) fun y272 => (some (decide ((30 : Int) < (x265.length : Int)))))) fun y274 => (if y274 then (some (some x265)) else some none)))) y263) fun y277 => (some (!(y277 : (List Str)).isEmpty)))) fun y280 =>
  (if y280 then Res.esc (.ok none) else
  Res.req (mapO (fun (x285 : Str) => (Option.bind (intO x285) fun y290 => (some (some y290)))) y263) fun y292 =>
  Res.req (app s254 y292) fun y294 =>
  .ok (.nx y294))) y252 []) (fun (s296 : (List (List Int))) =>
  .ok (if (decide ((s296.length : Int) ≤ (3 : Int))) then (some s296) else none)) .ok)
def sp_l_due (K : Frag) : Sp := fun vs H Q E => ∃ (_law_text : Str) (ω : List Ent) (G : Hp), PArgs G vs [is K _law_text] ∧ At G (ω) H ∧ Says K G (ω) (m_l_due _law_text) (fun (r : (Option (List (List Int)))) => RS.val (is K r) (ω)) Q E
theorem use_l_due {E : XK} {ω : List Ent} {_law_text : Str} : SpR K (sp_l_due K) E [is K _law_text] (ω) (ω) (m_l_due _law_text) (fun (r : (Option (List (List Int)))) => RS.val (is K r) (ω)) := fun G H vs Q pa w s => ⟨_law_text, ω, G, pa, w, s⟩
theorem ok_l_due (T : Txt K mg) : FnOk PR w K mg base (L2.CX PR w) 1 (He.fAd K ("_law_due", none)) T.fd_l_due ["_law_text"] (sp_l_due K) := by
  refine Zs.okT T.F_l_due sc_l_due (by decide +kernel) (by decide) (fun vs H Q E h => ?_) (fun cdv A outer s H vs Q E hr h => ⟨_, Zs.nox_T ((psst_cons (PST.of (ps_if (pt_cmpR (op_neE (by exact hr.units0)) (pe_lc (own := [("_law_sign", 4)]) rfl sc_l_due.nd (pi_str (pv 0)) (blkOk_by (N := N_l_due) (sc := defScope s_l_due) (by decide +kernel)) (fun _ _ _ _ _ => (pg_name (i := 4) sc_l_due.nd rfl (by first | exact .inl rfl | exact .inr rfl))) (fun _ _ _ _ _ => (pts_one (pt_cmpR op_notSgn (pv 4) pe_str rfl))) (fun _ _ _ _ _ => (pv 4))) (pe_lst pa_nil) (nomark _)) (pss_one (ps_ret pe_non)) pss_nil))
      (psst_cons (PST.of (ps_set (i := 1) sc_l_due.nd rfl (by first | exact .inl rfl | exact .inr rfl) (pe_lst pa_nil)))
      (psst_cons (pst_for PassesOwn.never rfl (pit_list (Zs.pet_split (CwR.pet_replC (pv 0)) pe_str)) (pg_name (i := 2) sc_l_due.nd rfl (by first | exact .inl rfl | exact .inr rfl))
      (pss_cons (ps_setLc (i := 3) (own := [("_law_word", 5)]) rfl sc_l_due.nd rfl rfl (sw_true rfl rfl rfl (by decide +kernel)) (pi_list (pe_m1 PySem.F.slot_str_split PySem.F.type_str_split Zs.mt_splitT (pv 2) pe_str)) (blkOk_by (N := N_l_due) (sc := defScope s_l_due) (by decide +kernel)) (fun _ _ _ _ _ => (pg_name (i := 5) sc_l_due.nd rfl (by first | exact .inl rfl | exact .inr rfl))) (fun _ _ _ _ _ => (pts_one (pt_cmpR op_ne (pv 5) pe_str (nomark _)))) (fun _ _ _ _ _ => (pv 5)))
      (pss_cons (ps_if (PW.pt (pw_or (pt_cmpR (op_eqE (by exact hr.units0)) (pv 3) (pe_lst pa_nil) (nomark _)) (pw_or1 (pt_cmpR (op_neE (by exact hr.units0)) (pe_lc (own := [("_law_word", 5)]) rfl sc_l_due.nd (pi_list (pv 3)) (blkOk_by (N := N_l_due) (sc := defScope s_l_due) (by decide +kernel)) (fun _ _ _ _ _ => (pg_name (i := 5) sc_l_due.nd rfl (by first | exact .inl rfl | exact .inr rfl))) (fun _ _ _ _ _ => (pts_one (PW.pt (pw_or (pt_cmpR op_eq (pe_slice sl_str (pv 5) po_none (po_some pe_int)) pe_str (nomark _)) (pw_or1 (pt_cmpR op_gt (pe_callB call_len_str rfl T.fr_len (by decide +kernel) (pa_cons (pv 5) pa_nil)) pe_int (nomark _))))))) (fun _ _ _ _ _ => (pv 5))) (pe_lst pa_nil) (nomark _))))) (pss_one (ps_ret pe_non)) pss_nil)
      (pss_one (ps_expr (pe_bm PySem.F.plainAttrs_list PySem.F.slot_list_append PySem.F.type_list_append mt_append (pv 1) (pa_cons (pe_lc (own := [("_law_word", 5)]) rfl sc_l_due.nd (pi_list (pv 3)) (blkOk_by (N := N_l_due) (sc := defScope s_l_due) (by decide +kernel)) (fun _ _ _ _ _ => (pg_name (i := 5) sc_l_due.nd rfl (by first | exact .inl rfl | exact .inr rfl))) (fun _ _ _ _ _ => pts_nil) (fun _ _ _ _ _ => (pe_callTy Zs.call_intT rfl T.fr_int (by decide +kernel) (pa_cons (pv 5) pa_nil)))) pa_nil)))))))
      (psst_cons (PST.of (ps_ret (pe_ifExp (pt_cmpR op_le (pe_callB RC.call_lenS rfl T.fr_len (by decide +kernel) (pa_cons (pv 1) pa_nil)) pe_int (nomark _)) (pv 1) pe_non)))
      CwR.psst_nil))))), ?_⟩)
  · obtain ⟨_, _, _, pa, _, _⟩ := h
    exact pa.len
  · obtain ⟨_law_text, ω, G, pa, wA, sy⟩ := h
    try dsimp only [L2.cxOf, L2.Cx.nox, L2.Cx.wish]
    refine Go.fin (Γ := [some (is K _law_text), none, none, none, none, none]) (fo := (fun (r : (Option (List (List Int)))) => RS.val (is K r) (ω))) (ω := ω) (ωe := ω) (?_) pa rfl wA sy
    unfold m_l_due
    exact Go.req fun y235 h236 =>
  Go.req fun y244 h245 =>
  Go.ifE (EvT.test (EvX.op (EvX.fr (EvF.lc (IterX.str (EvX.var (i := 0) rfl) h236) trivial (fun _ _ _ => trivial) (TgW.name (by decide)) h245 fun x237 o240 p238 f239 q241 => (bindO q241 fun y242 h243 q241 => (Elt.iteO (EvT.test (EvX.op (EvX.var (i := 4) rfl) EvX.str (OpX.notSgn h243))) (fun _ q246 => ⟨_, (Option.some.inj q246).symm, (EvX.var (i := 4) rfl)⟩) q241)))) (EvX.fr (EvF.lst (α := Int) (xs := []) EvA.nil rfl (by show 0 ≤ sizeLine; decide))) (OpX.neE LstAt.of))) (fun h247 =>
  Go.ret (EvX.non (K := K)) rfl (Dr.refl _)) (fun h248 =>
  Go.asgF (i := 1) (φ := olst K ([] : (List (List Int)))) (EvF.lst EvA.nil rfl (by show 0 ≤ sizeLine; decide)) fun p249 =>
  Go.req fun y250 h251 =>
  Go.req fun y252 h253 =>
  Go.seqR (fn := (fun (s254 : (List (List Int))) => ([some (is K (_law_text : Str)), some (adr p249), none, none, none, none], (.own p249 (olst K (s254 : (List (List Int)))) :: ω)))) (Go.forC (IterX.list (EvX.fr (EvF.split (EvX.repl (EvX.var (i := 0) rfl) h251) EvX.str h253))) (Sub.keep (Sub.keep (Sub.keep (Sub.keep (Sub.keep (Sub.keep Sub.nil)))))) (Dr.refl _) (fun _ => trivial) (fun s254 => TgX.name) fun s254 x255 =>
  Go.req fun y256 h257 =>
  Go.req fun y263 h264 =>
  Go.asg (i := 3) (EvX.eq (EvX.fr (EvF.lc (IterX.list (EvX.fr (EvF.split (EvX.var (i := 2) rfl) EvX.str h257))) trivial (fun _ _ _ => trivial) (TgW.name (by decide)) (mapO_fil (fun (x258 : Str) => (!decide (x258 = ""))) (fun (x258 : Str) => x258) y256) fun x258 o261 p259 f260 q262 => Elt.ite (EvT.test (EvX.op (EvX.var (i := 5) rfl) EvX.str OpX.ne)) (fun _ => (EvX.var (i := 5) rfl)) q262)) (Option.some.inj h264)) (
  Go.req fun y280 h281 =>
  Go.ifEC (EvT.orO (EvT.test (EvX.op (EvX.var (i := 3) rfl) (EvX.fr (EvF.lst (α := Int) (xs := []) EvA.nil rfl (by show 0 ≤ sizeLine; decide))) (OpX.eqE LstAt.of))) (fun _ q282 => (bindO q282 fun y277 h278 q282 => (EvT.eq (EvT.test (EvX.op (EvX.fr (EvF.lc (IterX.list (EvX.var (i := 3) rfl)) trivial (fun _ _ _ => trivial) (TgW.name (by decide)) h278 fun x265 o268 p266 f267 q269 => (bindO q269 fun y270 h271 q269 => (bindO q269 fun y274 h275 q269 => (Elt.iteO (EvT.orO (EvT.test (EvX.op (EvX.slS (EvX.var (i := 5) rfl) EvO.none (EvO.some (K := K) EvX.int) h271) EvX.str OpX.eq)) (fun _ q276 => (bindO q276 fun y272 h273 q276 => (EvT.eq (EvT.test (EvX.op (EvX.ca (EvA.cons (EvX.var (i := 5) rfl) EvA.nil) (CaX.lenTx h273)) EvX.int OpX.gt)) (Option.some.inj q276)))) h275) (fun _ q279 => ⟨_, (Option.some.inj q279).symm, (EvX.var (i := 5) rfl)⟩) q269))))) (EvX.fr (EvF.lst (α := Int) (xs := []) EvA.nil rfl (by show 0 ≤ sizeLine; decide))) (OpX.neE LstAt.of))) (Option.some.inj q282)))) h281) (fun h283 =>
  Go.ret (EvX.non (K := K)) rfl (Dr.drop (Dr.refl _))) (fun h284 =>
  Go.req fun y292 h293 =>
  Go.req fun y294 h295 =>
  Go.last (Go.app (k := 0) (EvX.var (i := 1) rfl) ⟨_, rfl⟩ (EvX.fr (EvF.lc (IterX.list (EvX.var (i := 3) rfl)) trivial (fun _ _ _ => trivial) (TgW.name (by decide)) h293 fun x285 o288 p286 f287 q289 => (bindO q289 fun y290 h291 q289 => (Elt.all (EvX.ca (EvA.cons (EvX.var (i := 5) rfl) EvA.nil) (CaX.intT h291)) q289)))) rfl h295 (
  Go.nextC (Sub.keep (Sub.keep (Sub.lose (Sub.lose (Sub.keep (Sub.keep Sub.nil)))))) (Dr.refl _)))))) fun s296 h297 =>
  Go.freeze (k := 0) (i := 1) rfl rfl (Go.ret (EvX.iteV (EvT.test (EvX.op (EvX.ca (EvA.cons (EvX.var (i := 1) rfl) EvA.nil) CaX.len) EvX.int OpX.le)) (fun _ => (EvX.opt (EvX.var (i := 1) rfl))) (fun _ => (EvX.non (K := K)))) rfl (Dr.refl _)))
def m_l_right (_law_text : Str) : Res Bool :=
  Res.req (Res.val (m_l_due _law_text)) fun y298 =>
  Res.bind (Res.told ["InvalidText"] (none : (Option MCounter)) some (m_read_counter (PV.of (_law_text : Str)))) fun y300 =>
  (if y298.isNone then Res.req (isE ["InvalidText"] y300.1 "InvalidText") fun y304 =>
  Res.req (if y304 then (Option.bind (valE ["InvalidText"] y300.1) fun y306 => (Option.bind (toldP y306) fun y308 => (Option.bind (toldP (PV.of (_law_text : Str))) fun y310 => (some (decide (y308 = y310)))))) else some false) fun y312 =>
  .ok y312 else
  Res.req y298 fun y315 =>
  Res.bind (Res.fold (fun (s317 : Int) (x318 : (List Int)) =>
  Res.req (imul s317 (x318.length : Int)) fun y319 =>
  .ok y319) y315 (1 : Int)) fun (s321 : Int) =>
  Res.req (if (decide ((200 : Int) < s321)) then some true else (Option.bind y298 fun y323 => (some (!decide ((List.map (fun (x325 : (List Int)) => x325) (List.filter (fun (x325 : (List Int)) => ((decide ((8 : Int) < (x325.length : Int))) || (decide ((1000 : Int) < x325.sum)))) y323)) = []))))) fun y330 =>
  (if y330 then .ok y300.1.isNone else
  Res.req (if y300.1.isNone then (Option.bind y298 fun y335 => (Option.bind (Res.val (m_l_counter y335)) fun y337 => (Option.bind y298 fun y339 => (Option.bind (Res.val (m_l_counter y339)) fun y341 => (Option.bind y300.2 fun y343 => (Option.bind (Res.val (m_Counter_eq y343 y341)) fun y345 => (some y345))))))) else some false) fun y347 =>
  .ok y347))
def sp_l_right (K : Frag) : Sp := fun vs H Q E => ∃ (_law_text : Str) (ω : List Ent) (G : Hp), PArgs G vs [is K _law_text] ∧ At G (ω) H ∧ Says K G (ω) (m_l_right _law_text) (fun (r : Bool) => RS.val (is K r) (ω)) Q E
theorem use_l_right {E : XK} {ω : List Ent} {_law_text : Str} : SpR K (sp_l_right K) E [is K _law_text] (ω) (ω) (m_l_right _law_text) (fun (r : Bool) => RS.val (is K r) (ω)) := fun G H vs Q pa w s => ⟨_law_text, ω, G, pa, w, s⟩
theorem ok_l_right (T : Txt K mg) : RC.FnOkG PR w K mg base (L2.CX PR w) 6 (He.fAd K ("_law_right", none)) T.fd_l_right ["_law_text"] (sp_l_right K) := by
  refine RC.okG T.F_l_right sc_l_right (fun vs H Q E h => ?_) (fun cdv A outer s H vs Q E hg hr h => ⟨_, PSs.nox ((pss_cons (ps_par3 (i := 1) (j := 2) (l := 3) rfl sc_l_right.nd rfl rfl rfl (by decide) (by decide) (by decide) rfl rfl rfl (pa_cons (pe_call (ok_l_due T) (hr.mono (by decide)) rfl T.g_l_due T.F_l_due.kp (b_l_due T) .nil passF (pa_cons (pv 0) pa_nil)) (pa_cons pe_non (pa_cons pe_non pa_nil))) rfl)
      (pss_cons (RC.ps_keep (i := 4) (j := 2) rfl rfl rfl sc_l_right.nd rfl rfl (by decide) rfl rfl ⟨rfl, by decide, .inl T.g_ClerkError⟩ (by decide) (by decide) rfl (fun W pn xe tk _ => (pss_one (ps_set (i := 3) sc_l_right.nd rfl (by first | exact .inl rfl | exact .inr rfl) (pe_callS (ok_read_counter T) (hr.mono (by decide)) rfl T.g_read_counter T.F_read_counter.kp (b_read_counter T) (fun σ => passAt tk σ) (pa_cons (pv 0) pa_nil))))))
      (pss_cons (ps_if (pt_cmpR op_isN (pv 1) pe_non (nomark _)) (pss_one (ps_ret (pe_and (pe_callB call_isE rfl T.fr_isinstance (by decide +kernel) (pa_cons (pv 2) (pa_cons (pe_glob (v := .ref (He.ga K "InvalidText")) rfl T.g_InvalidText rfl) pa_nil))) (pe_one (pe_cmpR op_eq (pe_callB (RC.call_reprX hg (hr.mono (by decide))) rfl T.fr_repr (by decide +kernel) (pa_cons (RC.pe_fldE (pv 2)) pa_nil)) (pe_callB (RC.call_reprX hg (hr.mono (by decide))) rfl T.fr_repr (by decide +kernel) (pa_cons (pv 0) pa_nil)) (nomark _)))))) pss_nil)
      (pss_cons (ps_set (i := 5) sc_l_right.nd rfl (by first | exact .inl rfl | exact .inr rfl) pe_int)
      (pss_cons (ps_for PassesOwn.never rfl (pi_list (pv 1)) (pg_name (i := 6) sc_l_right.nd rfl (by first | exact .inl rfl | exact .inr rfl))
      (pss_one (ps_set (i := 5) sc_l_right.nd rfl (by first | exact .inl rfl | exact .inr rfl) (pe_op op_mulW (pv 5) (pe_callB RC.call_lenS rfl T.fr_len (by decide +kernel) (pa_cons (pv 6) pa_nil))))))
      (pss_cons (ps_if (PW.pt (pw_or (pt_cmpR op_gt (pv 5) pe_int (nomark _)) (pw_or1 (pt_cmpR (op_neD hr.units) (pe_lc (own := [("_law_worths", 6)]) rfl sc_l_right.nd (pi_list (pv 1)) (blkOk_by (N := N_l_right) (sc := defScope s_l_right) (by decide +kernel)) (fun _ _ _ _ _ => (pg_name (i := 6) sc_l_right.nd rfl (by first | exact .inl rfl | exact .inr rfl))) (fun _ _ _ _ _ => (pts_one (PW.pt (pw_or (pt_cmpR op_gt (pe_callB (RC.kOf Evl.rLenS (K := K) RC.call_lenS rfl) rfl T.fr_len (by decide +kernel) (pa_cons (pv 6) pa_nil)) pe_int (nomark _)) (pw_or1 (pt_cmpR op_gt (pe_callB (RC.kOf rSum (K := K) (cr_sum rfl) rfl) rfl T.fr_sum (by decide +kernel) (pa_cons (pv 6) pa_nil)) pe_int (nomark _))))))) (fun _ _ _ _ _ => (pv 6))) (pe_lst pa_nil) (nomark _))))) (pss_one (ps_ret (pe_cmpR op_isN (pv 2) pe_non (nomark _)))) pss_nil)
      (pss_one (ps_ret (pe_and (pe_cmpR op_isN (pv 2) pe_non (nomark _)) (pe_one (pe_cmpR (op_eqC rfl T (hr.mono (by decide))) (pv 3) (pe_call (ok_l_counter T) (hr.mono (by decide)) rfl T.g_l_counter T.F_l_counter.kp (b_l_counter T) .nil passF (pa_cons (pv 1) pa_nil)) (nomark _))))))))))))), ?_⟩)
  · obtain ⟨_, _, _, pa, _, _⟩ := h
    exact pa.len
  · obtain ⟨_law_text, ω, G, pa, wA, sy⟩ := h
    try dsimp only [L2.cxOf, L2.Cx.nox, L2.Cx.wish]
    refine Go.fin (Γ := [some (is K _law_text), none, none, none, none, none, none]) (fo := (fun (r : Bool) => RS.val (is K r) (ω))) (ω := ω) (ωe := ω) (?_) pa rfl wA sy
    unfold m_l_right
    exact Go.req fun y298 h299 =>
  Go.parS (i := 1) (j := 2) (l := 3) (EvA.cons (EvX.call (EvA.cons (EvX.var (i := 0) rfl) EvA.nil) (use_l_due) (val_ok h299) rfl) (EvA.cons (EvX.non (K := K)) (EvA.cons (EvX.non (K := K)) EvA.nil))) (
  Go.tryA (i := 4) (j := 2) (l := 3) (L := ["InvalidText"]) (t0 := (none : (Option MCounter))) (g := some) (EvA.cons (EvX.any (x := (_law_text : Str)) (EvX.var (i := 0) rfl)) EvA.nil) (fun _ => (use_read_counter)) (fun _ _ => rfl) (fun _ _ _ h => ⟨h, NN.nn h⟩) (xms_ClerkError T) (by decide) rfl (fun _ => (Sub.keep (Sub.keep (Sub.keep (Sub.keep (Sub.keep (Sub.keep (Sub.keep Sub.nil)))))))) fun y300 h301 =>
  Go.ifE (EvT.test (EvX.op (EvX.var (i := 1) rfl) (EvX.unit (K := K)) (OpX.isN non_unit))) (fun h302 =>
  Go.req fun y304 h305 =>
  Go.req fun y312 h313 =>
  Go.ret (EvX.andO (EvX.ca (EvA.cons (EvX.var (i := 2) rfl) (EvA.cons EvX.c EvA.nil)) (CaX.isE (.own _) (errs_InvalidText T) h305)) (fun _ q314 => (bindO q314 fun y306 h307 q314 => (bindO q314 fun y308 h309 q314 => (bindO q314 fun y310 h311 q314 => (EvX.eq (EvX.op (EvX.ca (EvA.cons (EvX.valE (EvX.var (i := 2) rfl) (errs_InvalidText T) h307) EvA.nil) (CaX.toldP h309)) (EvX.ca (EvA.cons (EvX.any (x := (_law_text : Str)) (EvX.var (i := 0) rfl)) EvA.nil) (CaX.toldP h311)) OpX.eq) (Option.some.inj q314)))))) h313) rfl (Dr.refl _)) (fun h303 =>
  Go.asg (i := 5) EvX.int (
  Go.req fun y315 h316 =>
  Go.seqN (fn := (fun (s317 : Int) => ([some (is K (_law_text : Str)), some (is K (y298 : (Option (List (List Int))))), some (is K (y300.1 : (Option Exn))), some (is K (y300.2 : (Option MCounter))), none, some (is K (s317 : Int)), none], (ω)))) (Go.forN (IterX.list (EvX.unopt (EvX.var (i := 1) rfl) h316)) (Sub.keep (Sub.keep (Sub.keep (Sub.keep (Sub.keep (Sub.keep (Sub.keep Sub.nil))))))) (Dr.refl _) (fun _ => trivial) (fun s317 => TgX.name) fun s317 x318 =>
  Go.req fun y319 h320 =>
  Go.last (Go.asg (i := 5) (EvX.op (EvX.var (i := 5) rfl) (EvX.ca (EvA.cons (EvX.var (i := 6) rfl) EvA.nil) CaX.len) (OpX.mul h320)) (
  Go.next (Sub.keep (Sub.keep (Sub.keep (Sub.keep (Sub.keep (Sub.keep (Sub.lose Sub.nil))))))) (Dr.refl _)))) fun s321 h322 =>
  Go.req fun y330 h331 =>
  Go.ifE (EvT.orO (EvT.test (EvX.op (EvX.var (i := 5) rfl) EvX.int OpX.gt)) (fun _ q332 => (bindO q332 fun y323 h324 q332 => (EvT.eq (EvT.test (EvX.op (EvX.fr (EvF.lc (IterX.list (EvX.unopt (EvX.var (i := 1) rfl) h324)) trivial (fun _ _ _ => trivial) (TgW.name (by decide)) (mapO_fil (fun (x325 : (List Int)) => ((decide ((8 : Int) < (x325.length : Int))) || (decide ((1000 : Int) < x325.sum)))) (fun (x325 : (List Int)) => x325) y323) fun x325 o328 p326 f327 q329 => Elt.ite (EvT.or (EvT.test (EvX.op (EvX.ca (EvA.cons (EvX.var (i := 6) rfl) EvA.nil) CaX.len) EvX.int OpX.gt)) fun _ => (EvT.test (EvX.op (EvX.ca (EvA.cons (EvX.var (i := 6) rfl) EvA.nil) CaX.sum) EvX.int OpX.gt))) (fun _ => (EvX.var (i := 6) rfl)) q329)) (EvX.fr (EvF.lst EvA.nil rfl (by show 0 ≤ sizeLine; decide))) (OpX.neA DtAt.of DtAt.of (by decide)))) (Option.some.inj q332)))) h331) (fun h333 =>
  Go.ret (EvX.op (EvX.var (i := 2) rfl) (EvX.unit (K := K)) (OpX.isN non_unit)) rfl (Dr.refl _)) (fun h334 =>
  Go.req fun y347 h348 =>
  Go.ret (EvX.andO (EvX.op (EvX.var (i := 2) rfl) (EvX.unit (K := K)) (OpX.isN non_unit)) (fun _ q349 => (bindO q349 fun y335 h336 q349 => (bindO q349 fun y337 h338 q349 => (bindO q349 fun y339 h340 q349 => (bindO q349 fun y341 h342 q349 => (bindO q349 fun y343 h344 q349 => (bindO q349 fun y345 h346 q349 => (EvX.eq (EvX.op (EvX.unopt (EvX.var (i := 3) rfl) h344) (EvX.call (EvA.cons (EvX.unopt (EvX.var (i := 1) rfl) h340) EvA.nil) (use_l_counter) (val_ok h342) rfl) (OpX.eqC T h346)) (Option.some.inj q349))))))))) h348) rfl (Dr.refl _)))))
def m_l_bent (_law_generator_here : (List Int)) (_law_text : Str) : Res ((List Str) × (List Int)) :=
  Res.req (fits _law_text) fun y350 =>
  Res.req (Res.val (m_l_random _law_generator_here ((_law_text.length : Int) + (1 : Int)))) fun y352 =>
  Res.req (fits _law_text) fun y354 =>
  Res.req (Res.val (m_l_random y352.2 ((_law_text.length : Int) + (1 : Int)))) fun y356 =>
  Res.req (Res.val (m_l_random y356.2 (14 : Int))) fun y358 =>
  Res.req (atI [("0" : Str), ("1" : Str), ("/" : Str), (" " : Str), ("\n" : Str), ("-" : Str), ("+" : Str), ("\t" : Str), ("x" : Str), ("" : Str), ("." : Str), ("_" : Str), (" 2 " : Str), ("/3" : Str)] y358.1) fun y360 =>
  Res.req (cutT _law_text none (some y352.1)) fun y362 =>
  Res.req (cutT _law_text (some (y352.1 + (1 : Int))) none) fun y364 =>
  Res.req (addS y362 y364) fun y366 =>
  Res.req (cutT _law_text none (some y352.1)) fun y368 =>
  Res.req (addS y368 y360) fun y370 =>
  Res.req (cutT _law_text (some y352.1) none) fun y372 =>
  Res.req (addS y370 y372) fun y374 =>
  Res.req (cutT _law_text none (some y352.1)) fun y376 =>
  Res.req (addS y376 y360) fun y378 =>
  Res.req (cutT _law_text (some (y352.1 + (1 : Int))) none) fun y380 =>
  Res.req (addS y378 y380) fun y382 =>
  Res.req (cutT _law_text (some y352.1) none) fun y384 =>
  Res.req (some [(y366 : Str), (y374 : Str), (y382 : Str), (y384 : Str)]) fun y386 =>
  Res.req (cutT _law_text none (some y352.1)) fun y388 =>
  Res.req (addS _law_text y360) fun y390 =>
  Res.req (addS y360 _law_text) fun y392 =>
  Res.req (cutT _law_text none (some y356.1)) fun y394 =>
  Res.req (cutT _law_text (some y352.1) none) fun y396 =>
  Res.req (addS y394 y396) fun y398 =>
  Res.req (addS _law_text "/") fun y400 =>
  Res.req (addS y400 _law_text) fun y402 =>
  Res.req (addS _law_text " ") fun y404 =>
  Res.req (addS y404 _law_text) fun y406 =>
  Res.req (cat y386 [(y388 : Str), (y390 : Str), (y392 : Str), (y398 : Str), (y402 : Str), (y406 : Str)]) fun y408 =>
  Res.req (revT' _law_text) fun y410 =>
  Res.req (cutT _law_text none (some y352.1)) fun y412 =>
  Res.req (cutT _law_text (some y352.1) (some (y352.1 + (2 : Int)))) fun y414 =>
  Res.req (revT' y414) fun y416 =>
  Res.req (addS y412 y416) fun y418 =>
  Res.req (cutT _law_text (some (y352.1 + (2 : Int))) none) fun y420 =>
  Res.req (addS y418 y420) fun y422 =>
  Res.req (cat y408 [(y410 : Str), (y422 : Str)]) fun y424 =>
  .ok (y424, y358.2)
def sp_l_bent (K : Frag) : Sp := fun vs H Q E => ∃ (_law_generator_here : (List Int)) (_law_text : Str) (p__law_generator_here : Addr) (ω : List Ent) (G : Hp), PArgs G vs [adr p__law_generator_here, is K _law_text] ∧ At G (.own p__law_generator_here (olst K (_law_generator_here : (List Int))) :: ω) H ∧ Says K G (.own p__law_generator_here (olst K (_law_generator_here : (List Int))) :: ω) (m_l_bent _law_generator_here _law_text) (fun (r : ((List Str) × (List Int))) => RS.val (is K r.1) (.own p__law_generator_here (olst K (r.2 : (List Int))) :: ω)) Q E
theorem use_l_bent {E : XK} {ω : List Ent} {_law_generator_here : (List Int)} {_law_text : Str} {p__law_generator_here : Addr} {k : Nat} (ho : ω[k]? = some (Ent.own p__law_generator_here (olst K (_law_generator_here : (List Int))))) : SpR K (sp_l_bent K) E [adr p__law_generator_here, is K _law_text] ω ω (m_l_bent _law_generator_here _law_text) (fun (r : ((List Str) × (List Int))) => RS.val (is K r.1) (ω.set k (.own p__law_generator_here (olst K (r.2 : (List Int)))))) := fun G H vs Q pa w s => ⟨_law_generator_here, _law_text, p__law_generator_here, ω.eraseIdx k, G, pa, w.front ho, Says.front (φ := olst K (_law_generator_here : (List Int))) (φ' := fun (r : ((List Str) × (List Int))) => olst K (r.2 : (List Int))) (f1 := fun (r : ((List Str) × (List Int))) => is K r.1) ho s⟩
theorem ok_l_bent (T : Txt K mg) : FnOk PR w K mg base (L2.CX PR w) 3 (He.fAd K ("_law_bent", none)) T.fd_l_bent ["_law_generator_here", "_law_text"] (sp_l_bent K) := by
  refine T.F_l_bent.ok sc_l_bent (fun vs H Q E h => ?_) (fun cdv A outer s H vs Q E hr h => ⟨_, PSs.nox ((pss_cons (ps_par (i := 2) (j := 3) rfl sc_l_bent.nd rfl rfl (by decide) rfl rfl (pa_cons (pe_call (ok_l_random T) (hr.mono (by decide)) rfl T.g_l_random T.F_l_random.kp (b_l_random T) .nil passF (pa_cons (pv 0) (pa_cons (pe_op op_add (pe_callB call_len_str rfl T.fr_len (by decide +kernel) (pa_cons (pv 1) pa_nil)) pe_int) pa_nil))) (pa_cons (pe_call (ok_l_random T) (hr.mono (by decide)) rfl T.g_l_random T.F_l_random.kp (b_l_random T) .nil passF (pa_cons (pv 0) (pa_cons (pe_op op_add (pe_callB call_len_str rfl T.fr_len (by decide +kernel) (pa_cons (pv 1) pa_nil)) pe_int) pa_nil))) pa_nil)) rfl)
      (pss_cons (ps_set (i := 4) sc_l_bent.nd rfl (by first | exact .inl rfl | exact .inr rfl) (pe_ix ix_list (pe_lst (pa_cons pe_str (pa_cons pe_str (pa_cons pe_str (pa_cons pe_str (pa_cons pe_str (pa_cons pe_str (pa_cons pe_str (pa_cons pe_str (pa_cons pe_str (pa_cons pe_str (pa_cons pe_str (pa_cons pe_str (pa_cons pe_str (pa_cons pe_str pa_nil))))))))))))))) (pe_call (ok_l_random T) (hr.mono (by decide)) rfl T.g_l_random T.F_l_random.kp (b_l_random T) .nil passF (pa_cons (pv 0) (pa_cons pe_int pa_nil))) (fun _ _ => rfl)))
      (pss_cons (ps_set (i := 5) sc_l_bent.nd rfl (by first | exact .inl rfl | exact .inr rfl) (pe_lst (pa_cons (pe_op op_add_str (pe_slice sl_str (pv 1) po_none (po_some (pv 2))) (pe_slice sl_str (pv 1) (po_some (pe_op op_add (pv 2) pe_int)) po_none)) (pa_cons (pe_op op_add_str (pe_op op_add_str (pe_slice sl_str (pv 1) po_none (po_some (pv 2))) (pv 4)) (pe_slice sl_str (pv 1) (po_some (pv 2)) po_none)) (pa_cons (pe_op op_add_str (pe_op op_add_str (pe_slice sl_str (pv 1) po_none (po_some (pv 2))) (pv 4)) (pe_slice sl_str (pv 1) (po_some (pe_op op_add (pv 2) pe_int)) po_none)) (pa_cons (pe_slice sl_str (pv 1) (po_some (pv 2)) po_none) pa_nil))))))
      (pss_cons (ps_set (i := 5) sc_l_bent.nd rfl (by first | exact .inl rfl | exact .inr rfl) (pe_op op_cat (pv 5) (pe_lst (pa_cons (pe_slice sl_str (pv 1) po_none (po_some (pv 2))) (pa_cons (pe_op op_add_str (pv 1) (pv 4)) (pa_cons (pe_op op_add_str (pv 4) (pv 1)) (pa_cons (pe_op op_add_str (pe_slice sl_str (pv 1) po_none (po_some (pv 3))) (pe_slice sl_str (pv 1) (po_some (pv 2)) po_none)) (pa_cons (pe_op op_add_str (pe_op op_add_str (pv 1) pe_str) (pv 1)) (pa_cons (pe_op op_add_str (pe_op op_add_str (pv 1) pe_str) (pv 1)) pa_nil)))))))))
      (pss_one (ps_ret (pe_op op_cat (pv 5) (pe_lst (pa_cons (Zs.pe_revS (pv 1)) (pa_cons (pe_op op_add_str (pe_op op_add_str (pe_slice sl_str (pv 1) po_none (po_some (pv 2))) (Zs.pe_revS (pe_slice sl_str (pv 1) (po_some (pv 2)) (po_some (pe_op op_add (pv 2) pe_int))))) (pe_slice sl_str (pv 1) (po_some (pe_op op_add (pv 2) pe_int)) po_none)) pa_nil))))))))))), ?_⟩)
  · obtain ⟨_, _, _, _, _, pa, _, _⟩ := h
    exact pa.len
  · obtain ⟨_law_generator_here, _law_text, p__law_generator_here, ω, G, pa, wA, sy⟩ := h
    try dsimp only [L2.cxOf, L2.Cx.nox, L2.Cx.wish]
    refine Go.fin (Γ := [some (adr p__law_generator_here), some (is K _law_text), none, none, none, none]) (fo := (fun (r : ((List Str) × (List Int))) => RS.val (is K r.1) (.own p__law_generator_here (olst K (r.2 : (List Int))) :: ω))) (ω := .own p__law_generator_here (olst K (_law_generator_here : (List Int))) :: ω) (ωe := .own p__law_generator_here (olst K (_law_generator_here : (List Int))) :: ω) (?_) pa rfl wA sy
    unfold m_l_bent
    exact Go.req fun y350 h351 =>
  Go.req fun y352 h353 =>
  Go.req fun y354 h355 =>
  Go.req fun y356 h357 =>
  Go.par (i := 2) (j := 3) (EvA.cons (EvX.call (EvA.cons (EvX.var (i := 0) rfl) (EvA.cons (EvX.op (EvX.ca (EvA.cons (EvX.var (i := 1) rfl) EvA.nil) (CaX.lenTx h351)) EvX.int OpX.add) EvA.nil)) (use_l_random (k := 0) rfl) (val_ok h353) rfl) (EvA.cons (EvX.call (EvA.cons (EvX.var (i := 0) rfl) (EvA.cons (EvX.op (EvX.ca (EvA.cons (EvX.var (i := 1) rfl) EvA.nil) (CaX.lenTx h355)) EvX.int OpX.add) EvA.nil)) (use_l_random (k := 0) rfl) (val_ok h357) rfl) EvA.nil)) (
  Go.req fun y358 h359 =>
  Go.req fun y360 h361 =>
  Go.asg (i := 4) (EvX.op (EvX.fr (EvF.lst (EvA.cons EvX.str (EvA.cons EvX.str (EvA.cons EvX.str (EvA.cons EvX.str (EvA.cons EvX.str (EvA.cons EvX.str (EvA.cons EvX.str (EvA.cons EvX.str (EvA.cons EvX.str (EvA.cons EvX.str (EvA.cons EvX.str (EvA.cons EvX.str (EvA.cons EvX.str (EvA.cons EvX.str EvA.nil)))))))))))))) rfl (by show 14 ≤ sizeLine; decide))) (EvX.call (EvA.cons (EvX.var (i := 0) rfl) (EvA.cons EvX.int EvA.nil)) (use_l_random (k := 0) rfl) (val_ok h359) rfl) (OpX.ixL h361)) (
  Go.req fun y362 h363 =>
  Go.req fun y364 h365 =>
  Go.req fun y366 h367 =>
  Go.req fun y368 h369 =>
  Go.req fun y370 h371 =>
  Go.req fun y372 h373 =>
  Go.req fun y374 h375 =>
  Go.req fun y376 h377 =>
  Go.req fun y378 h379 =>
  Go.req fun y380 h381 =>
  Go.req fun y382 h383 =>
  Go.req fun y384 h385 =>
  Go.req fun y386 h387 =>
  Go.asg (i := 5) (EvX.eq (EvX.fr (EvF.lst (EvA.cons (EvX.op (EvX.slS (EvX.var (i := 1) rfl) EvO.none (EvO.some (K := K) (EvX.var (i := 2) rfl)) h363) (EvX.slS (EvX.var (i := 1) rfl) (EvO.some (K := K) (EvX.op (EvX.var (i := 2) rfl) EvX.int OpX.add)) EvO.none h365) (OpX.addS h367)) (EvA.cons (EvX.op (EvX.op (EvX.slS (EvX.var (i := 1) rfl) EvO.none (EvO.some (K := K) (EvX.var (i := 2) rfl)) h369) (EvX.var (i := 4) rfl) (OpX.addS h371)) (EvX.slS (EvX.var (i := 1) rfl) (EvO.some (K := K) (EvX.var (i := 2) rfl)) EvO.none h373) (OpX.addS h375)) (EvA.cons (EvX.op (EvX.op (EvX.slS (EvX.var (i := 1) rfl) EvO.none (EvO.some (K := K) (EvX.var (i := 2) rfl)) h377) (EvX.var (i := 4) rfl) (OpX.addS h379)) (EvX.slS (EvX.var (i := 1) rfl) (EvO.some (K := K) (EvX.op (EvX.var (i := 2) rfl) EvX.int OpX.add)) EvO.none h381) (OpX.addS h383)) (EvA.cons (EvX.slS (EvX.var (i := 1) rfl) (EvO.some (K := K) (EvX.var (i := 2) rfl)) EvO.none h385) EvA.nil)))) rfl (by show 4 ≤ sizeLine; decide))) (Option.some.inj h387)) (
  Go.req fun y388 h389 =>
  Go.req fun y390 h391 =>
  Go.req fun y392 h393 =>
  Go.req fun y394 h395 =>
  Go.req fun y396 h397 =>
  Go.req fun y398 h399 =>
  Go.req fun y400 h401 =>
  Go.req fun y402 h403 =>
  Go.req fun y404 h405 =>
  Go.req fun y406 h407 =>
  Go.req fun y408 h409 =>
  Go.asg (i := 5) (EvX.fr (EvF.op (EvX.var (i := 5) rfl) (EvX.fr (EvF.lst (EvA.cons (EvX.slS (EvX.var (i := 1) rfl) EvO.none (EvO.some (K := K) (EvX.var (i := 2) rfl)) h389) (EvA.cons (EvX.op (EvX.var (i := 1) rfl) (EvX.var (i := 4) rfl) (OpX.addS h391)) (EvA.cons (EvX.op (EvX.var (i := 4) rfl) (EvX.var (i := 1) rfl) (OpX.addS h393)) (EvA.cons (EvX.op (EvX.slS (EvX.var (i := 1) rfl) EvO.none (EvO.some (K := K) (EvX.var (i := 3) rfl)) h395) (EvX.slS (EvX.var (i := 1) rfl) (EvO.some (K := K) (EvX.var (i := 2) rfl)) EvO.none h397) (OpX.addS h399)) (EvA.cons (EvX.op (EvX.op (EvX.var (i := 1) rfl) EvX.str (OpX.addS h401)) (EvX.var (i := 1) rfl) (OpX.addS h403)) (EvA.cons (EvX.op (EvX.op (EvX.var (i := 1) rfl) EvX.str (OpX.addS h405)) (EvX.var (i := 1) rfl) (OpX.addS h407)) EvA.nil)))))) rfl (by show 6 ≤ sizeLine; decide))) (OpF.cat h409))) (
  Go.req fun y410 h411 =>
  Go.req fun y412 h413 =>
  Go.req fun y414 h415 =>
  Go.req fun y416 h417 =>
  Go.req fun y418 h419 =>
  Go.req fun y420 h421 =>
  Go.req fun y422 h423 =>
  Go.req fun y424 h425 =>
  Go.ret (EvX.fr (EvF.op (EvX.var (i := 5) rfl) (EvX.fr (EvF.lst (EvA.cons (EvX.revS (EvX.var (i := 1) rfl) h411) (EvA.cons (EvX.op (EvX.op (EvX.slS (EvX.var (i := 1) rfl) EvO.none (EvO.some (K := K) (EvX.var (i := 2) rfl)) h413) (EvX.revS (EvX.slS (EvX.var (i := 1) rfl) (EvO.some (K := K) (EvX.var (i := 2) rfl)) (EvO.some (K := K) (EvX.op (EvX.var (i := 2) rfl) EvX.int OpX.add)) h415) h417) (OpX.addS h419)) (EvX.slS (EvX.var (i := 1) rfl) (EvO.some (K := K) (EvX.op (EvX.var (i := 2) rfl) EvX.int OpX.add)) EvO.none h421) (OpX.addS h423)) EvA.nil)) rfl (by show 2 ≤ sizeLine; decide))) (OpF.cat h425))) rfl (Dr.refl _)))))
def m_law (_law_script : Sc) : Res Bool :=
  Res.req (irng (0 : Int) (5 : Int)) fun y426 =>
  Res.after (Res.loop (fun (s428 : Unit) (x429 : Int) =>
  Res.req (Res.val (m_l_generator _law_script x429)) fun y430 =>
  Res.req (Res.val (m_l_rows y430 (5 : Int))) fun y433 =>
  Res.req (mapO (fun (x435 : (List Int)) => (Option.bind (mapO (fun (x440 : Int) => (Option.bind (strO x440) fun y445 => (some (some y445)))) x435) fun y447 => (Option.bind (joinO " " y447) fun y449 => (some (some y449))))) y433.1) fun y451 =>
  Res.req (joinO " / " y451) fun y453 =>
  Res.req (Res.val (m_l_bent y433.2 y453)) fun y455 =>
  Res.req (mapO (fun (x457 : Str) => (Option.bind (Res.val (m_l_right x457)) fun y462 => (if (!y462) then (some (some x457)) else some none))) y455.1) fun y464 =>
  (if (!(y464 : (List Str)).isEmpty) then Res.esc (.ok false) else
  .ok (.nx ()))) y426 ()) (fun (s469 : Unit) =>
  Res.req (some [("" : Str), (" " : Str), ("/" : Str), ("1 /" : Str), ("/ 1" : Str), ("1 / / 2" : Str), ("1/2/3/4" : Str), ("0" : Str), ("1 0" : Str), ("01" : Str), ("1,2" : Str), ("-1" : Str), ("+1" : Str), ("1.0" : Str), ("1_0" : Str)]) fun y471 =>
  Res.req (timesS "9" (30 : Int)) fun y473 =>
  Res.req (timesS "9" (31 : Int)) fun y475 =>
  Res.req (timesS "9" (4400 : Int)) fun y477 =>
  Res.req (cat y471 [("1 2 / 3" : Str), (y473 : Str), (y475 : Str), (y477 : Str), ("1\t2" : Str), ("1//2" : Str), ("1 \n / \n 2" : Str), (" 5 " : Str)]) fun y479 =>
  Res.req (cat y479 [("1 /2/ 3" : Str), ("[1]" : Str), ("1e1" : Str), ("x" : Str)]) fun y481 =>
  Res.req (mapO (fun (x483 : Str) => (Option.bind (Res.val (m_l_right x483)) fun y488 => (if (!y488) then (some (some x483)) else some none))) y481) fun y490 =>
  (if (!(y490 : (List Str)).isEmpty) then .ok false else
  Res.after (Res.loop (fun (s495 : Unit) (x496 : PV) =>
  Res.bind (Res.caught ["InvalidText"] (m_read_counter x496)) fun y497 =>
  Res.req (if y497.isNone then some true else (Option.bind (valE ["InvalidText"] y497) fun y499 => (Option.bind (toldP y499) fun y501 => (Option.bind (toldP x496) fun y503 => (some (!decide (y501 = y503))))))) fun y505 =>
  (if y505 then Res.esc (.ok false) else
  .ok (.nx ()))) [(PV.of (() : Unit)), (PV.of ((3 : Int) : Int)), (PV.of ([("1" : Str)] : (List Str))), (PV.of ((Tu.mk [("1" : Str)]) : (Tu Str))), PV.edict, (PV.of (true : Bool)), (PV.of ([[("1" : Str)]] : (List (List Str)))), (PV.of ((0 : Int) : Int))] ()) (fun (s510 : Unit) =>
  .ok true) .ok)) .ok
def sp_law (K : Frag) : Sp := fun vs H Q E => ∃ (_law_script : Sc) (ω : List Ent) (G : Hp), _law_script.l.length ≤ 63 ∧ PArgs G vs [is K _law_script] ∧ At G (ω) H ∧ Says K G (ω) (m_law _law_script) (fun (r : Bool) => RS.val (is K r) (ω)) Q E
theorem use_law {E : XK} {ω : List Ent} {_law_script : Sc} (hsc : _law_script.l.length ≤ 63) : SpR K (sp_law K) E [is K _law_script] (ω) (ω) (m_law _law_script) (fun (r : Bool) => RS.val (is K r) (ω)) := fun G H vs Q pa w s => ⟨_law_script, ω, G, hsc, pa, w, s⟩
theorem ok_law (T : Txt K mg) : RC.FnOkG PR w K mg base (L2.CX PR w) 7 (He.fAd K ("law", none)) T.fd_law ["_law_script"] (sp_law K) := by
  refine RC.okG T.F_law sc_law (fun vs H Q E h => ?_) (fun cdv A outer s H vs Q E hg hr h => ⟨_, PSs.nox ((pss_cons (ps_for PassesOwn.never rfl (pi_range1 rfl T.fr_range (pa_cons pe_int pa_nil)) (pg_name (i := 1) sc_law.nd rfl (by first | exact .inl rfl | exact .inr rfl))
      (pss_cons (ps_set (i := 2) sc_law.nd rfl (by first | exact .inl rfl | exact .inr rfl) (pe_call (ok_l_generator T) (hr.mono (by decide)) rfl T.g_l_generator T.F_l_generator.kp (b_l_generator T) .nil passF (pa_cons (pv 0) (pa_cons (pv 1) pa_nil))))
      (pss_cons (ps_set (i := 3) sc_law.nd rfl (by first | exact .inl rfl | exact .inr rfl) (pe_call (ok_l_rows T) (hr.mono (by decide)) rfl T.g_l_rows T.F_l_rows.kp (b_l_rows T) .nil passF (pa_cons (pv 2) (pa_cons pe_int pa_nil))))
      (pss_cons (ps_set (i := 4) sc_law.nd rfl (by first | exact .inl rfl | exact .inr rfl) (pe_m1 PySem.F.slot_str_join PySem.F.type_str_join Zs.mt_joinK pe_str (pe_lc (own := [("_law_worths", 9)]) rfl sc_law.nd (pi_list (pv 3)) (blkOk_by (N := N_law) (sc := defScope s_law) (by decide +kernel)) (fun _ _ _ _ _ => (pg_name (i := 9) sc_law.nd rfl (by first | exact .inl rfl | exact .inr rfl))) (fun _ _ _ _ _ => pts_nil) (fun _ _ _ _ _ => (pe_m1 PySem.F.slot_str_join PySem.F.type_str_join (RC.kOf Zs.rJoin (K := K) Zs.mt_joinK rfl) pe_str (pe_lc (own := [("_law_worth", 11)]) rfl sc_law.nd (RC.kOf (fun K => iList K (tVar 9)) (K := K) (pi_list (pv 9)) rfl) (blkOk_by (N := N_law) (sc := blkSc (lcSc (argOf ((inBody ((defBody s_law).getD 0 (.Pass ⟨0, 0, 0, 0⟩))).getD 2 (.Pass ⟨0, 0, 0, 0⟩)))) (defScope s_law)) (by decide +kernel)) (fun _ _ _ _ _ => (pg_name (i := 11) sc_law.nd rfl (by first | exact .inl rfl | exact .inr rfl))) (fun _ _ _ _ _ => pts_nil) (fun _ _ _ _ _ => (pe_callTy Zs.call_strI rfl T.fr_str (by decide +kernel) (pa_cons (pv 11) pa_nil)))))))))
      (pss_one (ps_if (pt_cmpR (op_neE (by exact hr.units0)) (pe_lc (own := [("_law_some", 10)]) rfl sc_law.nd (pi_list (pe_call (ok_l_bent T) (hr.mono (by decide)) rfl T.g_l_bent T.F_l_bent.kp (b_l_bent T) .nil passF (pa_cons (pv 2) (pa_cons (pv 4) pa_nil)))) (blkOk_by (N := N_law) (sc := defScope s_law) (by decide +kernel)) (fun _ _ _ _ _ => (pg_name (i := 10) sc_law.nd rfl (by first | exact .inl rfl | exact .inr rfl))) (fun _ _ _ _ _ => (pts_one (pt_not (pt_val (RC.pe_callG (ok_l_right T) hg (hr.mono (by decide)) rfl T.g_l_right T.F_l_right.kp (b_l_right T) .nil passF (pa_cons (pv 10) pa_nil)))))) (fun _ _ _ _ _ => (pv 10))) (pe_lst pa_nil) (nomark _)) (pss_one (ps_ret pe_bl)) pss_nil))))))
      (pss_cons (ps_set (i := 5) sc_law.nd rfl (by first | exact .inl rfl | exact .inr rfl) (pe_lst (pa_cons pe_str (pa_cons pe_str (pa_cons pe_str (pa_cons pe_str (pa_cons pe_str (pa_cons pe_str (pa_cons pe_str (pa_cons pe_str (pa_cons pe_str (pa_cons pe_str (pa_cons pe_str (pa_cons pe_str (pa_cons pe_str (pa_cons pe_str (pa_cons pe_str pa_nil)))))))))))))))))
      (pss_cons (ps_set (i := 5) sc_law.nd rfl (by first | exact .inl rfl | exact .inr rfl) (pe_op op_cat (pv 5) (pe_lst (pa_cons pe_str (pa_cons (pe_op Zs.op_timesS pe_str pe_int) (pa_cons (pe_op Zs.op_timesS pe_str pe_int) (pa_cons (pe_op Zs.op_timesS pe_str pe_int) (pa_cons pe_str (pa_cons pe_str (pa_cons pe_str (pa_cons pe_str pa_nil)))))))))))
      (pss_cons (ps_set (i := 5) sc_law.nd rfl (by first | exact .inl rfl | exact .inr rfl) (pe_op op_cat (pv 5) (pe_lst (pa_cons pe_str (pa_cons pe_str (pa_cons pe_str (pa_cons pe_str pa_nil)))))))
      (pss_cons (ps_if (pt_cmpR (op_neE (by exact hr.units0)) (pe_lc (own := [("_law_text", 4)]) rfl sc_law.nd (pi_list (pv 5)) (blkOk_by (N := N_law) (sc := defScope s_law) (by decide +kernel)) (fun _ _ _ _ _ => (pg_name (i := 4) sc_law.nd rfl (by first | exact .inl rfl | exact .inr rfl))) (fun _ _ _ _ _ => (pts_one (pt_not (pt_val (RC.pe_callG (ok_l_right T) hg (hr.mono (by decide)) rfl T.g_l_right T.F_l_right.kp (b_l_right T) .nil passF (pa_cons (pv 4) pa_nil)))))) (fun _ _ _ _ _ => (pv 4))) (pe_lst pa_nil) (nomark _)) (pss_one (ps_ret pe_bl)) pss_nil)
      (pss_cons (ps_for PassesOwn.never rfl (pi_list (pe_lst (pa_cons pe_non (pa_cons pe_int (pa_cons (pe_lst (pa_cons pe_str pa_nil)) (pa_cons (pe_tup (pa_cons pe_str pa_nil)) (pa_cons pe_dnewK (pa_cons pe_bl (pa_cons (pe_lst (pa_cons (pe_lst (pa_cons pe_str pa_nil)) pa_nil)) (pa_cons pe_int pa_nil)))))))))) (pg_name (i := 6) sc_law.nd rfl (by first | exact .inl rfl | exact .inr rfl))
      (pss_cons (ps_set (i := 7) sc_law.nd rfl (by first | exact .inl rfl | exact .inr rfl) pe_non)
      (pss_cons (RC.ps_keep (i := 8) (j := 7) rfl rfl rfl sc_law.nd rfl rfl (by decide) rfl rfl ⟨rfl, by decide, .inl T.g_InvalidText⟩ (by decide) (by decide) rfl (fun W pn xe tk _ => (pss_one (ps_expr (pe_callS (ok_read_counter T) (hr.mono (by decide)) rfl T.g_read_counter T.F_read_counter.kp (b_read_counter T) (fun σ => passAt tk σ) (pa_cons (pv 6) pa_nil))))))
      (pss_one (ps_if (PW.pt (pw_or (pt_cmpR op_isN (pv 7) pe_non (nomark _)) (pw_or1 (pt_cmpR op_ne (pe_callB (RC.call_reprX hg (hr.mono (by decide))) rfl T.fr_repr (by decide +kernel) (pa_cons (RC.pe_fldE (pv 7)) pa_nil)) (pe_callB (RC.call_reprX hg (hr.mono (by decide))) rfl T.fr_repr (by decide +kernel) (pa_cons (pv 6) pa_nil)) (nomark _))))) (pss_one (ps_ret pe_bl)) pss_nil)))))
      (pss_one (ps_ret pe_bl))))))))), ?_⟩)
  · obtain ⟨_, _, _, _, pa, _, _⟩ := h
    exact pa.len
  · obtain ⟨_law_script, ω, G, hsc, pa, wA, sy⟩ := h
    try dsimp only [L2.cxOf, L2.Cx.nox, L2.Cx.wish]
    refine Go.fin (Γ := [some (is K _law_script), none, none, none, none, none, none, none, none, none, none, none]) (fo := (fun (r : Bool) => RS.val (is K r) (ω))) (ω := ω) (ωe := ω) (?_) pa rfl wA sy
    unfold m_law
    exact Go.req fun y426 h427 =>
  Go.seqR (fn := (fun (s428 : Unit) => ([some (is K (_law_script : Sc)), none, none, none, none, none, none, none, none, none, none, none], (ω)))) (Go.forC (IterX.rng1 (EvA.cons EvX.int EvA.nil) h427) (Sub.keep (Sub.keep (Sub.keep (Sub.keep (Sub.keep (Sub.keep (Sub.keep (Sub.keep (Sub.keep (Sub.keep (Sub.keep (Sub.keep Sub.nil)))))))))))) (Dr.refl _) (fun _ => trivial) (fun s428 => TgX.name) fun s428 x429 =>
  Go.req fun y430 h431 =>
  Go.asgF (i := 2) (φ := olst K (y430 : (List Int))) (EvF.call (EvA.cons (EvX.var (i := 0) rfl) (EvA.cons (EvX.var (i := 1) rfl) EvA.nil)) (use_l_generator hsc) (val_ok h431) rfl) fun p432 =>
  Go.req fun y433 h434 =>
  Go.asg (i := 3) (EvX.call (EvA.cons (EvX.var (i := 2) rfl) (EvA.cons EvX.int EvA.nil)) (use_l_rows (k := 0) rfl) (val_ok h434) rfl) (
  Go.req fun y451 h452 =>
  Go.req fun y453 h454 =>
  Go.asg (i := 4) (EvX.join EvX.str (EvX.fr (EvF.lc (IterX.list (EvX.var (i := 3) rfl)) trivial (fun _ _ _ => trivial) (TgW.name (by decide)) h452 fun x435 o438 p436 f437 q439 => (bindO q439 fun y447 h448 q439 => (bindO q439 fun y449 h450 q439 => (Elt.all (EvX.join EvX.str (EvX.fr (EvF.lc (IterX.list (EvX.var (i := 9) rfl)) trivial (fun _ _ _ => trivial) (TgW.name (by decide)) h448 fun x440 o443 p441 f442 q444 => (bindO q444 fun y445 h446 q444 => (Elt.all (EvX.ca (EvA.cons (EvX.var (i := 11) rfl) EvA.nil) (CaX.strI h446)) q444)))) h450) q439))))) h454) (
  Go.req fun y455 h456 =>
  Go.req fun y464 h465 =>
  Go.last (Go.ifEC (EvT.test (EvX.op (EvX.fr (EvF.lcI (IterX.list (EvX.call (EvA.cons (EvX.var (i := 2) rfl) (EvA.cons (EvX.var (i := 4) rfl) EvA.nil)) (use_l_bent (k := 0) rfl) (val_ok h456) rfl)) trivial (fun _ _ _ => trivial) (TgW.name (by decide)) h465 fun x457 o460 p458 f459 q461 => (bindO q461 fun y462 h463 q461 => (Elt.iteO (EvT.not (EvT.B (EvX.call (EvA.cons (EvX.var (i := 10) rfl) EvA.nil) (use_l_right) (val_ok h463) rfl))) (fun _ q466 => ⟨_, (Option.some.inj q466).symm, (EvX.var (i := 10) rfl)⟩) q461)))) (EvX.fr (EvF.lst (α := Int) (xs := []) EvA.nil rfl (by show 0 ≤ sizeLine; decide))) (OpX.neE LstAt.of))) (fun h467 =>
  Go.ret EvX.bl rfl (Dr.drop (Dr.refl _))) (fun h468 =>
  Go.nextC (Sub.keep (Sub.lose (Sub.lose (Sub.lose (Sub.lose (Sub.keep (Sub.keep (Sub.keep (Sub.keep (Sub.keep (Sub.keep (Sub.keep Sub.nil)))))))))))) (Dr.drop (Dr.refl _))))))) fun s469 h470 =>
  Go.req fun y471 h472 =>
  Go.asg (i := 5) (EvX.eq (EvX.fr (EvF.lst (EvA.cons EvX.str (EvA.cons EvX.str (EvA.cons EvX.str (EvA.cons EvX.str (EvA.cons EvX.str (EvA.cons EvX.str (EvA.cons EvX.str (EvA.cons EvX.str (EvA.cons EvX.str (EvA.cons EvX.str (EvA.cons EvX.str (EvA.cons EvX.str (EvA.cons EvX.str (EvA.cons EvX.str (EvA.cons EvX.str EvA.nil))))))))))))))) rfl (by show 15 ≤ sizeLine; decide))) (Option.some.inj h472)) (
  Go.req fun y473 h474 =>
  Go.req fun y475 h476 =>
  Go.req fun y477 h478 =>
  Go.req fun y479 h480 =>
  Go.asg (i := 5) (EvX.fr (EvF.op (EvX.var (i := 5) rfl) (EvX.fr (EvF.lst (EvA.cons EvX.str (EvA.cons (EvX.op EvX.str EvX.int (OpX.timesS h474)) (EvA.cons (EvX.op EvX.str EvX.int (OpX.timesS h476)) (EvA.cons (EvX.op EvX.str EvX.int (OpX.timesS h478)) (EvA.cons EvX.str (EvA.cons EvX.str (EvA.cons EvX.str (EvA.cons EvX.str EvA.nil)))))))) rfl (by show 8 ≤ sizeLine; decide))) (OpF.cat h480))) (
  Go.req fun y481 h482 =>
  Go.asg (i := 5) (EvX.fr (EvF.op (EvX.var (i := 5) rfl) (EvX.fr (EvF.lst (EvA.cons EvX.str (EvA.cons EvX.str (EvA.cons EvX.str (EvA.cons EvX.str EvA.nil)))) rfl (by show 4 ≤ sizeLine; decide))) (OpF.cat h482))) (
  Go.req fun y490 h491 =>
  Go.ifE (EvT.test (EvX.op (EvX.fr (EvF.lc (IterX.list (EvX.var (i := 5) rfl)) trivial (fun _ _ _ => trivial) (TgW.name (by decide)) h491 fun x483 o486 p484 f485 q487 => (bindO q487 fun y488 h489 q487 => (Elt.iteO (EvT.not (EvT.B (EvX.call (EvA.cons (EvX.var (i := 4) rfl) EvA.nil) (use_l_right) (val_ok h489) rfl))) (fun _ q492 => ⟨_, (Option.some.inj q492).symm, (EvX.var (i := 4) rfl)⟩) q487)))) (EvX.fr (EvF.lst (α := Int) (xs := []) EvA.nil rfl (by show 0 ≤ sizeLine; decide))) (OpX.neE LstAt.of))) (fun h493 =>
  Go.ret EvX.bl rfl (Dr.refl _)) (fun h494 =>
  Go.seqR (fn := (fun (s495 : Unit) => ([some (is K (_law_script : Sc)), none, none, none, none, some (is K (y481 : (List Str))), none, none, none, none, none, none], (ω)))) (Go.forC (IterX.list (EvX.fr (EvF.lst (EvA.cons (EvX.any (x := (() : Unit)) (EvX.unit (K := K))) (EvA.cons (EvX.any (x := ((3 : Int) : Int)) EvX.int) (EvA.cons (EvX.any (x := ([("1" : Str)] : (List Str))) (EvX.fr (EvF.lst (EvA.cons EvX.str EvA.nil) rfl (by show 1 ≤ sizeLine; decide)))) (EvA.cons (EvX.any (x := ((Tu.mk [("1" : Str)]) : (Tu Str))) (EvX.tu (EvA.cons EvX.str EvA.nil) rfl (by show 1 ≤ sizeLine; decide))) (EvA.cons (EvX.edict (EvX.frD EvF.dnew)) (EvA.cons (EvX.any (x := (true : Bool)) EvX.bl) (EvA.cons (EvX.any (x := ([[("1" : Str)]] : (List (List Str)))) (EvX.fr (EvF.lst (EvA.cons (EvX.fr (EvF.lst (EvA.cons EvX.str EvA.nil) rfl (by show 1 ≤ sizeLine; decide))) EvA.nil) rfl (by show 1 ≤ sizeLine; decide)))) (EvA.cons (EvX.any (x := ((0 : Int) : Int)) EvX.int) EvA.nil)))))))) rfl (by show 8 ≤ sizeLine; decide)))) (Sub.keep (Sub.keep (Sub.keep (Sub.keep (Sub.keep (Sub.keep (Sub.keep (Sub.keep (Sub.keep (Sub.keep (Sub.keep (Sub.keep Sub.nil)))))))))))) (Dr.refl _) (fun _ => trivial) (fun s495 => TgX.name) fun s495 x496 =>
  Go.asg (i := 7) (EvX.non (K := K)) (
  Go.tryC (i := 8) (j := 7) (L := ["InvalidText"]) (EvA.cons (EvX.var (i := 6) rfl) EvA.nil) (fun _ => (use_read_counter)) (fun _ _ => rfl) (xms_InvalidText T) (by decide) (Sub.keep (Sub.keep (Sub.keep (Sub.keep (Sub.keep (Sub.keep (Sub.keep (Sub.keep (Sub.keep (Sub.keep (Sub.keep (Sub.keep Sub.nil)))))))))))) fun y497 h498 =>
  Go.req fun y505 h506 =>
  Go.last (Go.ifEC (EvT.orO (EvT.test (EvX.op (EvX.var (i := 7) rfl) (EvX.unit (K := K)) (OpX.isN non_unit))) (fun _ q507 => (bindO q507 fun y499 h500 q507 => (bindO q507 fun y501 h502 q507 => (bindO q507 fun y503 h504 q507 => (EvT.eq (EvT.test (EvX.op (EvX.ca (EvA.cons (EvX.valE (EvX.var (i := 7) rfl) (errs_InvalidText T) h500) EvA.nil) (CaX.toldP h502)) (EvX.ca (EvA.cons (EvX.var (i := 6) rfl) EvA.nil) (CaX.toldP h504)) OpX.ne)) (Option.some.inj q507)))))) h506) (fun h508 =>
  Go.ret EvX.bl rfl (Dr.refl _)) (fun h509 =>
  Go.nextC (Sub.keep (Sub.keep (Sub.keep (Sub.keep (Sub.keep (Sub.keep (Sub.lose (Sub.lose (Sub.keep (Sub.keep (Sub.keep (Sub.keep Sub.nil)))))))))))) (Dr.refl _))))) fun s510 h511 =>
  Go.ret EvX.bl rfl (Dr.refl _)))))
end
end Mi
/-! ## Signs, words, parts: two ways to read the same -/
namespace Px
open PySem SX
def dig (c : Nat) : Bool := decide (48 ≤ c) && decide (c ≤ 57)
/-- the word under way, if any -/
def close (acc : List Nat) : List (List Nat) := if acc = [] then [] else [acc]
abbrev St := List (List Nat) × List Nat
def sw (s : St) (c : Nat) : St := if c = 32 then (s.1 ++ close s.2, []) else (s.1, s.2 ++ [c])
def fin (s : St) : List (List Nat) := s.1 ++ close s.2
/-- parts by 47, words by 32 -/
def Lw : St → List Nat → List (List (List Nat))
  | s, [] => [fin s]
  | s, c :: r => if c = 47 then fin s :: Lw ([], []) r else Lw (sw s c) r
def ne (w : List Nat) : Bool := !decide (w = [])
def wordsOf (p : List Nat) : List (List Nat) := (TL.spl [32] 0 [] p).filter ne
theorem pre1 {s c : Nat} {r : List Nat} : TL.pre [s] (c :: r) = decide (c = s) := by
  unfold TL.pre
  by_cases h : c = s
  · subst h
    simp
  · rw [decide_eq_false h]
    simp [h]
theorem spl1 {s c : Nat} {acc r : List Nat} : TL.spl [s] 0 acc (c :: r) = if c = s then acc :: TL.spl [s] 0 [] r else TL.spl [s] 0 (acc ++ [c]) r := by
  by_cases h : c = s
  · rw [if_pos h, TL.spl_hit (by rw [pre1]; exact decide_eq_true h)]
    rfl
  · rw [if_neg h, TL.spl_miss (by rw [pre1]; exact decide_eq_false h)]
theorem filter_close (acc : List Nat) (r : List (List Nat)) : (acc :: r).filter ne = close acc ++ r.filter ne := by
  unfold close
  by_cases h : acc = []
  · subst h
    rfl
  · rw [if_neg h, List.filter_cons_of_pos (by unfold ne; rw [decide_eq_false h]; rfl)]
    rfl
theorem words_fold : ∀ (p acc : List Nat) (ws : List (List Nat)), ws ++ (TL.spl [32] 0 acc p).filter ne = fin (p.foldl sw (ws, acc))
  | [], acc, ws => by
    rw [TL.spl_nil, filter_close, List.filter_nil, List.append_nil]
    rfl
  | c :: r, acc, ws => by
    rw [spl1, List.foldl_cons]
    unfold sw
    by_cases h : c = 32
    · rw [if_pos h, if_pos h, filter_close, ← List.append_assoc]
      exact words_fold r [] _
    · rw [if_neg h, if_neg h]
      exact words_fold r _ ws
theorem parts_words : ∀ (l a : List Nat), (TL.spl [47] 0 a l).map wordsOf = Lw (a.foldl sw ([], [])) l
  | [], a => by
    have h := words_fold a [] []
    rw [List.nil_append] at h
    rw [TL.spl_nil]
    show [wordsOf a] = [fin _]
    rw [← h]
    rfl
  | c :: r, a => by
    rw [spl1]
    unfold Lw
    by_cases h : c = 47
    · have w := words_fold a [] []
      rw [List.nil_append] at w
      rw [if_pos h, if_pos h, List.map_cons, parts_words r []]
      show wordsOf a :: _ = _
      rw [← w]
      rfl
    · rw [if_neg h, if_neg h, parts_words r (a ++ [c]), List.foldl_append]
      rfl
/-- line ends as blanks -/
def flat (l : List Nat) : List Nat := l.map fun c => if c = 10 then 32 else c
def good (c : Nat) : Bool := dig c || (decide (c = 47) || (decide (c = 32) || decide (c = 10)))
/-! ### tokens, put together -/
def rolls (ts : List (List Nat)) : List (List (List Nat)) × List (List Nat) := ts.foldl (fun s t => if t = [47] then (s.1 ++ [s.2], []) else (s.1, s.2 ++ [t])) ([], [])
theorem rolls_snoc (ts : List (List Nat)) (t : List Nat) : rolls (ts ++ [t]) = if t = [47] then ((rolls ts).1 ++ [(rolls ts).2], []) else ((rolls ts).1, (rolls ts).2 ++ [t]) := by
  unfold rolls
  rw [List.foldl_append]
  rfl
def isWord (w : List Nat) : Prop := w ≠ [] ∧ ∀ c ∈ w, dig c = true
theorem isWord.slash {w : List Nat} (h : isWord w) : w ≠ [47] := fun e => by
  have := h.2 47 (by rw [e]; exact List.mem_singleton.mpr rfl)
  cases this
/-- how far the tokens are, and what the parts are so far -/
structure Jn (front : List (List (List Nat))) (s : St) (last : Nat) (ts : List (List Nat)) : Prop where
  open_ : dig last = ne s.2
  digs : ∀ c ∈ s.2, dig c = true
  told : if s.2 = [] then rolls ts = (front, s.1) else ∃ f0, ts = f0 ++ [s.2] ∧ rolls f0 = (front, s.1)
  toks : ∀ t ∈ ts, t = [47] ∨ isWord t
theorem Jn.ends {front : List (List (List Nat))} {s : St} {last : Nat} {ts : List (List Nat)} (j : Jn front s last ts) : rolls ts = (front, fin s) := by
  have t := j.told
  unfold fin close
  by_cases h : s.2 = []
  · rw [if_pos h] at t
    rw [t, if_pos h, List.append_nil]
  · rw [if_neg h] at t
    obtain ⟨f0, e, r⟩ := t
    have w : isWord s.2 := ⟨h, j.digs⟩
    rw [e, rolls_snoc, if_neg w.slash, r, if_neg h]
theorem Jn.start : Jn [] ([], []) 32 [] := ⟨rfl, (fun _ h => (List.not_mem_nil h).elim), by rw [if_pos rfl]; rfl, (fun _ h => (List.not_mem_nil h).elim)⟩
theorem Jn.slash {front : List (List (List Nat))} {s : St} {last : Nat} {ts : List (List Nat)} (j : Jn front s last ts) : Jn (front ++ [fin s]) ([], []) 47 (ts ++ [[47]]) := by
  refine ⟨rfl, (fun _ h => (List.not_mem_nil h).elim), ?_, fun t h => ?_⟩
  · rw [if_pos rfl, rolls_snoc, if_pos rfl, j.ends]
  · rcases List.mem_append.mp h with h | h
    · exact j.toks t h
    · exact .inl (List.mem_singleton.mp h)
theorem Jn.blank {front : List (List (List Nat))} {s : St} {last c : Nat} {ts : List (List Nat)} (j : Jn front s last ts) (h : dig c = false) : Jn front (fin s, []) c ts := by
  refine ⟨h, (fun _ h => (List.not_mem_nil h).elim), ?_, j.toks⟩
  rw [if_pos rfl]
  exact j.ends
theorem Jn.more {front : List (List (List Nat))} {s : St} {last c : Nat} {ts : List (List Nat)} (j : Jn front s last ts) (hc : dig c = true) (hl : dig last = true) : ∃ f0, ts = f0 ++ [s.2] ∧ Jn front (s.1, s.2 ++ [c]) c (f0 ++ [s.2 ++ [c]]) := by
  have n : ne s.2 = true := j.open_ ▸ hl
  have h : s.2 ≠ [] := fun e => by
    rw [e] at n
    cases n
  have t := j.told
  rw [if_neg h] at t
  obtain ⟨f0, e, r⟩ := t
  have digs : ∀ x ∈ s.2 ++ [c], dig x = true := fun x hx => by
    rcases List.mem_append.mp hx with hx | hx
    · exact j.digs x hx
    · rw [List.mem_singleton.mp hx]
      exact hc
  have some_ : s.2 ++ [c] ≠ [] := fun e => by simp at e
  refine ⟨f0, e, ⟨?_, digs, ?_, fun t ht => ?_⟩⟩
  · rw [hc]
    unfold ne
    rw [decide_eq_false some_]
    rfl
  · rw [if_neg some_]
    exact ⟨f0, rfl, r⟩
  · rcases List.mem_append.mp ht with ht | ht
    · exact j.toks t (e ▸ List.mem_append_left _ ht)
    · rw [List.mem_singleton.mp ht]
      exact .inr ⟨some_, digs⟩
theorem Jn.first {front : List (List (List Nat))} {s : St} {last c : Nat} {ts : List (List Nat)} (j : Jn front s last ts) (hc : dig c = true) (hl : dig last = false) : s.2 = [] ∧ Jn front (s.1, [c]) c (ts ++ [[c]]) := by
  have n : ne s.2 = false := j.open_ ▸ hl
  have h : s.2 = [] := by
    by_cases h : s.2 = []
    · exact h
    · unfold ne at n
      rw [decide_eq_false h] at n
      cases n
  have t := j.told
  rw [if_pos h] at t
  have digs : ∀ x ∈ [c], dig x = true := fun x hx => by
    rw [List.mem_singleton.mp hx]
    exact hc
  refine ⟨h, ⟨?_, digs, ?_, fun t ht => ?_⟩⟩
  · rw [hc]
    rfl
  · rw [if_neg (fun e => by cases e)]
    exact ⟨ts, rfl, t⟩
  · rcases List.mem_append.mp ht with ht | ht
    · exact j.toks t ht
    · rw [List.mem_singleton.mp ht]
      exact .inr ⟨(fun e => by cases e), digs⟩
/-! ### the words of all parts are the tokens but 47 -/
theorem rolls_words : ∀ (ts : List (List Nat)) (a : List (List (List Nat))) (b : List (List Nat)),
    (ts.foldl (fun (s : List (List (List Nat)) × List (List Nat)) t => if t = [47] then (s.1 ++ [s.2], []) else (s.1, s.2 ++ [t])) (a, b)).1.flatten ++ (ts.foldl (fun (s : List (List (List Nat)) × List (List Nat)) t => if t = [47] then (s.1 ++ [s.2], []) else (s.1, s.2 ++ [t])) (a, b)).2 = a.flatten ++ b ++ ts.filter (fun t => !decide (t = [47]))
  | [], a, b => by rw [List.foldl_nil, List.filter_nil, List.append_nil]
  | t :: ts, a, b => by
    rw [List.foldl_cons]
    by_cases h : t = [47]
    · rw [if_pos h, rolls_words ts, List.filter_cons_of_neg (by rw [decide_eq_true h]; exact Bool.false_ne_true)]
      simp
    · rw [if_neg h, rolls_words ts, List.filter_cons_of_pos (by rw [decide_eq_false h]; rfl)]
      simp
/-- all parts of a text -/
def parts (l : List Nat) : List (List (List Nat)) := Lw ([], []) (flat l)
theorem parts_spl (l : List Nat) : (TL.spl [47] 0 [] (flat l)).map wordsOf = parts l := parts_words (flat l) []
end Px
/-! ## Plain data: what the mirrors' words come to -/
namespace Pl
open PySem L2 Lf
theorem fold_inv {α S : Type} {f : S → α → Res S} : ∀ {xs : List α} {s0 : S} (P : Nat → S → Prop), P 0 s0 → (∀ (i : Nat) (x : α) (s : S), xs[i]? = some x → P i s → ∃ s', f s x = .ok s' ∧ P (i + 1) s') → ∃ s', Res.fold f xs s0 = .ok s' ∧ P xs.length s'
  | [], s0, P, h0, _ => ⟨s0, rfl, h0⟩
  | x :: xs, s0, P, h0, hs => by
    obtain ⟨s1, e1, h1⟩ := hs 0 x s0 rfl h0
    obtain ⟨s2, e2, h2⟩ := fold_inv (xs := xs) (s0 := s1) (fun i s => P (i + 1) s) h1 fun i y s hy h => hs (i + 1) y s hy h
    refine ⟨s2, ?_, h2⟩
    show Res.bind (f s0 x) (Res.fold f xs) = _
    rw [e1]
    exact e2
theorem loop_inv {α S R : Type} {f : S → α → Res (Ctl S R)} : ∀ {xs : List α} {s0 : S} (P : Nat → S → Prop), P 0 s0 → (∀ (i : Nat) (x : α) (s : S), xs[i]? = some x → P i s → ∃ s', f s x = .ok (.nx s') ∧ P (i + 1) s') → ∃ s', Res.loop f xs s0 = .ok (.nx s') ∧ P xs.length s'
  | [], s0, P, h0, _ => ⟨s0, rfl, h0⟩
  | x :: xs, s0, P, h0, hs => by
    obtain ⟨s1, e1, h1⟩ := hs 0 x s0 rfl h0
    obtain ⟨s2, e2, h2⟩ := loop_inv (xs := xs) (s0 := s1) (fun i s => P (i + 1) s) h1 fun i y s hy h => hs (i + 1) y s hy h
    refine ⟨s2, ?_, h2⟩
    show Res.bind (f s0 x) _ = _
    rw [e1]
    exact e2
theorem req_some {α β : Type} {o : Option α} {x : α} {k : α → Res β} (h : o = some x) : Res.req o k = k x := by
  rw [h]
  rfl
theorem val_some {α : Type} {m : Res α} {x : α} (h : m = .ok x) : Res.val m = some x := by
  rw [h]
  rfl
theorem bind_ok {α β : Type} {m : Res α} {x : α} {k : α → Res β} (h : m = .ok x) : Res.bind m k = k x := by
  rw [h]
  rfl
theorem after_nx {S R X : Type} {m : Res (Ctl S R)} {s : S} {k : S → Res X} {kr : R → Res X} (h : m = .ok (.nx s)) : Res.after m k kr = k s := by
  rw [h]
  rfl
theorem req_val {α β : Type} {m : Res α} {x : α} {k : α → Res β} (h : m = .ok x) : Res.req (Res.val m) k = k x := by
  rw [h]
  rfl
/-- lo, lo + 1, .. -/
def ups (lo : Int) (n : Nat) : List Int := (List.range n).map fun (i : Nat) => lo + (i : Int)
theorem irng_ups {lo hi : Int} {n : Nat} (e : hi - lo = n) (h1 : -(2 ^ 59) ≤ lo) (h2 : lo ≤ 2 ^ 59) (h3 : n ≤ 10000000) : irng lo hi = some (ups lo n) := by
  unfold irng
  have e2 : (hi - lo).toNat = n := by omega
  rw [if_pos ⟨by omega, by omega, by omega, by omega, by rw [e2, sizeLine_eq]; omega⟩, e2]
  rfl
theorem ups_len (lo : Int) (n : Nat) : (ups lo n).length = n := by simp [ups]
theorem ups_at {lo : Int} {n i : Nat} {x : Int} (h : (ups lo n)[i]? = some x) : i < n ∧ x = lo + i := by
  unfold ups at h
  rw [List.getElem?_map] at h
  cases z : (List.range n)[i]? with
  | none =>
    rw [z] at h
    cases h
  | some j =>
    rw [z] at h
    obtain ⟨l, e⟩ := List.getElem?_eq_some_iff.mp z
    rw [List.getElem_range] at e
    rw [List.length_range] at l
    cases h
    exact ⟨l, by rw [e]⟩
theorem pow_mono {a b : Nat} (h : a ≤ b) : (2 : Nat) ^ a ≤ 2 ^ b := Nat.pow_le_pow_right (by decide) h
theorem imul_ok {i j : Int} (h1 : i.natAbs < 2 ^ 5000) (h2 : j.natAbs < 2 ^ 5000) : imul i j = some (i * j) := by
  unfold imul
  exact if_pos ⟨Nat.lt_of_lt_of_le h1 (pow_mono (by decide)), Nat.lt_of_lt_of_le h2 (pow_mono (by decide))⟩
theorem ifdiv_ok {i j : Int} (h1 : 0 < j) (h2 : j.natAbs < 2 ^ 5000) : ifdiv i j = some (i / j) := by
  unfold ifdiv
  exact if_pos ⟨h1, Nat.lt_of_lt_of_le h2 (pow_mono (by decide))⟩
theorem imod_ok {i j : Int} (h1 : 0 < j) : imod i j = some (i % j) := by
  unfold imod
  exact if_pos h1
theorem app_ok {α : Type} {xs : List α} {x : α} (h : xs.length < 10000000) : app xs x = some (xs ++ [x]) := by
  unfold app
  exact if_pos (by rw [sizeLine_eq]; omega)
theorem cat_ok {α : Type} {xs ys : List α} (h : xs.length + ys.length ≤ 10000000) : cat xs ys = some (xs ++ ys) := by
  unfold cat
  exact if_pos (by rw [sizeLine_eq]; omega)
theorem more_ok {α : Type} {xs : List α} (h : xs.length < 10000000) : more xs = some () := by
  unfold more
  exact if_pos (by rw [sizeLine_eq]; omega)
theorem atI_last {α : Type} {xs : List α} {x : α} (h : xs.getLast? = some x) : atI xs (-(1 : Int)) = some x := by
  unfold L2.atI L2.ixN
  have hne : 0 < xs.length := by
    cases xs with
    | nil => cases h
    | cons a b => exact Nat.succ_pos _
  rw [if_neg (by decide), if_pos (by omega)]
  rw [List.getLast?_eq_getElem?] at h
  show xs[(-(1 : Int) + xs.length).toNat]? = some x
  have e : (-(1 : Int) + xs.length).toNat = xs.length - 1 := by omega
  rw [e]
  exact h
theorem atI_nat' {α : Type} {xs : List α} {i : Nat} {x : α} (h : xs[i]? = some x) : atI xs (i : Int) = some x := by
  unfold L2.atI L2.ixN
  have l := (List.getElem?_eq_some_iff.mp h).1
  rw [if_pos (by omega), if_pos (by omega)]
  show xs[(i : Int).toNat]? = some x
  rw [Int.toNat_natCast]
  exact h
theorem mapO_ok {α β : Type} {f : α → Option (Option β)} {g : α → β} : ∀ {xs : List α}, (∀ x ∈ xs, f x = some (some (g x))) → mapO f xs = some (xs.map g)
  | [], _ => rfl
  | x :: xs, h => by
    unfold mapO
    rw [h x List.mem_cons_self, mapO_ok (g := g) fun y hy => h y (List.mem_cons_of_mem _ hy)]
    rfl
theorem mapO_filter {α β : Type} {f : α → Option (Option β)} {c : α → Bool} {g : α → β} : ∀ {xs : List α}, (∀ x ∈ xs, f x = if c x then some (some (g x)) else some none) → mapO f xs = some ((xs.filter c).map g)
  | [], _ => rfl
  | x :: xs, h => by
    unfold mapO
    rw [h x List.mem_cons_self, mapO_filter (c := c) (g := g) fun y hy => h y (List.mem_cons_of_mem _ hy)]
    cases e : c x with
    | true => rw [List.filter_cons_of_pos e]; rfl
    | false => rw [List.filter_cons_of_neg (by rw [e]; decide)]; rfl
theorem lenOk_ok {m : Res Int} {n : Nat} (h : m = .ok (n : Int)) (hn : n < 2 ^ 62) (f : Res Int → Option Int) (hf : ∀ m : Res Int, ∀ k : Int, m = .ok k → 0 ≤ k → k < 2 ^ 63 → f m = some k) : f m = some (n : Int) := hf m n h (by omega) (by omega)
end Pl
namespace Pl
open PySem L2 Lf
theorem req_go {α β : Type} {o : Option α} {x : α} {k : α → Res β} {r : Res β} (h : o = some x) (e : k x = r) : Res.req o k = r := by
  rw [h]
  exact e
theorem reqv {α β : Type} {m : Res α} {x : α} {k : α → Res β} {r : Res β} (h : m = .ok x) (e : k x = r) : Res.req (Res.val m) k = r := by
  rw [h]
  exact e
theorem bind_go {α β : Type} {m : Res α} {x : α} {k : α → Res β} {r : Res β} (h : m = .ok x) (e : k x = r) : Res.bind m k = r := by
  rw [h]
  exact e
theorem fold_bind {α S X : Type} {f : S → α → Res S} {k : S → Res X} {xs : List α} {s0 : S} {r : Res X} (P : Nat → S → Prop) (h0 : P 0 s0) (hs : ∀ (i : Nat) (x : α) (s : S), xs[i]? = some x → P i s → ∃ s', f s x = .ok s' ∧ P (i + 1) s') (hk : ∀ s, P xs.length s → k s = r) : Res.bind (Res.fold f xs s0) k = r := by
  obtain ⟨s, e, h⟩ := fold_inv P h0 hs
  rw [e]
  exact hk s h
theorem loop_after {α S R X : Type} {f : S → α → Res (Ctl S R)} {k : S → Res X} {kr : R → Res X} {xs : List α} {s0 : S} {r : Res X} (P : Nat → S → Prop) (h0 : P 0 s0) (hs : ∀ (i : Nat) (x : α) (s : S), xs[i]? = some x → P i s → ∃ s', f s x = .ok (.nx s') ∧ P (i + 1) s') (hk : ∀ s, P xs.length s → k s = r) : Res.after (Res.loop f xs s0) k kr = r := by
  obtain ⟨s, e, h⟩ := loop_inv P h0 hs
  rw [e]
  exact hk s h
theorem loop_end {α S R X : Type} {f : S → α → Res (Ctl S R)} {k : S → Res X} {kr : R → Res X} {xs : List α} {s0 : S} {Q : X → Prop} (P : Nat → S → Prop) (h0 : P 0 s0) (hs : ∀ (i : Nat) (x : α) (s : S), xs[i]? = some x → P i s → ∃ s', f s x = .ok (.nx s') ∧ P (i + 1) s') (hk : ∀ s, P xs.length s → ∃ r, k s = .ok r ∧ Q r) : ∃ r, Res.after (Res.loop f xs s0) k kr = .ok r ∧ Q r := by
  obtain ⟨s, e, h⟩ := loop_inv P h0 hs
  rw [e]
  exact hk s h
theorem if_neg' {α : Type} {c : Bool} {x y z : α} (h : c = false) (e : y = z) : (if c = true then x else y) = z := by
  rw [h]
  exact e
theorem if_pos' {α : Type} {c : Bool} {x y z : α} (h : c = true) (e : x = z) : (if c = true then x else y) = z := by
  rw [h]
  exact e
section
variable {κ α : Type} [DecidableEq κ]
theorem find_map {l : List (κ × α)} {f : κ × α → κ × α} (hf : ∀ p, (f p).1 = p.1) (z : κ) : ((l.map f).find? fun p => decide (p.1 = z)) = (l.find? fun p => decide (p.1 = z)).map f := by
  induction l with
  | nil => rfl
  | cons p l ih =>
    rw [List.map_cons, List.find?_cons, List.find?_cons, hf]
    cases decide (p.1 = z) with
    | true => rfl
    | false => exact ih
theorem putL_get (l : List (κ × α)) (k z : κ) (x : α) : ((putL l k x).find? fun p => decide (p.1 = z)).map (·.2) = if z = k then some x else (l.find? fun p => decide (p.1 = z)).map (·.2) := by
  unfold putL
  by_cases h : (l.any fun p => decide (p.1 = k)) = true
  · rw [if_pos h]
    rw [find_map (f := fun p => if p.1 = k then (p.1, x) else p) (fun p => by split <;> rfl)]
    obtain ⟨p, hp, hk⟩ := List.any_eq_true.mp h
    by_cases e : z = k
    · rw [if_pos e]
      subst e
      cases q : l.find? fun p => decide (p.1 = z) with
      | none =>
        have := List.find?_eq_none.mp q p hp
        exact absurd hk this
      | some r =>
        have := List.find?_some q
        show some (if r.1 = z then (r.1, x) else r).2 = _
        rw [if_pos (of_decide_eq_true this)]
    · rw [if_neg e]
      cases q : l.find? fun p => decide (p.1 = z) with
      | none => rfl
      | some r =>
        have q2 := List.find?_some q
        have := of_decide_eq_true q2
        show some (if r.1 = k then (r.1, x) else r).2 = some r.2
        rw [if_neg (fun c => e (this.symm.trans c))]
  · rw [if_neg h, List.find?_append]
    have no : ∀ p ∈ l, p.1 ≠ k := fun p hp c => h (List.any_eq_true.mpr ⟨p, hp, decide_eq_true c⟩)
    by_cases e : z = k
    · rw [if_pos e]
      subst e
      have : l.find? (fun p => decide (p.1 = z)) = none := List.find?_eq_none.mpr fun p hp => by
        simpa using no p hp
      rw [this, List.find?_cons, decide_eq_true rfl]
      rfl
    · rw [if_neg e]
      have : ([(k, x)] : List (κ × α)).find? (fun p => decide (p.1 = z)) = none := by
        rw [List.find?_cons, decide_eq_false (fun c => e c.symm)]
        rfl
      rw [this, Option.or_none]
theorem get_mem {l : List (κ × α)} {z : κ} : z ∈ l.map (·.1) ↔ ((l.find? fun p => decide (p.1 = z)).map (·.2)).isSome = true := by
  rw [Option.isSome_map]
  constructor
  · intro h
    obtain ⟨p, hp, e⟩ := List.mem_map.mp h
    rw [List.find?_isSome]
    exact ⟨p, hp, decide_eq_true e⟩
  · intro h
    rw [List.find?_isSome] at h
    obtain ⟨p, hp, e⟩ := h
    exact List.mem_map.mpr ⟨p, hp, of_decide_eq_true e⟩
end
end Pl

namespace Pl
open PySem L2 Lf
theorem putL_nodup {κ α : Type} [DecidableEq κ] {l : List (κ × α)} {k : κ} {x : α} (u : (l.map (·.1)).Nodup) : ((putL l k x).map (·.1)).Nodup := by
  unfold putL
  by_cases h : (l.any fun p => decide (p.1 = k)) = true
  · rw [if_pos h, List.map_map]
    have : (l.map ((fun x => x.1) ∘ fun p => if p.1 = k then (p.1, x) else p)) = l.map (·.1) := List.map_congr_left fun p _ => by
      show (if p.1 = k then (p.1, x) else p).1 = p.1
      split <;> rfl
    rw [this]
    exact u
  · rw [if_neg h, List.map_append]
    refine List.nodup_append.mpr ⟨u, by simp, fun a ha b hb => ?_⟩
    rw [List.mem_singleton.mp hb]
    rintro rfl
    obtain ⟨p, hp, e⟩ := List.mem_map.mp ha
    exact h (List.any_eq_true.mpr ⟨p, hp, decide_eq_true e⟩)
end Pl
/-! ## What the mirror of tokens_of tells -/
namespace Px
open PySem L2 Lf Mi Pl SX
theorem lit_dig : ("0123456789" : Str).cps.toList = [48, 49, 50, 51, 52, 53, 54, 55, 56, 57] := by decide +kernel
theorem lit_blk : (" \n" : Str).cps.toList = [32, 10] := by decide +kernel
theorem lit_all : ("0123456789/ \n" : Str).cps.toList = [48, 49, 50, 51, 52, 53, 54, 55, 56, 57, 47, 32, 10] := by decide +kernel
theorem lit_slash : ("/" : Str) = S [47] := by decide +kernel
theorem lit_0 : ("0" : Str) = S [48] := by decide +kernel
theorem lit_sp : (" " : Str) = S [32] := by decide +kernel
theorem lit_nl : ("\n" : Str) = S [10] := by decide +kernel
theorem lit_e : ("" : Str) = S [] := by decide +kernel
theorem sgn_dig (c : Nat) : sgnIn (S [c]) "0123456789" = some (dig c) := by
  show some (decide (c ∈ ("0123456789" : Str).cps.toList)) = _
  rw [lit_dig]
  congr 1
  unfold dig
  rw [Bool.eq_iff_iff, Bool.and_eq_true, decide_eq_true_eq, decide_eq_true_eq, decide_eq_true_eq]
  simp only [List.mem_cons, List.not_mem_nil, or_false]
  omega
theorem sgn_blk (c : Nat) : sgnIn (S [c]) " \n" = some (decide (c = 32) || decide (c = 10)) := by
  show some (decide (c ∈ (" \n" : Str).cps.toList)) = _
  rw [lit_blk]
  congr 1
  rw [Bool.eq_iff_iff, Bool.or_eq_true, decide_eq_true_eq, decide_eq_true_eq, decide_eq_true_eq]
  simp only [List.mem_cons, List.not_mem_nil, or_false]
theorem sgn_all (c : Nat) : sgnIn (S [c]) "0123456789/ \n" = some (good c) := by
  show some (decide (c ∈ ("0123456789/ \n" : Str).cps.toList)) = _
  rw [lit_all]
  congr 1
  unfold good dig
  rw [Bool.eq_iff_iff]
  simp only [Bool.or_eq_true, Bool.and_eq_true, decide_eq_true_eq, List.mem_cons, List.not_mem_nil, or_false]
  omega
theorem S_eq (a b : List Nat) : decide (S a = S b) = decide (a = b) := by
  rw [Bool.eq_iff_iff, decide_eq_true_eq, decide_eq_true_eq]
  exact ⟨S_inj, fun h => by rw [h]⟩
theorem line_big : (10000000 : Nat) ≤ sizeLine := by decide
theorem set_last {α : Type} {xs : List α} {a y : α} : setAt (xs ++ [a]) (-(1 : Int)) y = some (xs ++ [y]) := by
  unfold setAt
  have e : ixN (xs ++ [a]).length (-(1 : Int)) = some xs.length := by
    rw [List.length_append]
    unfold ixN
    simp
    omega
  rw [e]
  simp
theorem addS_ok {a b : List Nat} (h : a.length + b.length ≤ 10000000) : addS (S a) (S b) = some (S (a ++ b)) := by
  unfold addS
  rw [if_pos (by rw [S_len, S_len]; exact Nat.le_trans h line_big), S_cat]
theorem fits_ok {a : List Nat} (h : a.length ≤ 10000000) : fits (S a) = some () := by
  unfold fits
  exact if_pos (by show a.toArray.size ≤ _; rw [List.size_toArray]; exact Nat.le_trans h line_big)
def tokF (s41 : Str × (List Str)) (x42 : Str) : Res (Ctl (Str × (List Str)) (Option (List Str))) :=
  Res.req (sgnIn x42 "0123456789") fun y43 =>
  Res.req (if y43 then (Option.bind (sgnIn s41.1 "0123456789") fun y45 => (some y45)) else some false) fun y47 =>
  Res.after (if y47 then Res.req (atI s41.2 (-(1 : Int))) fun y52 =>
  Res.req (addS y52 x42) fun y54 =>
  Res.req (setAt s41.2 (-(1 : Int)) y54) fun y56 =>
  .ok (.nx y56) else Res.req (sgnIn x42 "0123456789") fun y58 =>
  (if (y58 || (decide (x42 = "/"))) then Res.req (app s41.2 x42) fun y62 =>
  .ok (.nx y62) else Res.req (sgnIn x42 " \n") fun y64 =>
  (if (!y64) then Res.esc (.ok none) else
  .ok (.nx s41.2)))) (fun (s68 : (List Str)) =>
  .ok (.nx (x42, s68))) (fun r => .ok (.rt r))
theorem tok_dd {last c : Nat} {f0 : List (List Nat)} {w : List Nat} (hc : dig c = true) (hl : dig last = true) (lw : w.length < 1000000) : tokF (S [last], (f0 ++ [w]).map S) (S [c]) = .ok (.nx (S [c], (f0 ++ [w ++ [c]]).map S)) := by
  unfold tokF
  refine req_go (sgn_dig c) ?_
  rw [if_pos hc]
  refine req_go (x := true) (by rw [sgn_dig, hl]; rfl) ?_
  rw [if_pos rfl, List.map_append, List.map_append]
  have e : atI (f0.map S ++ [w].map S) (-(1 : Int)) = some (S w) := atI_last (by simp)
  have e3 : setAt (S [last], f0.map S ++ [w].map S).2 (-(1 : Int)) (S (w ++ [c])) = some (f0.map S ++ [S (w ++ [c])]) := set_last
  rw [req_some e, req_some (addS_ok (a := w) (b := [c]) (by simp; omega)), req_some e3]
  rfl
theorem tok_d {last c : Nat} {ts : List (List Nat)} (hc : dig c = true) (hl : dig last = false) (lt : ts.length < 1000000) : tokF (S [last], ts.map S) (S [c]) = .ok (.nx (S [c], (ts ++ [[c]]).map S)) := by
  unfold tokF
  refine req_go (sgn_dig c) ?_
  rw [if_pos hc]
  refine req_go (x := false) (by rw [sgn_dig, hl]; rfl) ?_
  rw [if_neg Bool.false_ne_true, req_some (sgn_dig c), hc, Bool.true_or, if_pos rfl, req_some (app_ok (x := S [c]) (by show (ts.map S).length < _; rw [List.length_map]; omega)), List.map_append]
  rfl
theorem not_and {c last : Nat} (hc : dig c = false) : (if dig c = true then (Option.bind (sgnIn (S [last]) "0123456789") fun y45 => (some y45)) else some false) = some false := by
  rw [hc]
  rfl
theorem tok_s {last : Nat} {ts : List (List Nat)} (lt : ts.length < 1000000) : tokF (S [last], ts.map S) (S [47]) = .ok (.nx (S [47], (ts ++ [[47]]).map S)) := by
  unfold tokF
  refine req_go (sgn_dig 47) ?_
  refine req_go (not_and (last := last) (c := 47) rfl) ?_
  have e : decide (S [47] = "/") = true := by rw [lit_slash]; exact decide_eq_true rfl
  rw [if_neg Bool.false_ne_true, req_some (sgn_dig 47), e, Bool.or_true, if_pos rfl, req_some (app_ok (x := S [47]) (by show (ts.map S).length < _; rw [List.length_map]; omega)), List.map_append]
  rfl
theorem tok_other {last c : Nat} {ts : List (List Nat)} (hc : dig c = false) (hs : c ≠ 47) : tokF (S [last], ts.map S) (S [c]) = if (decide (c = 32) || decide (c = 10)) = true then .ok (.nx (S [c], ts.map S)) else .ok (.rt none) := by
  unfold tokF
  refine req_go (sgn_dig c) ?_
  refine req_go (not_and (last := last) hc) ?_
  have e : decide (S [c] = "/") = false := by
    rw [lit_slash, S_eq]
    exact decide_eq_false fun h => hs (by injection h)
  rw [if_neg Bool.false_ne_true, req_some (sgn_dig c), hc, e, Bool.false_or, if_neg Bool.false_ne_true, req_some (sgn_blk c)]
  cases decide (c = 32) || decide (c = 10) <;> rfl
def chars (l : List Nat) : List Str := l.map fun c => S [c]
theorem sgns_S (l : List Nat) : sgns (S l) = chars l := rfl
/-- all signs are good ones -/
theorem tok_loop : ∀ (r : List Nat) (front : List (List (List Nat))) (s : St) (last : Nat) (ts : List (List Nat)) (n : Nat), Jn front s last ts → (∀ c ∈ r, good c = true) → ts.length ≤ n → s.2.length ≤ n → (∀ t ∈ ts, t.length ≤ n + 1) → n + r.length < 1000000 →
    ∃ last' ts', Res.loop tokF (chars r) (S [last], ts.map S) = .ok (.nx (S [last'], ts'.map S)) ∧ ts'.length ≤ n + r.length ∧ (∀ t ∈ ts', t.length ≤ n + r.length + 1) ∧ (rolls ts').1 ++ [(rolls ts').2] = front ++ Lw s (flat r) ∧ ∀ t ∈ ts', t = [47] ∨ isWord t
  | [], front, s, last, ts, n, j, _, l1, l2, l3, big => by
    refine ⟨last, ts, rfl, l1, l3, ?_, j.toks⟩
    rw [j.ends]
    rfl
  | c :: r, front, s, last, ts, n, j, hg, l1, l2, l3, big => by
    have big' : n + 1 + r.length < 1000000 := by
      rw [List.length_cons] at big
      omega
    have len : n + (c :: r).length = n + 1 + r.length := by
      rw [List.length_cons]
      omega
    rw [len]
    have gr : ∀ x ∈ r, good x = true := fun x hx => hg x (List.mem_cons_of_mem _ hx)
    have up : ∀ {us : List (List Nat)}, (∀ t ∈ us, t.length ≤ n + 1) → ∀ t ∈ us, t.length ≤ n + 1 + 1 := fun h t ht => Nat.le_succ_of_le (h t ht)
    have step : ∀ {last' ts' front' s'}, tokF (S [last], ts.map S) (S [c]) = .ok (.nx (S [last'], ts'.map S)) → Jn front' s' last' ts' → ts'.length ≤ n + 1 → s'.2.length ≤ n + 1 → (∀ t ∈ ts', t.length ≤ n + 1 + 1) → front' ++ Lw s' (flat r) = front ++ Lw s (flat (c :: r)) →
        ∃ last' ts', Res.loop tokF (chars (c :: r)) (S [last], ts.map S) = .ok (.nx (S [last'], ts'.map S)) ∧ ts'.length ≤ n + 1 + r.length ∧ (∀ t ∈ ts', t.length ≤ n + 1 + r.length + 1) ∧ (rolls ts').1 ++ [(rolls ts').2] = front ++ Lw s (flat (c :: r)) ∧ ∀ t ∈ ts', t = [47] ∨ isWord t := by
      intro last' ts' front' s' e j' m1 m2 m3 eq
      obtain ⟨last2, ts2, e2, q1, q2, q3, q4⟩ := tok_loop r front' s' last' ts' (n + 1) j' gr m1 m2 m3 big'
      refine ⟨last2, ts2, ?_, q1, q2, by rw [q3, eq], q4⟩
      show Res.bind (tokF (S [last], ts.map S) (S [c])) _ = _
      rw [e]
      exact e2
    have fl : flat (c :: r) = (if c = 10 then 32 else c) :: flat r := rfl
    cases hc : dig c with
    | true =>
      have n47 : c ≠ 47 := fun h => by rw [h] at hc; cases hc
      have n32 : c ≠ 32 := fun h => by rw [h] at hc; cases hc
      have n10 : c ≠ 10 := fun h => by rw [h] at hc; cases hc
      have lw : Lw s (flat (c :: r)) = Lw (s.1, s.2 ++ [c]) (flat r) := by
        rw [fl, if_neg n10]
        unfold Lw
        rw [if_neg n47]
        unfold sw
        rw [if_neg n32]
        cases flat r <;> rfl
      cases hl : dig last with
      | true =>
        obtain ⟨f0, e, j'⟩ := j.more hc hl
        have l2' : s.2.length < 1000000 := by omega
        refine step (by rw [e]; exact tok_dd hc hl l2') j' ?_ ?_ ?_ (by rw [lw])
        · rw [e] at l1
          simp at l1 ⊢
          omega
        · simp
          omega
        · intro t ht
          rcases List.mem_append.mp ht with ht | ht
          · exact up l3 t (e ▸ List.mem_append_left _ ht)
          · rw [List.mem_singleton.mp ht]
            simp
            omega
      | false =>
        obtain ⟨e, j'⟩ := j.first hc hl
        refine step (tok_d hc hl (by omega)) j' ?_ ?_ ?_ (by rw [lw, e]; rfl)
        · simp
          omega
        · show 1 ≤ _
          omega
        · intro t ht
          rcases List.mem_append.mp ht with ht | ht
          · exact up l3 t ht
          · rw [List.mem_singleton.mp ht]
            show 1 ≤ _
            omega
    | false =>
      by_cases h47 : c = 47
      · subst h47
        have lw : Lw s (flat (47 :: r)) = fin s :: Lw ([], []) (flat r) := by
          rw [fl, if_neg (by decide)]
          rw [Lw, if_pos rfl]
        refine step (tok_s (by omega)) j.slash ?_ (Nat.zero_le _) ?_ (by rw [lw]; simp)
        · simp
          omega
        · intro t ht
          rcases List.mem_append.mp ht with ht | ht
          · exact up l3 t ht
          · rw [List.mem_singleton.mp ht]
            show 1 ≤ _
            omega
      · have gc := hg c (List.mem_cons_self ..)
        have b : (decide (c = 32) || decide (c = 10)) = true := by
          unfold good at gc
          rw [hc, decide_eq_false h47, Bool.false_or, Bool.false_or] at gc
          exact gc
        have e := tok_other (last := last) (ts := ts) hc h47
        rw [if_pos b] at e
        have lw : Lw s (flat (c :: r)) = Lw (fin s, []) (flat r) := by
          have e32 : (if c = 10 then 32 else c) = 32 := by
            by_cases h10 : c = 10
            · rw [if_pos h10]
            · rw [if_neg h10]
              rw [decide_eq_false h10, Bool.or_false, decide_eq_true_eq] at b
              exact b
          rw [fl, e32, Lw, if_neg (by decide)]
          unfold sw
          rw [if_pos rfl]
          rfl
        exact step e (j.blank hc) (by omega) (Nat.zero_le _) (up l3) (by rw [lw])
theorem tok_bad : ∀ (r : List Nat) (front : List (List (List Nat))) (s : St) (last : Nat) (ts : List (List Nat)) (n : Nat), Jn front s last ts → (∃ c ∈ r, good c = false) → ts.length ≤ n → s.2.length ≤ n → n + r.length < 1000000 → Res.loop tokF (chars r) (S [last], ts.map S) = .ok (.rt none)
  | [], _, _, _, _, _, _, h, _, _, _ => by
    obtain ⟨c, hc, _⟩ := h
    exact (List.not_mem_nil hc).elim
  | c :: r, front, s, last, ts, n, j, h, l1, l2, big => by
    have big' : n + 1 + r.length < 1000000 := by
      rw [List.length_cons] at big
      omega
    have go : ∀ {last' ts' front' s'}, good c = true → tokF (S [last], ts.map S) (S [c]) = .ok (.nx (S [last'], ts'.map S)) → Jn front' s' last' ts' → ts'.length ≤ n + 1 → s'.2.length ≤ n + 1 → Res.loop tokF (chars (c :: r)) (S [last], ts.map S) = .ok (.rt none) := by
      intro last' ts' front' s' g e j' m1 m2
      have h' : ∃ c ∈ r, good c = false := by
        obtain ⟨x, hx, gx⟩ := h
        rcases List.mem_cons.mp hx with rfl | hx
        · rw [g] at gx
          cases gx
        · exact ⟨x, hx, gx⟩
      show Res.bind (tokF (S [last], ts.map S) (S [c])) _ = _
      rw [e]
      exact tok_bad r front' s' last' ts' (n + 1) j' h' m1 m2 big'
    cases hc : dig c with
    | true =>
      have g : good c = true := by
        unfold good
        rw [hc]
        rfl
      cases hl : dig last with
      | true =>
        obtain ⟨f0, e, j'⟩ := j.more hc hl
        have l2' : s.2.length < 1000000 := by omega
        refine go g (by rw [e]; exact tok_dd hc hl l2') j' ?_ ?_
        · rw [e] at l1
          simp at l1 ⊢
          omega
        · simp
          omega
      | false =>
        obtain ⟨e, j'⟩ := j.first hc hl
        refine go g (tok_d hc hl (by omega)) j' ?_ ?_
        · simp
          omega
        · show 1 ≤ _
          omega
    | false =>
      by_cases h47 : c = 47
      · subst h47
        refine go rfl (tok_s (by omega)) j.slash ?_ (Nat.zero_le _)
        simp
        omega
      · have e := tok_other (last := last) (ts := ts) hc h47
        cases b : (decide (c = 32) || decide (c = 10)) with
        | true =>
          rw [b, if_pos rfl] at e
          refine go ?_ e (j.blank hc) (by omega) (Nat.zero_le _)
          unfold good
          rw [b, Bool.or_true, Bool.or_true]
        | false =>
          rw [b, if_neg Bool.false_ne_true] at e
          show Res.bind (tokF (S [last], ts.map S) (S [c])) _ = _
          rw [e]
          rfl
theorem tokens_good {l : List Nat} (hg : ∀ c ∈ l, good c = true) (hl : l.length < 1000000) : ∃ ts, m_tokens_of (S l) = .ok (some (ts.map S)) ∧ ts.length ≤ l.length ∧ (∀ t ∈ ts, t.length ≤ l.length + 1) ∧ (rolls ts).1 ++ [(rolls ts).2] = parts l ∧ ∀ t ∈ ts, t = [47] ∨ isWord t := by
  obtain ⟨last, ts, e, q1, q2, q3, q4⟩ := tok_loop l [] ([], []) 32 [] 0 Jn.start hg (Nat.le_refl _) (Nat.le_refl _) (fun t h => (List.not_mem_nil h).elim) (by omega)
  rw [Nat.zero_add] at q1 q2
  refine ⟨ts, ?_, q1, q2, q3, q4⟩
  unfold m_tokens_of
  refine req_go (fits_ok (by omega)) ?_
  have e' : Res.loop tokF (sgns (S l)) (" ", []) = .ok (.nx (S [last], ts.map S)) := by
    rw [lit_sp]
    exact e
  exact after_nx e'
theorem tokens_bad {l : List Nat} (hb : ∃ c ∈ l, good c = false) (hl : l.length < 1000000) : m_tokens_of (S l) = .ok none := by
  unfold m_tokens_of
  refine req_go (fits_ok (by omega)) ?_
  have e' : Res.loop tokF (sgns (S l)) (" ", []) = .ok (.rt none) := by
    rw [lit_sp]
    exact tok_bad l [] ([], []) 32 [] 0 Jn.start hb (Nat.le_refl _) (Nat.le_refl _) (by omega)
  show Res.after (Res.loop tokF (sgns (S l)) (" ", [])) _ _ = _
  rw [e']
  rfl
end Px
/-! ## What the mirror of read_counter tells -/
namespace Px
open PySem L2 Lf Mi Pl SX
def val (w : List Nat) : Int := ((NumText.digitsVal w : Nat) : Int)
def numB (w : List Nat) : Bool := !decide (w.head? = some 48) && decide (w.length ≤ 30)
theorem at_0 {c : Nat} {r : List Nat} (h : (c :: r).length ≤ 10000000) : atS (S (c :: r)) (0 : Int) = some (S [c]) := by
  unfold atS
  rw [if_pos (by rw [S_len]; exact Nat.le_trans h line_big)]
  have e : atI (S (c :: r)).cps.toList (0 : Int) = some c := atI_nat' (i := 0) rfl
  rw [e]
  rfl
theorem len_le {w : List Nat} {n : Nat} : decide (((S w).length : Int) ≤ (n : Int)) = decide (w.length ≤ n) := by
  rw [S_len, Bool.eq_iff_iff, decide_eq_true_eq, decide_eq_true_eq]
  omega
theorem isnum {w : List Nat} (h : isWord w) (hl : w.length ≤ 1000000) : m_is_number (S w) = .ok (numB w) := by
  obtain ⟨n, d⟩ := h
  cases w with
  | nil => exact absurd rfl n
  | cons c r =>
    have dc := d c (List.mem_cons_self ..)
    have a0 := at_0 (c := c) (r := r) (by omega)
    unfold m_is_number
    refine req_go a0 (req_go (sgn_dig c) ?_)
    rw [dc, if_pos rfl, a0]
    have e : decide (S [c] = "0") = decide ((c :: r).head? = some 48) := by
      rw [lit_0, S_eq]
      rw [Bool.eq_iff_iff, decide_eq_true_eq, decide_eq_true_eq]
      show [c] = [48] ↔ some c = some 48
      simp
    refine req_go (x := numB (c :: r)) ?_ rfl
    show Option.bind (if (!decide (S [c] = "0")) = true then (Option.bind (fits (S (c :: r))) fun y78 => (some (decide (((S (c :: r)).length : Int) ≤ (30 : Int))))) else some false) (fun y80 => some y80) = _
    rw [e]
    unfold numB
    cases decide ((c :: r).head? = some 48) with
    | true => rfl
    | false =>
      rw [fits_ok (by omega)]
      show some (decide (((S (c :: r)).length : Int) ≤ ((30 : Nat) : Int))) = _
      rw [len_le]
      rfl
theorem int_ok {w : List Nat} (h : isWord w) (hl : w.length ≤ 30) : intO (S w) = some (val w) := by
  unfold intO
  rw [if_pos (by rw [S_len]; omega)]
  refine int_S (List.all_eq_true.mpr fun c hc => ?_) h.1 (by omega)
  exact h.2 c hc
def step (s : List (List (List Nat)) × List (List Nat)) (t : List Nat) : List (List (List Nat)) × List (List Nat) := if t = [47] then (s.1 ++ [s.2], []) else (s.1, s.2 ++ [t])
def rowsOf (P : List (List (List Nat))) : List (List Int) := P.map fun ws => ws.map val
def rdF (s117 : (List (List Int)) × (List Int)) (x119 : Str) : Res ((List (List Int)) × (List Int)) :=
  (if (decide (x119 = "/")) then Res.req (roomR s117.1) fun y120 =>
  .ok (s117.1 ++ [s117.2], ([] : (List Int))) else Res.req (intO x119) fun y123 =>
  Res.req (app s117.2 y123) fun y125 =>
  .ok (s117.1, y125))
theorem rd_fold : ∀ (ts : List (List Nat)) (a : List (List (List Nat))) (b : List (List Nat)), (∀ t ∈ ts, t = [47] ∨ (isWord t ∧ t.length ≤ 30)) → a.length + ts.length ≤ 1000000 → b.length + ts.length ≤ 1000000 →
    Res.fold rdF (ts.map S) (rowsOf a, b.map val) = .ok (rowsOf (ts.foldl step (a, b)).1, (ts.foldl step (a, b)).2.map val)
  | [], a, b, _, _, _ => rfl
  | t :: ts, a, b, h, la, lb => by
    have h' : ∀ t ∈ ts, t = [47] ∨ (isWord t ∧ t.length ≤ 30) := fun x hx => h x (List.mem_cons_of_mem _ hx)
    rw [List.length_cons] at la lb
    show Res.bind (rdF (rowsOf a, b.map val) (S t)) _ = _
    by_cases h47 : t = [47]
    · have e : rdF (rowsOf a, b.map val) (S t) = .ok (rowsOf (a ++ [b]), []) := by
        unfold rdF
        rw [if_pos (by rw [h47, lit_slash]; exact decide_eq_true rfl)]
        have room : roomR (rowsOf a) = some () := by
          unfold roomR rowsOf
          rw [if_pos (by rw [List.length_map]; exact Nat.lt_of_lt_of_le (by omega) line_big)]
        rw [req_some room]
        unfold rowsOf
        rw [List.map_append]
        rfl
      rw [e]
      have q := rd_fold ts (a ++ [b]) [] h' (by rw [List.length_append]; simp; omega) (by simp; omega)
      show Res.fold rdF (ts.map S) (rowsOf (a ++ [b]), []) = _
      rw [List.foldl_cons]
      have es : step (a, b) t = (a ++ [b], []) := if_pos h47
      rw [es]
      exact q
    · obtain ⟨w, l30⟩ := (h t (List.mem_cons_self ..)).resolve_left h47
      have e : rdF (rowsOf a, b.map val) (S t) = .ok (rowsOf a, (b ++ [t]).map val) := by
        unfold rdF
        rw [if_neg (by rw [lit_slash, S_eq, decide_eq_false h47]; exact Bool.false_ne_true), req_some (int_ok w l30), req_some (app_ok (x := val t) (by show (b.map val).length < _; rw [List.length_map]; omega)), List.map_append]
        rfl
      rw [e]
      have q := rd_fold ts a (b ++ [t]) h' (by omega) (by rw [List.length_append]; simp; omega)
      rw [List.foldl_cons]
      have es : step (a, b) t = (a, b ++ [t]) := if_neg h47
      rw [es]
      exact q
def cb (t : List Nat) : Bool := !decide (t = [47]) && !numB t
theorem bad_words : ∀ (ts : List (List Nat)), (∀ t ∈ ts, t = [47] ∨ isWord t) → (∀ t ∈ ts, t.length ≤ 1000000) → mapO (fun (x95 : Str) => (Option.bind (if (!decide (x95 = "/")) then (Option.bind (Res.val (m_is_number x95)) fun y100 => (some (!y100))) else some false) fun y102 => (if y102 then (some (some x95)) else some none))) (ts.map S) = some ((ts.filter cb).map S)
  | [], _, _ => rfl
  | t :: ts, h, l => by
    have ih := bad_words ts (fun x hx => h x (List.mem_cons_of_mem _ hx)) (fun x hx => l x (List.mem_cons_of_mem _ hx))
    have e : (Option.bind (if (!decide (S t = "/")) then (Option.bind (Res.val (m_is_number (S t))) fun y100 => (some (!y100))) else some false) fun y102 => (if y102 then (some (some (S t))) else some none)) = if cb t then some (some (S t)) else some none := by
      rw [lit_slash, S_eq]
      unfold cb
      by_cases h47 : t = [47]
      · rw [decide_eq_true h47]
        rfl
      · rw [decide_eq_false h47, val_some (isnum ((h t (List.mem_cons_self ..)).resolve_left h47) (l t (List.mem_cons_self ..)))]
        rfl
    rw [List.map_cons]
    unfold mapO
    rw [e, ih]
    cases c : cb t with
    | true => rw [List.filter_cons_of_pos c]; rfl
    | false => rw [List.filter_cons_of_neg (by rw [c]; exact Bool.false_ne_true)]; rfl
theorem bad_eq : ∀ (ts : List (List Nat)), (!((ts.filter cb).map S).isEmpty) = !((ts.filter fun t => !decide (t = [47])).all numB)
  | [] => rfl
  | t :: ts => by
    have ih := bad_eq ts
    by_cases h47 : t = [47]
    · rw [List.filter_cons_of_neg (by unfold cb; rw [decide_eq_true h47]; exact Bool.false_ne_true), List.filter_cons_of_neg (by rw [decide_eq_true h47]; exact Bool.false_ne_true)]
      exact ih
    · rw [List.filter_cons_of_pos (p := fun t => !decide (t = [47])) (by rw [decide_eq_false h47]; rfl), List.all_cons]
      cases c : numB t with
      | true =>
        rw [List.filter_cons_of_neg (by unfold cb; rw [c, Bool.not_true, Bool.and_false]; exact Bool.false_ne_true), Bool.true_and]
        exact ih
      | false =>
        rw [List.filter_cons_of_pos (by unfold cb; rw [c, decide_eq_false h47]; rfl)]
        rfl
theorem flat_words {ts : List (List Nat)} {P : List (List (List Nat))} (e : (rolls ts).1 ++ [(rolls ts).2] = P) : P.flatten = ts.filter fun t => !decide (t = [47]) := by
  have h := rolls_words ts [] []
  rw [← e, List.flatten_append]
  have e2 : [(rolls ts).2].flatten = (rolls ts).2 := by simp
  rw [e2]
  exact h.trans (by simp)
theorem empty_in (P : List (List (List Nat))) : decide (([] : List Int) ∈ rowsOf P) = decide ([] ∈ P) := by
  rw [Bool.eq_iff_iff, decide_eq_true_eq, decide_eq_true_eq]
  unfold rowsOf
  rw [List.mem_map]
  refine ⟨fun ⟨ws, h, e⟩ => ?_, fun h => ⟨[], h, rfl⟩⟩
  rw [List.map_eq_nil_iff.mp e] at h
  exact h
/-- the words are numbers; no part is empty, at most three -/
def wordsOk (P : List (List (List Nat))) : Bool := P.flatten.all numB
def partsOk (P : List (List (List Nat))) : Bool := !decide ([] ∈ P) && decide (P.length ≤ 3)
def cntOf (rows : List (List Int)) : Res MCounter :=
  Res.req (mapO (fun (x132 : (List Int)) => (Option.bind (Res.val (m_Roll_init x132)) fun y137 => (some (some y137)))) rows) fun y139 =>
  Res.req (Res.val (m_Counter_init y139)) fun y141 =>
  .ok y141
def refused (l : List Nat) : Res MCounter := .err ⟨"InvalidText", (PV.str (S l) : PV)⟩
theorem read_good {l : List Nat} (hg : ∀ c ∈ l, good c = true) (hl : l.length < 1000000) : m_read_counter (.str (S l)) = if wordsOk (parts l) && partsOk (parts l) then cntOf (rowsOf (parts l)) else refused l := by
  obtain ⟨ts, e, l1, l2, pe, tk⟩ := tokens_good hg hl
  have l2' : ∀ t ∈ ts, t.length ≤ 1000000 := fun t ht => by
    have := l2 t ht
    omega
  have fw := flat_words pe
  unfold m_read_counter
  refine req_go (x := some (ts.map S)) ?_ ?_
  · show Option.bind (Res.val (m_tokens_of (S l))) _ = _
    rw [val_some e]
    rfl
  have bad : wordsOk (parts l) = (ts.filter fun t => !decide (t = [47])).all numB := by
    unfold wordsOk
    rw [fw]
  refine req_go (x := !wordsOk (parts l)) ?_ ?_
  · show Option.bind (mapO _ (ts.map S)) _ = _
    rw [bad_words ts tk l2', bad, ← bad_eq]
    rfl
  cases w : wordsOk (parts l) with
  | false => rfl
  | true =>
    rw [Bool.not_true, if_neg Bool.false_ne_true, Bool.true_and]
    have tk30 : ∀ t ∈ ts, t = [47] ∨ (isWord t ∧ t.length ≤ 30) := fun t ht => by
      rcases tk t ht with h | h
      · exact .inl h
      · refine .inr ⟨h, ?_⟩
        rw [bad] at w
        have q := List.all_eq_true.mp w t (List.mem_filter.mpr ⟨ht, by rw [decide_eq_false h.slash]; rfl⟩)
        unfold numB at q
        rw [Bool.and_eq_true, decide_eq_true_eq] at q
        exact q.2
    show Res.req (some (ts.map S)) _ = _
    refine req_go rfl ?_
    have fold := rd_fold ts [] [] tk30 (by simp; omega) (by simp; omega)
    have fe : ts.foldl step ([], []) = rolls ts := rfl
    rw [fe] at fold
    refine bind_go fold ?_
    have rows : rowsOf (rolls ts).1 ++ [(rolls ts).2.map val] = rowsOf (parts l) := by
      rw [← pe]
      unfold rowsOf
      rw [List.map_append]
      rfl
    show (if ((decide (([] : (List Int)) ∈ (rowsOf (rolls ts).1 ++ [(rolls ts).2.map val]))) || (decide ((3 : Int) < ((rowsOf (rolls ts).1 ++ [(rolls ts).2.map val]).length : Int)))) then _ else _) = _
    rw [rows, empty_in]
    have e3 : decide ((3 : Int) < ((rowsOf (parts l)).length : Int)) = !decide ((parts l).length ≤ 3) := by
      unfold rowsOf
      rw [List.length_map, ← decide_not, Bool.eq_iff_iff, decide_eq_true_eq, decide_eq_true_eq]
      omega
    rw [e3]
    unfold partsOk
    cases decide ([] ∈ parts l) <;> cases decide ((parts l).length ≤ 3) <;> rfl
theorem read_bad {l : List Nat} (hb : ∃ c ∈ l, good c = false) (hl : l.length < 1000000) : m_read_counter (.str (S l)) = refused l := by
  unfold m_read_counter
  refine req_go (x := none) ?_ rfl
  show Option.bind (Res.val (m_tokens_of (S l))) _ = _
  rw [val_some (tokens_bad hb hl)]
  rfl
end Px
/-! ## What the mirror of the law's own reading tells -/
namespace Px
open PySem L2 Lf Mi Pl SX PySem StrLaws C8
theorem repl_flat : ∀ l : List Nat, replL [10] [32] l = flat l
  | [] => replL_nil
  | c :: r => by
    by_cases h : c = 10
    · rw [replL_hit (by simp) (by rw [h]; rfl)]
      show [32] ++ replL [10] [32] r = _
      rw [repl_flat r]
      unfold flat
      rw [List.map_cons, if_pos h]
      rfl
    · rw [replL_miss (by intro e; exact h (by injection e)), repl_flat r]
      unfold flat
      rw [List.map_cons, if_neg h]
theorem flat_len (l : List Nat) : (flat l).length = l.length := List.length_map _
theorem repl_ok {l : List Nat} (hl : l.length ≤ 1000000) : replO (S l) "\n" " " = some (S (flat l)) := by
  unfold replO
  have one : (" " : Str).length = 1 := by rw [lit_sp]; rfl
  rw [if_pos (by rw [one, S_len]; omega), lit_nl, lit_sp]
  congr 1
  refine TL.ext_tl ?_
  show (Txt.replace (S l) (S [10]) (S [32])).cps.toList = flat l
  rw [replace_list (by decide)]
  exact repl_flat l
theorem spl_len (s : Nat) : ∀ (p acc : List Nat), (TL.spl [s] 0 acc p).length ≤ p.length + 1
  | [], acc => by rw [TL.spl_nil]; exact Nat.le_refl _
  | c :: r, acc => by
    rw [spl1, List.length_cons]
    by_cases h : c = s
    · rw [if_pos h, List.length_cons]
      exact Nat.succ_le_succ (spl_len s r [])
    · rw [if_neg h]
      exact Nat.le_succ_of_le (spl_len s r _)
theorem spl_mem (s : Nat) : ∀ (p acc w : List Nat), w ∈ TL.spl [s] 0 acc p → (∀ c ∈ w, c ∈ acc ∨ (c ∈ p ∧ c ≠ s)) ∧ w.length ≤ acc.length + p.length
  | [], acc, w, h => by
    rw [TL.spl_nil] at h
    rw [List.mem_singleton.mp h]
    exact ⟨fun c hc => .inl hc, Nat.le_refl _⟩
  | c :: r, acc, w, h => by
    rw [spl1] at h
    by_cases e : c = s
    · rw [if_pos e] at h
      rcases List.mem_cons.mp h with h | h
      · rw [h]
        exact ⟨fun c hc => .inl hc, Nat.le_add_right _ _⟩
      · obtain ⟨q1, q2⟩ := spl_mem s r [] w h
        refine ⟨fun x hx => ?_, ?_⟩
        · rcases q1 x hx with q | ⟨q, n⟩
          · exact (List.not_mem_nil q).elim
          · exact .inr ⟨List.mem_cons_of_mem _ q, n⟩
        · rw [List.length_cons]
          simp at q2
          omega
    · rw [if_neg e] at h
      obtain ⟨q1, q2⟩ := spl_mem s r _ w h
      refine ⟨fun x hx => ?_, ?_⟩
      · rcases q1 x hx with q | ⟨q, n⟩
        · rcases List.mem_append.mp q with q | q
          · exact .inl q
          · exact .inr ⟨by rw [List.mem_singleton.mp q]; exact List.mem_cons_self .., by rw [List.mem_singleton.mp q]; exact e⟩
        · exact .inr ⟨List.mem_cons_of_mem _ q, n⟩
      · rw [List.length_append, List.length_singleton] at q2
        rw [List.length_cons]
        omega
theorem split_ok {s : Nat} (hs : s < 256) {p : List Nat} (hl : p.length ≤ 1000000) : splitO (S p) (S [s]) = some ((TL.spl [s] 0 [] p).map S) := by
  unfold splitO
  have e := split_S (a := p) (b := [s]) (by simp) (by simp [hs])
  rw [e]
  have := spl_len s p []
  have b := line_big
  refine if_pos ⟨rfl, by rw [S_len]; omega, by rw [List.length_map]; omega⟩
/-- what a part may hold -/
def pchar (c : Nat) : Bool := dig c || decide (c = 32)
theorem words_word {p : List Nat} (hp : ∀ c ∈ p, pchar c = true) : ∀ w ∈ wordsOf p, isWord w ∧ w.length ≤ p.length := fun w hw => by
  unfold wordsOf at hw
  rw [List.mem_filter] at hw
  obtain ⟨h, n⟩ := hw
  obtain ⟨q1, q2⟩ := spl_mem 32 p [] w h
  refine ⟨⟨fun e => ?_, fun c hc => ?_⟩, by simpa using q2⟩
  · rw [e] at n
    cases n
  · rcases q1 c hc with q | ⟨q, e⟩
    · exact (List.not_mem_nil q).elim
    · have := hp c q
      unfold pchar at this
      rw [decide_eq_false e, Bool.or_false] at this
      exact this
theorem words_few (p : List Nat) : (wordsOf p).length ≤ p.length + 1 := Nat.le_trans (List.length_filter_le _ _) (spl_len 32 p [])
def okWs (ws : List (List Nat)) : Bool := !decide (ws = []) && ws.all numB
theorem cut_1 {w : List Nat} (h : w.length ≤ 1000000) : cutT (S w) none (some (1 : Int)) = some (S (w.take 1)) := by
  unfold cutT
  rw [if_pos (by rw [S_len]; exact Nat.le_trans (Nat.le_trans h (by decide)) line_big), cutS_slice, slice_to (by decide)]
  rfl
theorem head_1 {w : List Nat} : decide (S (w.take 1) = "0") = decide (w.head? = some 48) := by
  rw [lit_0, S_eq, Bool.eq_iff_iff, decide_eq_true_eq, decide_eq_true_eq]
  cases w with
  | nil => exact ⟨(fun h => by cases h), (fun h => by cases h)⟩
  | cons c r =>
    show [c] = [48] ↔ some c = some 48
    simp
theorem bad_ws : ∀ (ws : List (List Nat)), (∀ w ∈ ws, w.length ≤ 1000000) → mapO (fun (x265 : Str) => (Option.bind (cutT x265 none (some (1 : Int))) fun y270 => (Option.bind (if (decide (y270 = "0")) then some true else (Option.bind (fits x265) fun y272 => (some (decide ((30 : Int) < (x265.length : Int)))))) fun y274 => (if y274 then (some (some x265)) else some none)))) (ws.map S) = some ((ws.filter fun w => !numB w).map S)
  | [], _ => rfl
  | w :: ws, l => by
    have ih := bad_ws ws fun x hx => l x (List.mem_cons_of_mem _ hx)
    have lw := l w (List.mem_cons_self ..)
    have e : (Option.bind (cutT (S w) none (some (1 : Int))) fun y270 => (Option.bind (if (decide (y270 = "0")) then some true else (Option.bind (fits (S w)) fun y272 => (some (decide ((30 : Int) < ((S w).length : Int)))))) fun y274 => (if y274 then (some (some (S w))) else some none))) = if !numB w then some (some (S w)) else some none := by
      rw [cut_1 lw]
      show (Option.bind (if (decide (S (w.take 1) = "0")) then some true else (Option.bind (fits (S w)) fun y272 => (some (decide ((30 : Int) < ((S w).length : Int)))))) fun y274 => (if y274 then (some (some (S w))) else some none)) = _
      rw [head_1]
      unfold numB
      cases decide (w.head? = some 48) with
      | true => rfl
      | false =>
        rw [if_neg Bool.false_ne_true, fits_ok (by omega)]
        show (if decide ((30 : Int) < ((S w).length : Int)) = true then some (some (S w)) else some none) = _
        have e2 : decide ((30 : Int) < ((S w).length : Int)) = !decide (w.length ≤ 30) := by
          rw [S_len, ← decide_not, Bool.eq_iff_iff, decide_eq_true_eq, decide_eq_true_eq]
          omega
        rw [e2, Bool.not_false, Bool.true_and]
    rw [List.map_cons]
    unfold mapO
    rw [e, ih]
    cases c : (!numB w) with
    | true => rw [List.filter_cons_of_pos (p := fun w => !numB w) c]; rfl
    | false => rw [List.filter_cons_of_neg (p := fun w => !numB w) (by rw [c]; exact Bool.false_ne_true)]; rfl
theorem none_bad : ∀ (ws : List (List Nat)), (!((ws.filter fun w => !numB w).map S).isEmpty) = !ws.all numB
  | [] => rfl
  | w :: ws => by
    have ih := none_bad ws
    rw [List.all_cons]
    cases c : numB w with
    | true =>
      rw [List.filter_cons_of_neg (p := fun w => !numB w) (by rw [c]; exact Bool.false_ne_true), Bool.true_and]
      exact ih
    | false =>
      rw [List.filter_cons_of_pos (p := fun w => !numB w) (by rw [c]; rfl)]
      rfl
theorem some_ws (ws : List (List Nat)) : List.map (fun (x258 : Str) => x258) (List.filter (fun (x258 : Str) => (!decide (x258 = ""))) (ws.map S)) = (ws.filter ne).map S := by
  rw [List.map_id', List.filter_map]
  congr 1
  refine List.filter_congr fun w _ => ?_
  show (!decide (S w = "")) = ne w
  rw [lit_e, S_eq]
  rfl
def dueF (s254 : (List (List Int))) (x255 : Str) : Res (Ctl (List (List Int)) (Option (List (List Int)))) :=
  Res.req (splitO x255 " ") fun y256 =>
  Res.req (some (List.map (fun (x258 : Str) => x258) (List.filter (fun (x258 : Str) => (!decide (x258 = ""))) y256))) fun y263 =>
  Res.req (if ((y263 : (List Str)).isEmpty) then some true else (Option.bind (mapO (fun (x265 : Str) => (Option.bind (cutT x265 none (some (1 : Int))) fun y270 => (Option.bind (if (decide (y270 = "0")) then some true else (Option.bind (fits x265) fun y272 => (some (decide ((30 : Int) < (x265.length : Int)))))) fun y274 => (if y274 then (some (some x265)) else some none)))) y263) fun y277 => (some (!(y277 : (List Str)).isEmpty)))) fun y280 =>
  (if y280 then Res.esc (.ok none) else
  Res.req (mapO (fun (x285 : Str) => (Option.bind (intO x285) fun y290 => (some (some y290)))) y263) fun y292 =>
  Res.req (app s254 y292) fun y294 =>
  .ok (.nx y294))
theorem due_one {acc : List (List Int)} {p : List Nat} (hp : ∀ c ∈ p, pchar c = true) (lp : p.length < 1000000) (la : acc.length < 1000000) : dueF acc (S p) = if okWs (wordsOf p) then .ok (.nx (acc ++ [(wordsOf p).map val])) else .ok (.rt none) := by
  have w := words_word hp
  have wl : ∀ x ∈ wordsOf p, x.length ≤ 1000000 := fun x hx => by
    have := (w x hx).2
    omega
  unfold dueF
  rw [lit_sp]
  refine req_go (split_ok (by decide) (by omega)) ?_
  refine req_go (congrArg some (some_ws _)) ?_
  show Res.req (if ((wordsOf p).map S).isEmpty = true then some true else (Option.bind (mapO _ ((wordsOf p).map S)) fun y277 => (some (!(y277 : (List Str)).isEmpty)))) _ = _
  rw [bad_ws _ wl]
  refine req_go (x := !okWs (wordsOf p)) ?_ ?_
  · unfold okWs
    by_cases e : wordsOf p = []
    · rw [e]
      rfl
    · rw [decide_eq_false e, if_neg (by rw [List.isEmpty_map]; cases q : wordsOf p with | nil => exact absurd q e | cons => exact Bool.false_ne_true)]
      show some (!((List.filter (fun w => !numB w) (wordsOf p)).map S).isEmpty) = _
      rw [none_bad]
      rfl
  cases ok : okWs (wordsOf p) with
  | false => rfl
  | true =>
    rw [Bool.not_true, if_neg Bool.false_ne_true, if_pos rfl]
    have nums : ∀ x ∈ wordsOf p, numB x = true := fun x hx => by
      unfold okWs at ok
      rw [Bool.and_eq_true] at ok
      exact List.all_eq_true.mp ok.2 x hx
    have nums2 : ∀ ws : List (List Nat), (∀ x ∈ ws, isWord x ∧ numB x = true) → mapO (fun (x285 : Str) => (Option.bind (intO x285) fun y290 => (some (some y290)))) (ws.map S) = some (ws.map val) := by
      intro ws
      induction ws with
      | nil => intro _; rfl
      | cons x xs ih =>
        intro h
        obtain ⟨hx, hn⟩ := h x (List.mem_cons_self ..)
        unfold numB at hn
        rw [Bool.and_eq_true, decide_eq_true_eq] at hn
        rw [List.map_cons]
        unfold mapO
        rw [int_ok hx hn.2, ih fun y hy => h y (List.mem_cons_of_mem _ hy)]
        rfl
    exact req_go (nums2 (wordsOf p) fun x hx => ⟨(w x hx).1, nums x hx⟩) (req_go (app_ok (by omega)) rfl)
theorem due_loop : ∀ (ps : List (List Nat)) (acc : List (List Int)), (∀ p ∈ ps, (∀ c ∈ p, pchar c = true) ∧ p.length < 1000000) → acc.length + ps.length < 1000000 →
    Res.loop dueF (ps.map S) acc = if (ps.map wordsOf).all okWs then .ok (.nx (acc ++ rowsOf (ps.map wordsOf))) else .ok (.rt none)
  | [], acc, _, _ => by
    show _ = Res.ok (Ctl.nx (acc ++ []))
    rw [List.append_nil]
    rfl
  | p :: ps, acc, h, l => by
    obtain ⟨hp, lp⟩ := h p (List.mem_cons_self ..)
    rw [List.length_cons] at l
    show Res.bind (dueF acc (S p)) _ = _
    rw [due_one hp lp (by omega), List.map_cons, List.all_cons]
    cases okWs (wordsOf p) with
    | false => rfl
    | true =>
      have ih := due_loop ps (acc ++ [(wordsOf p).map val]) (fun x hx => h x (List.mem_cons_of_mem _ hx)) (by rw [List.length_append]; simp; omega)
      show Res.loop dueF (ps.map S) _ = _
      rw [ih, Bool.true_and, List.append_assoc]
      rfl
theorem all_good : ∀ (l : List Nat), mapO (fun (x237 : Str) => (Option.bind (sgnIn x237 "0123456789/ \n") fun y242 => (if (!y242) then (some (some x237)) else some none))) (chars l) = some ((l.filter fun c => !good c).map fun c => S [c])
  | [] => rfl
  | c :: r => by
    have ih := all_good r
    have e : (Option.bind (sgnIn (S [c]) "0123456789/ \n") fun y242 => (if (!y242) then (some (some (S [c]))) else some none)) = if !good c then some (some (S [c])) else some none := by
      rw [sgn_all]
      rfl
    show mapO _ (S [c] :: chars r) = _
    unfold mapO
    rw [e, ih]
    cases g : (!good c) with
    | true => rw [List.filter_cons_of_pos (p := fun c => !good c) g]; rfl
    | false => rw [List.filter_cons_of_neg (p := fun c => !good c) (by rw [g]; exact Bool.false_ne_true)]; rfl
theorem none_off {l : List Nat} : (!((l.filter fun c => !good c).map fun c => (S [c] : Str)).isEmpty) = !l.all good := by
  induction l with
  | nil => rfl
  | cons c r ih =>
    rw [List.all_cons]
    cases g : good c with
    | true =>
      rw [List.filter_cons_of_neg (p := fun c => !good c) (by rw [g]; exact Bool.false_ne_true), Bool.true_and]
      exact ih
    | false =>
      rw [List.filter_cons_of_pos (p := fun c => !good c) (by rw [g]; rfl)]
      rfl
def dueOf (l : List Nat) : Option (List (List Int)) := if l.all good && ((parts l).all okWs && decide ((parts l).length ≤ 3)) then some (rowsOf (parts l)) else none
theorem due_ok {l : List Nat} (hl : l.length < 900000) : m_l_due (S l) = .ok (dueOf l) := by
  unfold m_l_due
  refine req_go (fits_ok (by omega)) ?_
  refine req_go (all_good l) ?_
  rw [none_off]
  unfold dueOf
  cases g : l.all good with
  | false => rfl
  | true =>
    rw [Bool.not_true, if_neg Bool.false_ne_true, Bool.true_and]
    refine req_go (repl_ok (by omega)) ?_
    rw [lit_slash]
    refine req_go (split_ok (by decide) (by rw [flat_len]; omega)) ?_
    have sp : ∀ p ∈ TL.spl [47] 0 [] (flat l), (∀ c ∈ p, pchar c = true) ∧ p.length < 1000000 := fun p hp => by
      obtain ⟨q1, q2⟩ := spl_mem 47 (flat l) [] p hp
      rw [flat_len] at q2
      refine ⟨fun c hc => ?_, by simp at q2; omega⟩
      rcases q1 c hc with q | ⟨q, n⟩
      · exact (List.not_mem_nil q).elim
      · unfold flat at q
        obtain ⟨x, hx, ex⟩ := List.mem_map.mp q
        have gx := List.all_eq_true.mp g x hx
        unfold pchar
        by_cases h10 : x = 10
        · rw [if_pos h10] at ex
          rw [← ex]
          rfl
        · rw [if_neg h10] at ex
          subst ex
          unfold good at gx
          rw [decide_eq_false n, decide_eq_false h10, Bool.false_or, Bool.or_false] at gx
          exact gx
    have few := spl_len 47 (flat l) []
    rw [flat_len] at few
    have loop := due_loop _ [] sp (by simp; omega)
    rw [parts_spl, List.nil_append] at loop
    show Res.after (Res.loop dueF ((TL.spl [47] 0 [] (flat l)).map S) []) _ _ = _
    rw [loop]
    cases (parts l).all okWs with
    | false => rfl
    | true =>
      rw [if_pos rfl, Bool.true_and]
      show Res.ok (if (decide (((rowsOf (parts l)).length : Int) ≤ (3 : Int))) then (some (rowsOf (parts l))) else none) = _
      have e3 : decide (((rowsOf (parts l)).length : Int) ≤ (3 : Int)) = decide ((parts l).length ≤ 3) := by
        unfold rowsOf
        rw [List.length_map, Bool.eq_iff_iff, decide_eq_true_eq, decide_eq_true_eq]
        omega
      rw [e3]
theorem same_ok (P : List (List (List Nat))) : (P.all okWs && decide (P.length ≤ 3)) = (wordsOk P && partsOk P) := by
  have e : P.all okWs = (wordsOk P && !decide ([] ∈ P)) := by
    unfold wordsOk
    induction P with
    | nil => rfl
    | cons ws P ih =>
      rw [List.all_cons, ih, List.flatten_cons, List.all_append]
      unfold okWs
      rw [Bool.eq_iff_iff]
      simp only [Bool.and_eq_true, Bool.not_eq_true', decide_eq_false_iff_not, List.mem_cons, not_or]
      constructor
      · rintro ⟨⟨a, b⟩, c, d⟩
        exact ⟨⟨b, c⟩, fun h => a h.symm, d⟩
      · rintro ⟨⟨b, c⟩, a, d⟩
        exact ⟨⟨fun h => a h.symm, b⟩, c, d⟩
  rw [e]
  unfold partsOk
  rw [Bool.and_assoc]
end Px
/-! ## Each text is read right -/
namespace Px
open PySem L2 Lf Mi Pl SX
theorem fold_pos : ∀ (l : List Nat) (a : Nat), 1 ≤ a → 1 ≤ l.foldl (fun acc c => acc * 10 + (c - 48)) a
  | [], a, h => h
  | c :: l, a, h => fold_pos l (a * 10 + (c - 48)) (by omega)
theorem val_pos {w : List Nat} (h : isWord w) (n : numB w = true) : 1 ≤ val w := by
  cases w with
  | nil => exact absurd rfl h.1
  | cons c r =>
    have d := h.2 c (List.mem_cons_self ..)
    unfold dig at d
    rw [Bool.and_eq_true, decide_eq_true_eq, decide_eq_true_eq] at d
    have n0 : c ≠ 48 := fun e => by
      unfold numB at n
      rw [e] at n
      simp at n
    have q := fold_pos r (0 * 10 + (c - 48)) (by omega)
    unfold val
    have : 1 ≤ NumText.digitsVal (c :: r) := q
    omega
/-! ### a counter of rows -/
theorem roll_some {ns : List Int} (some_ : ns ≠ []) (pos : ∀ x ∈ ns, 1 ≤ x) (len : ns.length < 1000000) : ∃ r, m_Roll_init ns = .ok r := by
  unfold m_Roll_init
  rw [decide_eq_false some_]
  have one : ∀ x ∈ ns, Res.req (Res.val (m_is_whole x)) (fun y9 => (if ((!y9) || (decide (x < (1 : Int)))) then (.bad : Res Unit) else .ok ())) = .ok () := fun x hx => by
    have p := pos x hx
    refine reqv (show m_is_whole x = .ok true from rfl) ?_
    rw [decide_eq_false (by omega)]
    rfl
  obtain ⟨s, e, _⟩ := fold_inv (f := fun (s7 : Unit) (x8 : Int) => Res.req (Res.val (m_is_whole x8)) fun y9 => (if ((!y9) || (decide (x8 < (1 : Int)))) then (.bad : Res Unit) else .ok ())) (xs := ns) (s0 := ()) (fun _ _ => True) trivial fun i x s hx _ => ⟨(), one x (List.mem_of_getElem? hx), trivial⟩
  obtain ⟨fs, e2, _⟩ := fold_inv (f := fun (s16 : (List Int)) (x17 : Int) => Res.req (atI s16 (-(1 : Int))) fun y18 => Res.req (app s16 (y18 + x17)) fun y20 => .ok y20) (xs := ns) (s0 := [(0 : Int)]) (fun i s => s.length = i + 1) rfl fun i x s hx hs => by
    have hi := (List.getElem?_eq_some_iff.mp hx).1
    have n : s ≠ [] := fun z => by
      rw [z] at hs
      cases hs
    have l : s.getLast? = some (s.getLast n) := List.getLast?_eq_some_getLast n
    exact ⟨_, req_go (atI_last l) (req_go (app_ok (by omega)) rfl), by rw [List.length_append]; simp; omega⟩
  exact ⟨_, bind_go e (bind_go e2 rfl)⟩
theorem rolls_some : ∀ (rows : List (List Int)), (∀ ns ∈ rows, ns ≠ [] ∧ (∀ x ∈ ns, 1 ≤ x) ∧ ns.length < 1000000) → ∃ rs, mapO (fun (x132 : (List Int)) => (Option.bind (Res.val (m_Roll_init x132)) fun y137 => (some (some y137)))) rows = some rs ∧ rs.length = rows.length
  | [], _ => ⟨[], rfl, rfl⟩
  | ns :: rows, h => by
    obtain ⟨a, b, c⟩ := h ns (List.mem_cons_self ..)
    obtain ⟨r, e⟩ := roll_some a b c
    obtain ⟨rs, e2, l⟩ := rolls_some rows fun x hx => h x (List.mem_cons_of_mem _ hx)
    refine ⟨r :: rs, ?_, by rw [List.length_cons, List.length_cons, l]⟩
    unfold mapO
    rw [val_some e, e2]
    rfl
theorem cnt_some {rows : List (List Int)} (h : ∀ ns ∈ rows, ns ≠ [] ∧ (∀ x ∈ ns, 1 ≤ x) ∧ ns.length < 1000000) (few : 1 ≤ rows.length ∧ rows.length ≤ 3) : ∃ c, cntOf rows = .ok c := by
  obtain ⟨rs, e, l⟩ := rolls_some rows h
  have init : ∃ c, m_Counter_init rs = .ok c := by
    unfold m_Counter_init
    rw [decide_eq_true (by omega : (1 : Int) ≤ (rs.length : Int)), decide_eq_true (by omega : (rs.length : Int) ≤ (3 : Int))]
    obtain ⟨s, e3, _⟩ := fold_inv (f := fun (s32 : Unit) (x33 : MRoll) => (if (!true) then (.bad : Res Unit) else .ok ())) (xs := rs) (s0 := ()) (fun _ _ => True) trivial fun _ _ _ _ _ => ⟨(), rfl, trivial⟩
    exact ⟨_, bind_go e3 rfl⟩
  obtain ⟨c, ec⟩ := init
  exact ⟨c, req_go e (reqv ec rfl)⟩
theorem all_same : ∀ l : List MRoll, allT rowB l l = true
  | [] => rfl
  | x :: l => by
    show (rowB x x && allT rowB l l) = true
    rw [all_same l]
    unfold rowB
    rw [decide_eq_true rfl]
    rfl
theorem cnt_same (c : MCounter) : m_Counter_eq c c = .ok true := by
  unfold m_Counter_eq
  rw [all_same]
  rfl
/-- what the parts of a text with good signs are like -/
theorem parts_like {l : List Nat} (hg : ∀ c ∈ l, good c = true) (hl : l.length < 1000000) : 1 ≤ (parts l).length ∧ (∀ w ∈ (parts l).flatten, isWord w) ∧ ∀ ws ∈ parts l, ws.length ≤ l.length := by
  obtain ⟨ts, _, l1, _, pe, tk⟩ := tokens_good hg hl
  have fw := flat_words pe
  refine ⟨by rw [← pe, List.length_append]; simp, fun w hw => ?_, fun ws hws => ?_⟩
  · rw [fw] at hw
    obtain ⟨h1, h2⟩ := List.mem_filter.mp hw
    refine (tk w h1).resolve_left fun e => ?_
    rw [decide_eq_true e] at h2
    cases h2
  · have a : ws.length ≤ (parts l).flatten.length := List.Sublist.length_le (List.sublist_flatten_of_mem hws)
    have b : (parts l).flatten.length ≤ ts.length := by
      rw [fw]
      exact List.length_filter_le _ _
    omega
theorem told_str {l : List Nat} (hl : l.length ≤ 900000) (hc : ∀ c ∈ l, c < 128) : ∃ t, toldP (.str (S l)) = some t := by
  refine ⟨(PyData.str (S l)).shown, ?_⟩
  have big : (reprText (S l)).length ≤ 10 * (S l).length + 2 := StrLaws.reprText_len (S l) fun c h => Nat.lt_of_lt_of_le (hc c h) (by decide)
  have len : (S l).length = l.length := S_len l
  rw [len] at big
  unfold toldP
  show (if _ ∧ _ ∧ _ ∧ _ then _ else none) = _
  have ok : PyData.strOk (S l) = true := by
    unfold PyData.strOk
    rw [← Array.all_toList]
    exact List.all_eq_true.mpr fun c h => decide_eq_true (Nat.lt_of_lt_of_le (hc c h) (by decide))
  refine if_pos ⟨rfl, by simp only [PyData.canLay0]; exact ok, by simp only [PyData.depth]; omega, ?_⟩
  have e : (PyData.str (S l)).shown = reprText (S l) := by simp only [PyData.shown]
  rw [e]
  exact Nat.le_trans big (Nat.le_trans (by omega) line_big)
theorem mul_small {rows : List (List Int)} (few : rows.length ≤ 3) (len : ∀ ns ∈ rows, ns.length < 1000000) : ∃ z, Res.fold (fun (s317 : Int) (x318 : (List Int)) => Res.req (imul s317 (x318.length : Int)) fun y319 => .ok y319) rows (1 : Int) = .ok z := by
  obtain ⟨z, e, _⟩ := fold_inv (f := fun (s317 : Int) (x318 : (List Int)) => Res.req (imul s317 (x318.length : Int)) fun y319 => .ok y319) (xs := rows) (s0 := (1 : Int)) (fun i s => s.natAbs < 2 ^ (24 * (i + 1))) (by decide) fun i x s hx hs => by
    have hi := (List.getElem?_eq_some_iff.mp hx).1
    have lx := len x (List.mem_of_getElem? hx)
    have l24 : x.length < 2 ^ 24 := Nat.lt_trans lx (by decide)
    have lb : (x.length : Int).natAbs < 2 ^ 24 := l24
    refine ⟨s * (x.length : Int), req_go (imul_ok (Nat.lt_of_lt_of_le hs (pow_mono (by omega))) (Nat.lt_of_lt_of_le lb (pow_mono (by omega)))) rfl, ?_⟩
    rw [Int.natAbs_mul, show 24 * (i + 1 + 1) = 24 * (i + 1) + 24 by omega, Nat.pow_add]
    exact Nat.mul_lt_mul'' hs lb
  exact ⟨z, e⟩
theorem right_ok {l : List Nat} (hl : l.length < 900000) (hc : ∀ c ∈ l, c < 128) : m_l_right (S l) = .ok true := by
  have due := due_ok hl
  unfold m_l_right
  refine reqv due ?_
  have no : ∀ (q : dueOf l = none) (r : m_read_counter (PV.of (S l : Str)) = refused l), (Res.bind (Res.told ["InvalidText"] (none : (Option MCounter)) some (m_read_counter (PV.of (S l : Str)))) fun y300 =>
      (if (dueOf l).isNone then Res.req (isE ["InvalidText"] y300.1 "InvalidText") fun y304 =>
      Res.req (if y304 then (Option.bind (valE ["InvalidText"] y300.1) fun y306 => (Option.bind (toldP y306) fun y308 => (Option.bind (toldP (PV.of (S l : Str))) fun y310 => (some (decide (y308 = y310)))))) else some false) fun y312 =>
      .ok y312 else (.bad : Res Bool))) = .ok true := by
    intro q r
    rw [q, r]
    obtain ⟨t, et⟩ := told_str (l := l) (by omega) hc
    have yes : Res.told ["InvalidText"] (none : (Option MCounter)) some (refused l) = .ok (some ⟨"InvalidText", (PV.str (S l) : PV)⟩, none) := by
      unfold refused Res.told
      exact if_pos (List.mem_singleton.mpr rfl)
    refine bind_go yes ?_
    refine (if_pos (c := (none : Option (List (List Int))).isNone = true) rfl).trans ?_
    have is : isE ["InvalidText"] (some (⟨"InvalidText", (PV.str (S l) : PV)⟩ : Exn)) "InvalidText" = some true := by
      unfold isE
      dsimp only
      rw [if_pos (List.mem_singleton.mpr rfl), decide_eq_true rfl]
    refine req_go is ?_
    have vl : valE ["InvalidText"] (some (⟨"InvalidText", (PV.str (S l) : PV)⟩ : Exn)) = some (.str (S l)) := by
      unfold valE
      dsimp only
      rw [if_pos (List.mem_singleton.mpr rfl)]
    refine req_go (x := true) ?_ rfl
    rw [if_pos rfl]
    dsimp only
    rw [vl]
    show (Option.bind (toldP (.str (S l))) fun y308 => (Option.bind (toldP (.str (S l))) fun y310 => (some (decide (y308 = y310))))) = _
    rw [et]
    show some (decide (t = t)) = _
    rw [decide_eq_true rfl]
  cases g : l.all good with
  | false =>
    have q : dueOf l = none := by
      unfold dueOf
      rw [g]
      rfl
    have hb : ∃ c ∈ l, good c = false := by
      obtain ⟨c, hc, n⟩ := List.all_eq_false.mp g
      exact ⟨c, hc, by simpa using n⟩
    have w := no q (read_bad hb (by omega))
    rw [q] at w ⊢
    exact w
  | true =>
    have hg : ∀ c ∈ l, good c = true := List.all_eq_true.mp g
    have read := read_good hg (by omega)
    cases ok : (wordsOk (parts l) && partsOk (parts l)) with
    | false =>
      rw [ok, if_neg Bool.false_ne_true] at read
      have q : dueOf l = none := by
        unfold dueOf
        rw [same_ok, ok, Bool.and_false]
        rfl
      have w := no q read
      rw [q] at w ⊢
      exact w
    | true =>
      rw [ok, if_pos rfl] at read
      have q : dueOf l = some (rowsOf (parts l)) := by
        unfold dueOf
        rw [same_ok, ok, g]
        rfl
      obtain ⟨p1, p2, p3⟩ := parts_like hg (by omega)
      rw [Bool.and_eq_true] at ok
      obtain ⟨o1, o2⟩ := ok
      unfold partsOk at o2
      rw [Bool.and_eq_true, decide_eq_true_eq, Bool.not_eq_true', decide_eq_false_iff_not] at o2
      have like : ∀ ns ∈ rowsOf (parts l), ns ≠ [] ∧ (∀ x ∈ ns, 1 ≤ x) ∧ ns.length < 1000000 := fun ns hns => by
        obtain ⟨ws, hws, rfl⟩ := List.mem_map.mp hns
        refine ⟨fun e => o2.1 (List.map_eq_nil_iff.mp e ▸ hws), fun x hx => ?_, by rw [List.length_map]; have := p3 ws hws; omega⟩
        obtain ⟨w, hw, rfl⟩ := List.mem_map.mp hx
        have hf : w ∈ (parts l).flatten := List.mem_flatten.mpr ⟨ws, hws, hw⟩
        exact val_pos (p2 w hf) (List.all_eq_true.mp o1 w hf)
      have few : 1 ≤ (rowsOf (parts l)).length ∧ (rowsOf (parts l)).length ≤ 3 := by
        unfold rowsOf
        rw [List.length_map]
        exact ⟨p1, o2.2⟩
      obtain ⟨c, ec⟩ := cnt_some like few
      rw [ec] at read
      rw [q]
      have told : Res.told ["InvalidText"] (none : (Option MCounter)) some (m_read_counter (PV.of (S l : Str))) = .ok (none, some c) := by
        rw [show m_read_counter (PV.of (S l : Str)) = .ok c from read]
        rfl
      refine bind_go told ?_
      generalize rowsOf (parts l) = rows at ec few like
      obtain ⟨z, ez⟩ := mul_small few.2 fun ns h => (like ns h).2.2
      refine (if_neg (c := (some rows).isNone = true) Bool.false_ne_true).trans ?_
      refine req_go (x := rows) rfl (bind_go ez ?_)
      have same : (Option.bind (some rows) fun y335 => (Option.bind (Res.val (m_l_counter y335)) fun y337 => (Option.bind (some rows) fun y339 => (Option.bind (Res.val (m_l_counter y339)) fun y341 => (Option.bind (some c) fun y343 => (Option.bind (Res.val (m_Counter_eq y343 y341)) fun y345 => (some y345))))))) = some true := by
        have lc : m_l_counter rows = .ok c := ec
        show (Option.bind (Res.val (m_l_counter rows)) fun y337 => (Option.bind (Res.val (m_l_counter rows)) fun y341 => (Option.bind (Res.val (m_Counter_eq c y341)) fun y345 => (some y345)))) = _
        rw [val_some lc]
        show (Option.bind (Res.val (m_Counter_eq c c)) fun y345 => (some y345)) = _
        rw [val_some (cnt_same c)]
        rfl
      have some_b : ∃ b, (if (decide ((200 : Int) < z)) then some true else (Option.bind (some rows) fun y323 => (some (!decide ((List.map (fun (x325 : (List Int)) => x325) (List.filter (fun (x325 : (List Int)) => ((decide ((8 : Int) < (x325.length : Int))) || (decide ((1000 : Int) < x325.sum)))) y323)) = []))))) = some b := by
        split
        · exact ⟨_, rfl⟩
        · exact ⟨_, rfl⟩
      obtain ⟨b, eb⟩ := some_b
      refine req_go eb ?_
      cases b with
      | true => rfl
      | false => exact req_go same rfl
end Px
/-! ## Rolls, strips: the mathematics -/
namespace Pm
open PySem
/-- the sum of the first i worths -/
def pre (ws : List Int) (i : Nat) : Int := (ws.take i).sum
/-- what __init__ stores as firsts -/
def firsts (ws : List Int) : List Int := (List.range (ws.length + 1)).map (pre ws)
theorem firsts_len (ws : List Int) : (firsts ws).length = ws.length + 1 := by simp [firsts]
theorem firsts_at {ws : List Int} {i : Nat} (h : i ≤ ws.length) : (firsts ws)[i]? = some (pre ws i) := by
  unfold firsts
  rw [List.getElem?_map, List.getElem?_range (by omega)]
  rfl
theorem firsts_last (ws : List Int) : (firsts ws).getLast? = some ws.sum := by
  rw [List.getLast?_eq_getElem?, firsts_len, Nat.add_sub_cancel, firsts_at (Nat.le_refl _)]
  show some ((ws.take ws.length).sum) = _
  rw [List.take_length]
/-- the sum of the first n stamps of the roll -/
def upto (ws : List Int) (n : Nat) : Int := ((n / ws.length : Nat) : Int) * ws.sum + pre ws (n % ws.length)
/-- the row torn at n -/
def tornL (ws : List Int) (n : Nat) : List Int := ws.drop (n % ws.length) ++ ws.take (n % ws.length)
theorem tornL_len (ws : List Int) (n : Nat) : (tornL ws n).length = ws.length := by
  unfold tornL
  rw [List.length_append, List.length_drop, List.length_take]
  omega
/-- a row that a roll may be made of -/
structure Row (ws : List Int) : Prop where
  ne : ws ≠ []
  pos : ∀ z ∈ ws, 1 ≤ z
  big : ∀ z ∈ ws, z < 2 ^ 200
  len : ws.length ≤ 1000
theorem Row.n0 {ws : List Int} (r : Row ws) : 0 < ws.length := List.length_pos_iff.mpr r.ne
theorem Row.torn {ws : List Int} (r : Row ws) (n : Nat) : Row (tornL ws n) where
  ne := fun e => by
    have := tornL_len ws n
    rw [e] at this
    have := r.n0
    simp at *
    omega
  pos := fun z h => by
    unfold tornL at h
    rcases List.mem_append.mp h with h | h
    · exact r.pos z (List.mem_of_mem_drop h)
    · exact r.pos z (List.mem_of_mem_take h)
  big := fun z h => by
    unfold tornL at h
    rcases List.mem_append.mp h with h | h
    · exact r.big z (List.mem_of_mem_drop h)
    · exact r.big z (List.mem_of_mem_take h)
  len := by rw [tornL_len]; exact r.len
theorem Row.rev {ws : List Int} (r : Row ws) : Row ws.reverse where
  ne := fun e => r.ne (List.reverse_eq_nil_iff.mp e)
  pos := fun z h => r.pos z (List.mem_reverse.mp h)
  big := fun z h => r.big z (List.mem_reverse.mp h)
  len := by rw [List.length_reverse]; exact r.len
theorem sum_lt {b : Int} : ∀ ws : List Int, (∀ z ∈ ws, 1 ≤ z) → (∀ z ∈ ws, z < b) → 0 ≤ ws.sum ∧ ws.sum ≤ ws.length * b
  | [], _, _ => by simp
  | z :: r, h1, h2 => by
    have ⟨a, c⟩ := sum_lt r (fun y hy => h1 y (List.mem_cons_of_mem _ hy)) fun y hy => h2 y (List.mem_cons_of_mem _ hy)
    have e1 := h1 z List.mem_cons_self
    have e2 := h2 z List.mem_cons_self
    rw [List.sum_cons, List.length_cons, Int.natCast_add, Int.add_mul]
    constructor
    · omega
    · show z + r.sum ≤ (r.length : Int) * b + ((1 : Nat) : Int) * b
      omega
theorem Row.sum0 {ws : List Int} (r : Row ws) : 1 ≤ ws.sum := by
  obtain ⟨ne, pos, _, _⟩ := r
  cases ws with
  | nil => exact absurd rfl ne
  | cons z t =>
    have := (sum_lt (b := 1 + (z :: t).foldl max 0) t (fun y hy => pos y (List.mem_cons_of_mem _ hy)))
    rw [List.sum_cons]
    have e1 := pos z List.mem_cons_self
    have e2 : 0 ≤ t.sum := by
      clear this
      have : ∀ l : List Int, (∀ y ∈ l, 1 ≤ y) → 0 ≤ l.sum := by
        intro l
        induction l with
        | nil => intro _; simp
        | cons a l ih =>
          intro h
          rw [List.sum_cons]
          have := h a List.mem_cons_self
          have := ih fun y hy => h y (List.mem_cons_of_mem _ hy)
          omega
      exact this t fun y hy => pos y (List.mem_cons_of_mem _ hy)
    omega
theorem Row.sumB {ws : List Int} (r : Row ws) : ws.sum < 2 ^ 210 := by
  have h := (sum_lt (b := 2 ^ 200) ws r.pos r.big).2
  have l := r.len
  have : (ws.length : Int) * 2 ^ 200 ≤ 1000 * 2 ^ 200 := Int.mul_le_mul_of_nonneg_right (by omega) (by decide)
  have e : (1000 : Int) * 2 ^ 200 < 2 ^ 210 := by decide
  omega
/-! ### a Roll at p -/
theorem pre_next {ws : List Int} {i : Nat} {z : Int} (h : ws[i]? = some z) : pre ws (i + 1) = pre ws i + z := by
  unfold pre
  rw [List.take_add_one, h, List.sum_append]
  simp
theorem upto_b {ws : List Int} (R : Row ws) {n : Nat} (h : n < 2 ^ 200) : (((n : Int) / (ws.length : Int))).natAbs < 2 ^ 200 := by
  have n0 := R.n0
  have e : ((n : Int) / (ws.length : Int)) = ((n / ws.length : Nat) : Int) := rfl
  rw [e, Int.natAbs_natCast]
  exact Nat.lt_of_le_of_lt (Nat.div_le_self _ _) h
theorem mod0 {x L : Nat} (h : x < L) : x % L = x := Nat.mod_eq_of_lt h
theorem mod1 {x L : Nat} (h1 : L ≤ x) (h2 : x < L + L) : x % L = x - L := by
  rw [Nat.mod_eq_sub_mod h1, Nat.mod_eq_of_lt (by omega)]
/-- the n-th stamp of the roll -/
def st (ws : List Int) (n : Nat) : Int := ws[n % ws.length]?.getD 0
/-- the sum of the first n of f -/
def up (f : Nat → Int) : Nat → Int
  | 0 => 0
  | n + 1 => up f n + f n
theorem up_add (f : Nat → Int) (n : Nat) : ∀ m, up f (n + m) = up f n + up (fun k => f (n + k)) m
  | 0 => by simp [up]
  | m + 1 => by
    show up f (n + m) + f (n + m) = up f n + (up (fun k => f (n + k)) m + f (n + m))
    rw [up_add f n m, Int.add_assoc]
theorem up_congr {f g : Nat → Int} : ∀ {n : Nat}, (∀ k, k < n → f k = g k) → up f n = up g n
  | 0, _ => rfl
  | n + 1, h => by
    show up f n + f n = up g n + g n
    rw [up_congr (n := n) (fun k hk => h k (by omega)), h n (by omega)]
theorem up_head (f : Nat → Int) : ∀ n, up f (n + 1) = f 0 + up (fun k => f (k + 1)) n
  | 0 => by simp [up]
  | n + 1 => by
    show up f (n + 1) + f (n + 1) = f 0 + (up (fun k => f (k + 1)) n + f (n + 1))
    rw [up_head f n, Int.add_assoc]
theorem up_rev {f g : Nat → Int} : ∀ {n : Nat}, (∀ k, k < n → f k = g (n - 1 - k)) → up f n = up g n
  | 0, _ => rfl
  | n + 1, h => by
    rw [up_head f n]
    show f 0 + up (fun k => f (k + 1)) n = up g n + g n
    rw [up_rev (f := fun k => f (k + 1)) (g := g) (n := n) (fun k hk => by
      show f (k + 1) = _
      rw [h (k + 1) (by omega)]
      congr 1
      omega), h 0 (by omega), Int.add_comm]
    congr 2
theorem upto_zero (ws : List Int) : upto ws 0 = 0 := by
  unfold upto pre
  simp
theorem sum_take_all {ws : List Int} {i : Nat} (h : i + 1 = ws.length) {z : Int} (hz : ws[i]? = some z) : pre ws i + z = ws.sum := by
  have := pre_next hz
  rw [← this]
  unfold pre
  rw [h, List.take_length]
theorem upto_succ {ws : List Int} (n0 : 0 < ws.length) (n : Nat) : upto ws (n + 1) = upto ws n + st ws n := by
  have lt := Nat.mod_lt n n0
  obtain ⟨z, hz⟩ : ∃ z, ws[n % ws.length]? = some z := ⟨_, List.getElem?_eq_getElem lt⟩
  have es : st ws n = z := by
    unfold st
    rw [hz]
    rfl
  rw [es]
  have dm := Nat.div_add_mod n ws.length
  unfold upto
  by_cases h : n % ws.length + 1 < ws.length
  · have e1 : (n + 1) / ws.length = n / ws.length := by
      rw [Nat.div_eq_of_lt_le]
      · rw [Nat.mul_comm]
        omega
      · rw [Nat.succ_mul, Nat.mul_comm]
        omega
    have e2 : (n + 1) % ws.length = n % ws.length + 1 := by
      have := Nat.div_add_mod (n + 1) ws.length
      rw [e1] at this
      omega
    rw [e1, e2, pre_next hz, Int.add_assoc]
  · have e : n % ws.length + 1 = ws.length := by omega
    have e1 : (n + 1) / ws.length = n / ws.length + 1 := by
      rw [Nat.div_eq_of_lt_le]
      · rw [Nat.succ_mul, Nat.mul_comm]
        omega
      · rw [Nat.succ_mul, Nat.succ_mul, Nat.mul_comm]
        omega
    have e2 : (n + 1) % ws.length = 0 := by
      have := Nat.div_add_mod (n + 1) ws.length
      rw [e1, Nat.mul_add] at this
      omega
    rw [e1, e2, ← sum_take_all e hz]
    unfold pre
    rw [List.take_zero, List.sum_nil, Int.natCast_add, Int.add_mul]
    simp only [Int.natCast_one, Int.one_mul, Int.add_zero]
    omega
theorem upto_up {ws : List Int} (n0 : 0 < ws.length) : ∀ n, upto ws n = up (st ws) n
  | 0 => upto_zero ws
  | n + 1 => by rw [upto_succ n0, upto_up n0 n]; rfl
/-- the sum of m stamps from the n-th -/
def win (ws : List Int) (n m : Nat) : Int := upto ws (n + m) - upto ws n
theorem win_up {ws : List Int} (n0 : 0 < ws.length) (n m : Nat) : win ws n m = up (fun k => st ws (n + k)) m := by
  unfold win
  rw [upto_up n0, upto_up n0, up_add]
  omega
theorem win_add (ws : List Int) (n m k : Nat) : win ws n m + win ws (n + m) k = win ws n (m + k) := by
  unfold win
  rw [Nat.add_assoc]
  omega
theorem win_lap {ws : List Int} (n0 : 0 < ws.length) (n m : Nat) : win ws n (m + ws.length) = win ws n m + ws.sum := by
  have e : upto ws (n + (m + ws.length)) = upto ws (n + m) + ws.sum := by
    rw [← Nat.add_assoc]
    unfold upto
    rw [Nat.add_mod_right, Nat.add_div_right _ n0]
    show (((n + m) / ws.length + 1 : Nat) : Int) * ws.sum + _ = _
    rw [Int.natCast_add, Int.add_mul, Int.natCast_one, Int.one_mul]
    omega
  unfold win
  rw [e]
  omega
theorem torn_at {ws : List Int} (n : Nat) {i : Nat} (h : i < ws.length) : (tornL ws n)[i]? = ws[(n + i) % ws.length]? := by
  have n0 : 0 < ws.length := by omega
  have c := Nat.mod_lt n n0
  have e : (n + i) % ws.length = (n % ws.length + i) % ws.length := by rw [Nat.mod_add_mod]
  rw [e]
  unfold tornL
  generalize n % ws.length = q at c
  by_cases hi : i < ws.length - q
  · rw [List.getElem?_append_left (by rw [List.length_drop]; exact hi), List.getElem?_drop, mod0 (x := q + i) (by omega)]
  · rw [List.getElem?_append_right (by rw [List.length_drop]; omega), List.length_drop, List.getElem?_take_of_lt (by omega), mod1 (x := q + i) (by omega) (by omega)]
    congr 1
    omega
theorem st_torn {ws : List Int} (n0 : 0 < ws.length) (n k : Nat) : st (tornL ws n) k = st ws (n + k) := by
  unfold st
  rw [tornL_len, torn_at n (Nat.mod_lt _ n0), Nat.add_mod_mod]
theorem win_torn {ws : List Int} (n0 : 0 < ws.length) (s n m : Nat) : win (tornL ws s) n m = win ws (s + n) m := by
  rw [win_up (by rw [tornL_len]; exact n0), win_up n0]
  refine up_congr fun k _ => ?_
  show st (tornL ws s) (n + k) = st ws (s + n + k)
  rw [st_torn n0, Nat.add_assoc]
theorem torn_torn {ws : List Int} (s t : Nat) : tornL (tornL ws s) t = tornL ws (s + t) := by
  apply List.ext_getElem?
  intro i
  by_cases h : i < ws.length
  · have n0 : 0 < ws.length := by omega
    rw [torn_at t (by rw [tornL_len]; exact h), tornL_len, torn_at s (Nat.mod_lt _ n0), torn_at _ h, Nat.add_mod_mod, Nat.add_assoc]
  · rw [List.getElem?_eq_none (by rw [tornL_len, tornL_len]; omega), List.getElem?_eq_none (by rw [tornL_len]; omega)]
theorem torn_rev {ws : List Int} (s : Nat) : (tornL ws s).reverse = tornL ws.reverse (ws.length - s % ws.length) := by
  apply List.ext_getElem?
  intro i
  by_cases h : i < ws.length
  · have n0 : 0 < ws.length := by omega
    have c := Nat.mod_lt s n0
    rw [List.getElem?_reverse (by rw [tornL_len]; exact h), tornL_len, torn_at _ (by omega), torn_at _ (by rw [List.length_reverse]; exact h), List.length_reverse, List.getElem?_reverse (Nat.mod_lt _ n0)]
    have e : (s + (ws.length - 1 - i)) % ws.length = (s % ws.length + (ws.length - 1 - i)) % ws.length := by rw [Nat.mod_add_mod]
    rw [e]
    congr 1
    generalize s % ws.length = q at c
    by_cases hi : i < q
    · rw [mod1 (x := q + (ws.length - 1 - i)) (by omega) (by omega), mod0 (x := ws.length - q + i) (by omega)]
      omega
    · rw [mod0 (x := q + (ws.length - 1 - i)) (by omega), mod1 (x := ws.length - q + i) (by omega) (by omega)]
      omega
  · rw [List.getElem?_eq_none (by rw [List.length_reverse, tornL_len]; omega), List.getElem?_eq_none (by rw [tornL_len, List.length_reverse]; omega)]
theorem st_rev {ws : List Int} (n0 : 0 < ws.length) (k : Nat) : st ws.reverse k = st ws (ws.length - 1 - k % ws.length) := by
  have c := Nat.mod_lt k n0
  unfold st
  rw [List.length_reverse, List.getElem?_reverse c, mod0 (x := ws.length - 1 - k % ws.length) (by omega)]
theorem win_back {ws : List Int} (n0 : 0 < ws.length) {low t : Nat} (hl : low < ws.length) (ht : t < 50) : win ws.reverse (ws.length - low) t = win ws ((low + 50 * ws.length - t) % ws.length) t := by
  rw [win_up (by rw [List.length_reverse]; exact n0), win_up n0]
  refine up_rev fun k hk => ?_
  show st ws.reverse (ws.length - low + k) = st ws ((low + 50 * ws.length - t) % ws.length + (t - 1 - k))
  rw [st_rev n0]
  have hb : 50 ≤ 50 * ws.length := by omega
  have e1 : st ws ((low + 50 * ws.length - t) % ws.length + (t - 1 - k)) = st ws (low + 50 * ws.length - 1 - k) := by
    unfold st
    rw [Nat.mod_add_mod]
    congr 3
    omega
  rw [e1]
  have c := Nat.mod_lt (ws.length - low + k) n0
  have dm := Nat.div_add_mod (ws.length - low + k) ws.length
  -- the quotient q: L q + r = L - low + k
  have hq : (ws.length - low + k) / ws.length ≤ 51 := by
    rw [Nat.div_le_iff_le_mul_add_pred n0]
    omega
  unfold st
  congr 2
  have key : low + 50 * ws.length - 1 - k = (ws.length - 1 - (ws.length - low + k) % ws.length) + (50 - (ws.length - low + k) / ws.length) * ws.length ∨ (ws.length - low + k) / ws.length = 51 := by
    by_cases h51 : (ws.length - low + k) / ws.length = 51
    · exact .inr h51
    · left
      have h50 : (ws.length - low + k) / ws.length ≤ 50 := by omega
      generalize (ws.length - low + k) / ws.length = q at dm h50
      generalize (ws.length - low + k) % ws.length = r at dm c ⊢
      rw [Nat.sub_mul]
      have : ws.length * q = q * ws.length := Nat.mul_comm _ _
      have : q * ws.length ≤ 50 * ws.length := Nat.mul_le_mul_right _ h50
      omega
  rcases key with e | e
  · rw [e, Nat.add_mul_mod_self_right]
  · rw [e] at dm
    omega
def Turned (a b : List Int) : Prop := ∃ u v, a = u ++ v ∧ b = v ++ u
theorem Turned.refl (a : List Int) : Turned a a := ⟨[], a, rfl, by simp⟩
theorem Turned.symm {a b : List Int} (h : Turned a b) : Turned b a := by
  obtain ⟨u, v, e1, e2⟩ := h
  exact ⟨v, u, e2, e1⟩
theorem Turned.trans {a b c : List Int} (h1 : Turned a b) (h2 : Turned b c) : Turned a c := by
  obtain ⟨u, v, rfl, rfl⟩ := h1
  obtain ⟨s, t, e, rfl⟩ := h2
  rcases List.append_eq_append_iff.mp e with ⟨w, e1, e2⟩ | ⟨w, e1, e2⟩
  · subst e1 e2
    exact ⟨w, t ++ v, by simp, by simp⟩
  · subst e1 e2
    exact ⟨u ++ s, w, by simp, by simp⟩
theorem Turned.rev {a b : List Int} (h : Turned a b) : Turned a.reverse b.reverse := by
  obtain ⟨u, v, rfl, rfl⟩ := h
  exact ⟨v.reverse, u.reverse, by simp, by simp⟩
theorem Turned.torn (ws : List Int) (n : Nat) : Turned ws (tornL ws n) := ⟨ws.take (n % ws.length), ws.drop (n % ws.length), (List.take_append_drop _ _).symm, rfl⟩
theorem Turned.sum {a b : List Int} (h : Turned a b) : b.sum = a.sum := by
  obtain ⟨u, v, rfl, rfl⟩ := h
  rw [List.sum_append, List.sum_append, Int.add_comm]
theorem Turned.len {a b : List Int} (h : Turned a b) : b.length = a.length := by
  obtain ⟨u, v, rfl, rfl⟩ := h
  rw [List.length_append, List.length_append, Nat.add_comm]
theorem Turned.mem {a b : List Int} (h : Turned a b) {z : Int} : z ∈ b ↔ z ∈ a := by
  obtain ⟨u, v, rfl, rfl⟩ := h
  rw [List.mem_append, List.mem_append, Or.comm]
/-- b is a turned a, or a turned mirrored a -/
def Form (a b : List Int) : Prop := Turned a b ∨ Turned a.reverse b
theorem Form.of_turned {a b c : List Int} (h : Turned a b) (f : Form b c) : Form a c := by
  rcases f with f | f
  · exact .inl (h.trans f)
  · exact .inr (h.rev.trans f)
theorem Form.of_rev {a c : List Int} (f : Form a.reverse c) : Form a c := by
  rcases f with f | f
  · exact .inr f
  · rw [List.reverse_reverse] at f
    exact .inl f
theorem Form.trans {a b c : List Int} (h : Form a b) (f : Form b c) : Form a c := by
  rcases h with h | h
  · exact .of_turned h f
  · exact .of_rev (.of_turned h f)
theorem Form.symm {a b : List Int} (h : Form a b) : Form b a := by
  rcases h with h | h
  · exact .inl h.symm
  · have := h.symm.rev
    rw [List.reverse_reverse] at this
    exact .inr this
theorem Form.refl (a : List Int) : Form a a := .inl (Turned.refl a)
theorem Form.mirror (a : List Int) : Form a a.reverse := .inr (Turned.refl _)
theorem sum_reverse : ∀ a : List Int, a.reverse.sum = a.sum
  | [] => rfl
  | x :: a => by
    rw [List.reverse_cons, List.sum_append, sum_reverse a, List.sum_cons, List.sum_cons, List.sum_nil]
    omega
theorem Form.sum {a b : List Int} (h : Form a b) : b.sum = a.sum := by
  rcases h with h | h
  · exact h.sum
  · rw [h.sum, sum_reverse]
theorem Form.len {a b : List Int} (h : Form a b) : b.length = a.length := by
  rcases h with h | h
  · exact h.len
  · rw [h.len, List.length_reverse]
theorem Form.row {a b : List Int} (h : Form a b) (r : Row a) : Row b := by
  have m : ∀ z, z ∈ b → z ∈ a := fun z hz => by
    rcases h with h | h
    · exact h.mem.mp hz
    · exact List.mem_reverse.mp (h.mem.mp hz)
  refine ⟨fun e => ?_, fun z hz => r.pos z (m z hz), fun z hz => r.big z (m z hz), by rw [h.len]; exact r.len⟩
  have l := h.len
  have := r.n0
  rw [e] at l
  simp at l
  omega
/-- the least of the forms -/
def Least (a m : List Int) : Prop := Form a m ∧ ∀ y, Form a y → m ≤ y
theorem Least.same {a b m n : List Int} (f : Form a b) (h1 : Least a m) (h2 : Least b n) : m = n := by
  have x := h1.2 n (f.trans h2.1)
  have y := h2.2 m (f.symm.trans h1.1)
  exact List.le_antisymm x y
def fm (ws : List Int) (i : Nat) : List Int := ws.drop i ++ ws.take i
def formsL (ws : List Int) : List (List Int) := (List.range ws.length).map (fm ws)
theorem mem_formsL {ws y : List Int} (h : ws ≠ []) : y ∈ formsL ws ↔ Turned ws y := by
  unfold formsL
  rw [List.mem_map]
  constructor
  · rintro ⟨i, _, rfl⟩
    exact ⟨ws.take i, ws.drop i, (List.take_append_drop _ _).symm, rfl⟩
  · rintro ⟨u, v, rfl, rfl⟩
    by_cases e : v = []
    · subst e
      refine ⟨0, ?_, by simp [fm]⟩
      rw [List.mem_range]
      exact List.length_pos_iff.mpr h
    · refine ⟨u.length, ?_, by simp [fm]⟩
      rw [List.mem_range, List.length_append]
      have := List.length_pos_iff.mpr e
      omega
/-- the list of all forms, as the loop makes it -/
def formsUp (ws : List Int) : Nat → List (List Int)
  | 0 => []
  | 1 => formsL ws
  | _ => formsL ws ++ formsL ws.reverse
theorem mem_forms {ws y : List Int} (h : ws ≠ []) : y ∈ formsUp ws 2 ↔ Form ws y := by
  show y ∈ formsL ws ++ formsL ws.reverse ↔ _
  rw [List.mem_append, mem_formsL h, mem_formsL (fun e => h (List.reverse_eq_nil_iff.mp e))]
  exact Iff.rfl
theorem formsL_len (ws : List Int) : (formsL ws).length = ws.length := by simp [formsL]
theorem formsL_snoc (ws : List Int) (i : Nat) : (List.range (i + 1)).map (fm ws) = (List.range i).map (fm ws) ++ [fm ws i] := by
  rw [List.range_succ, List.map_append]
  rfl
theorem win_laps {ws : List Int} (n0 : 0 < ws.length) (n r : Nat) : ∀ q, win ws n (r + ws.length * q) = win ws n r + q * ws.sum
  | 0 => by simp
  | q + 1 => by
    rw [Nat.mul_add, Nat.mul_one, ← Nat.add_assoc, win_lap n0, win_laps n0 n r q, Int.natCast_add, Int.add_mul]
    simp only [Int.natCast_one, Int.one_mul]
    omega
theorem st_at {ws : List Int} (n0 : 0 < ws.length) (k : Nat) : ws[k % ws.length]? = some (st ws k) := by
  unfold st
  rw [List.getElem?_eq_getElem (Nat.mod_lt _ n0)]
  rfl
/-- of these strips, those with the sum z -/
def fits (ws : List Int) (z : Int) (ps : List (Nat × Nat)) : List (Nat × Nat) := ps.filter fun p => decide (win ws p.1 p.2 = z)
/-- the strips gone through: r whole rows of lengths, then n of the next -/
def gone (L : Nat) (r n : Nat) : List (Nat × Nat) := ((List.range r).flatMap fun s => (List.range L).map fun l => (s, l + 1)) ++ (List.range n).map fun l => (r, l + 1)
theorem gone_next (L r n : Nat) : gone L r (n + 1) = gone L r n ++ [(r, n + 1)] := by
  unfold gone
  rw [List.range_succ (n := n), List.map_append, List.append_assoc]
  rfl
theorem gone_row (L r : Nat) : gone L (r + 1) 0 = gone L r L := by
  unfold gone
  rw [List.range_succ, List.flatMap_append]
  simp
theorem gone_len (L r n : Nat) : (gone L r n).length = r * L + n := by
  unfold gone
  rw [List.length_append, List.length_map, List.length_range]
  congr 1
  induction r with
  | zero => simp
  | succ r ih =>
    rw [List.range_succ, List.flatMap_append, List.length_append, ih, Nat.succ_mul]
    simp
theorem fits_snoc (ws : List Int) (z : Int) (ps : List (Nat × Nat)) (p : Nat × Nat) : fits ws z (ps ++ [p]) = if z = win ws p.1 p.2 then fits ws z ps ++ [p] else fits ws z ps := by
  unfold fits
  rw [List.filter_append]
  by_cases h : z = win ws p.1 p.2
  · rw [if_pos h, h]
    simp
  · rw [if_neg h]
    simp [Ne.symm h]
/-- the strips of the amount n -/
def lapsOf (ws : List Int) (n : Nat) : Nat := (n - 1) / ws.sum.toNat
def stripsL (ws : List Int) (n : Nat) : List (Nat × Nat) := (fits ws ((n : Int) - lapsOf ws n * ws.sum) (gone ws.length ws.length 0)).map fun p => (p.1, p.2 + lapsOf ws n * ws.length)
theorem take_map_snoc {α β : Type} {f : α → β} {l : List α} {i : Nat} {x : α} (h : l[i]? = some x) : (l.take (i + 1)).map f = (l.take i).map f ++ [f x] := by
  rw [List.take_add_one, h, List.map_append]
  rfl
def dueLaps (ws : List Int) (n : Nat) : Nat := n / ws.sum.toNat - 1
def dueL (ws : List Int) (n : Nat) : List (Nat × Nat) := (fits ws ((n : Int) - dueLaps ws n * ws.sum) (gone (3 * ws.length) ws.length 0)).map fun p => (p.1, p.2 + dueLaps ws n * ws.length)
theorem filter_one {N x : Nat} {p : Nat → Bool} (h : x < N) (hp : p x = true) (u : ∀ y, y < N → p y = true → y = x) : (List.range N).filter p = [x] := by
  induction N with
  | zero => omega
  | succ N ih =>
    rw [List.range_succ, List.filter_append]
    by_cases e : x = N
    · subst e
      have z : (List.range x).filter p = [] := by
        rw [List.filter_eq_nil_iff]
        intro y hy hpy
        have l := List.mem_range.mp hy
        have := u y (by omega) hpy
        omega
      rw [z]
      simp [hp]
    · have z : p N = false := by
        cases q : p N with
        | false => rfl
        | true => exact absurd (u N (by omega) q).symm e
      rw [ih (by omega) fun y hy => u y (by omega)]
      simp [z]
theorem filter_no {N : Nat} {p : Nat → Bool} (h : ∀ y, y < N → p y = false) : (List.range N).filter p = [] := by
  rw [List.filter_eq_nil_iff]
  intro y hy
  rw [h y (List.mem_range.mp hy)]
  exact Bool.false_ne_true
/-- of one start: the lengths of the sum z, by their number less one -/
def lens (ws : List Int) (z : Int) (s N : Nat) : List Nat := (List.range N).filter fun l => decide (win ws s (l + 1) = z)
theorem fits_gone (ws : List Int) (z : Int) (M : Nat) : ∀ r, fits ws z (gone M r 0) = (List.range r).flatMap fun s => (lens ws z s M).map fun l => (s, l + 1)
  | 0 => rfl
  | r + 1 => by
    have e : gone M (r + 1) 0 = gone M r 0 ++ (List.range M).map fun l => (r, l + 1) := by
      rw [gone_row]
      unfold gone
      simp
    have ih := fits_gone ws z M r
    rw [e]
    unfold fits at ih ⊢
    rw [List.filter_append, ih, List.range_succ, List.flatMap_append, List.filter_map]
    congr 1
    simp only [List.flatMap_cons, List.flatMap_nil, List.append_nil]
    rfl
theorem st_pos {ws : List Int} (R : Row ws) (k : Nat) : 1 ≤ st ws k := by
  have n0 := R.n0
  have h := st_at n0 k
  exact R.pos _ (List.mem_of_getElem? h)
theorem win_succ {ws : List Int} (R : Row ws) (s l : Nat) : win ws s (l + 1) = win ws s l + st ws (s + l) := by
  rw [win_up R.n0, win_up R.n0]
  rfl
theorem win_mono {ws : List Int} (R : Row ws) (s l : Nat) : ∀ d, win ws s l + d ≤ win ws s (l + d)
  | 0 => by simp
  | d + 1 => by
    have h1 := win_mono R s l d
    have h2 := win_succ R s (l + d)
    have h3 := st_pos R (s + (l + d))
    rw [← Nat.add_assoc]
    omega
theorem win_inj {ws : List Int} (R : Row ws) {s l m : Nat} (h : win ws s l = win ws s m) : l = m := by
  rcases Nat.lt_or_ge l m with c | c
  · have := win_mono R s l (m - l)
    rw [show l + (m - l) = m by omega] at this
    omega
  · have := win_mono R s m (l - m)
    rw [show m + (l - m) = l by omega] at this
    omega
theorem win_0 (ws : List Int) (s : Nat) : win ws s 0 = 0 := by
  unfold win
  rw [Nat.add_zero]
  omega
theorem win_full {ws : List Int} (R : Row ws) (s : Nat) : win ws s ws.length = ws.sum := by
  have := win_lap R.n0 s 0
  rw [Nat.zero_add, win_0] at this
  omega
/-- from lengths up to L, sum z, to lengths up to 3 L, sum z and d laps -/
theorem lens_laps {ws : List Int} (R : Row ws) (z : Int) (hz : 1 ≤ z ∧ z ≤ ws.sum) (s d : Nat) (hd : d ≤ 1) : (lens ws (z + d * ws.sum) s (3 * ws.length)) = (lens ws z s ws.length).map fun l => l + d * ws.length := by
  have n0 := R.n0
  have sh : ∀ l, win ws s (l + d * ws.length) = win ws s l + d * ws.sum := fun l => by
    have := win_laps n0 s l d
    rw [Nat.mul_comm] at this
    exact this
  have dl : d * ws.length ≤ ws.length := by
    have := Nat.mul_le_mul_right ws.length hd
    omega
  unfold lens
  by_cases h : ∃ l, l < ws.length ∧ win ws s (l + 1) = z
  · obtain ⟨l, hl, hw⟩ := h
    rw [filter_one (x := l) hl (by rw [hw]; simp) (fun y _ hy => by
      have := of_decide_eq_true hy
      have := win_inj R (this.trans hw.symm)
      omega)]
    have hw2 : win ws s (l + d * ws.length + 1) = z + d * ws.sum := by
      have := sh (l + 1)
      rw [show l + 1 + d * ws.length = l + d * ws.length + 1 by omega] at this
      rw [this, hw]
    exact filter_one (x := l + d * ws.length) (by omega) (by rw [hw2]; simp) (fun y _ hy => by
      have := of_decide_eq_true hy
      have := win_inj R (this.trans hw2.symm)
      omega)
  · rw [filter_no (N := ws.length) (fun y hy => decide_eq_false fun c => h ⟨y, hy, c⟩)]
    refine filter_no fun y hy => decide_eq_false fun c => ?_
    -- y + 1 is more than d laps, and not more than d laps and one
    have low : d * ws.length < y + 1 := by
      rcases Nat.lt_or_ge (d * ws.length) (y + 1) with q | q
      · exact q
      · have a1 := win_mono R s (y + 1) (d * ws.length - (y + 1))
        rw [show y + 1 + (d * ws.length - (y + 1)) = 0 + d * ws.length by omega, sh 0, win_0] at a1
        omega
    have hw : win ws s (y + 1 - d * ws.length) = z := by
      have := sh (y + 1 - d * ws.length)
      rw [show y + 1 - d * ws.length + d * ws.length = y + 1 by omega, c] at this
      omega
    have up : y + 1 - d * ws.length ≤ ws.length := by
      rcases Nat.lt_or_ge ws.length (y + 1 - d * ws.length) with q | q
      · have a1 := win_mono R s ws.length (y + 1 - d * ws.length - ws.length)
        rw [show ws.length + (y + 1 - d * ws.length - ws.length) = y + 1 - d * ws.length by omega, hw, win_full R] at a1
        omega
      · exact q
    exact h ⟨y - d * ws.length, by omega, by rw [show y - d * ws.length + 1 = y + 1 - d * ws.length by omega]; exact hw⟩
theorem flat_congr {α β : Type} {f g : α → List β} : ∀ {l : List α}, (∀ x ∈ l, f x = g x) → l.flatMap f = l.flatMap g
  | [], _ => rfl
  | a :: l, h => by rw [List.flatMap_cons, List.flatMap_cons, h a List.mem_cons_self, flat_congr fun x hx => h x (List.mem_cons_of_mem _ hx)]
theorem strips_due {ws : List Int} (R : Row ws) {n : Nat} (hn : 1 ≤ n) : stripsL ws n = dueL ws n := by
  have q1 := R.sum0
  obtain ⟨S, hS⟩ : ∃ S : Nat, ws.sum = S := ⟨ws.sum.toNat, by omega⟩
  have eS : ws.sum.toNat = S := by omega
  have S0 : 0 < S := by omega
  obtain ⟨d, hd, hl⟩ : ∃ d, d ≤ 1 ∧ lapsOf ws n = dueLaps ws n + d := by
    unfold lapsOf dueLaps
    rw [eS]
    have a1 := Nat.div_add_mod n S
    have a2 := Nat.mod_lt n S0
    have a3 := Nat.div_add_mod (n - 1) S
    have a4 := Nat.mod_lt (n - 1) S0
    have b1 : (n - 1) / S ≤ n / S := Nat.div_le_div_right (by omega)
    have b2 : n / S ≤ (n - 1) / S + 1 := by
      have := Nat.div_le_div_right (c := S) (show n ≤ (n - 1) + S by omega)
      rw [Nat.add_div_right _ S0] at this
      exact this
    clear a1 a2 a3 a4
    generalize n / S = a at b1 b2 ⊢
    generalize (n - 1) / S = b at b1 b2 ⊢
    exact ⟨b - (a - 1), by omega, by omega⟩
  have hz : 1 ≤ (n : Int) - lapsOf ws n * ws.sum ∧ (n : Int) - lapsOf ws n * ws.sum ≤ ws.sum := by
    unfold lapsOf
    rw [eS, hS]
    have a3 := Nat.div_add_mod (n - 1) S
    have a4 := Nat.mod_lt (n - 1) S0
    have e : (((n - 1) / S : Nat) : Int) * (S : Int) = ((S * ((n - 1) / S) : Nat) : Int) := by rw [Nat.mul_comm, Int.natCast_mul]
    rw [e]
    omega
  have ez : (n : Int) - dueLaps ws n * ws.sum = ((n : Int) - lapsOf ws n * ws.sum) + d * ws.sum := by
    rw [hl, Int.natCast_add, Int.add_mul]
    omega
  unfold stripsL dueL
  rw [fits_gone, fits_gone, ez, List.map_flatMap, List.map_flatMap]
  refine flat_congr fun s _ => ?_
  rw [lens_laps R _ hz s d hd, List.map_map, List.map_map, List.map_map]
  refine List.map_congr_left fun l _ => ?_
  show (s, l + 1 + lapsOf ws n * ws.length) = (s, l + d * ws.length + 1 + dueLaps ws n * ws.length)
  rw [hl, Nat.add_mul]
  exact congrArg (Prod.mk s) (by omega)
/-- a is ahead of b, or b -/
def LeP (a b : Nat × Nat) : Prop := a.1 < b.1 ∨ (a.1 = b.1 ∧ a.2 ≤ b.2)
def minP (a y : Nat × Nat) : Nat × Nat := if y.1 < a.1 ∨ (y.1 = a.1 ∧ y.2 < a.2) then y else a
theorem fold_minP : ∀ (rs : List (Nat × Nat)) (r : Nat × Nat), rs.foldl minP r ∈ r :: rs ∧ ∀ y ∈ r :: rs, LeP (rs.foldl minP r) y
  | [], r => ⟨List.mem_cons_self, fun y hy => by
    rcases List.mem_cons.mp hy with rfl | h
    · exact .inr ⟨rfl, Nat.le_refl _⟩
    · cases h⟩
  | k :: rs, r => by
    obtain ⟨h1, h2⟩ := fold_minP rs (minP r k)
    rw [List.foldl_cons]
    have hm : (minP r k = k ∧ LeP k r) ∨ (minP r k = r ∧ LeP r k) := by
      unfold minP LeP
      by_cases c : k.1 < r.1 ∨ (k.1 = r.1 ∧ k.2 < r.2)
      · exact .inl ⟨if_pos c, by omega⟩
      · exact .inr ⟨if_neg c, by omega⟩
    have l0 := h2 _ List.mem_cons_self
    have tr : ∀ {a b c : Nat × Nat}, LeP a b → LeP b c → LeP a c := fun {a b c} x y => by
      unfold LeP at *
      omega
    constructor
    · rcases List.mem_cons.mp h1 with h | h
      · rw [h]
        rcases hm with ⟨e, _⟩ | ⟨e, _⟩
        · rw [e]
          exact List.mem_cons_of_mem _ List.mem_cons_self
        · rw [e]
          exact List.mem_cons_self
      · exact List.mem_cons_of_mem _ (List.mem_cons_of_mem _ h)
    · intro y hy
      have both : LeP (minP r k) r ∧ LeP (minP r k) k := by
        rcases hm with ⟨e, z⟩ | ⟨e, z⟩
        · rw [e]
          exact ⟨z, .inr ⟨rfl, Nat.le_refl _⟩⟩
        · rw [e]
          exact ⟨.inr ⟨rfl, Nat.le_refl _⟩, z⟩
      rcases List.mem_cons.mp hy with rfl | hy
      · exact tr l0 both.1
      · rcases List.mem_cons.mp hy with rfl | hy
        · exact tr l0 both.2
        · exact h2 y (List.mem_cons_of_mem _ hy)
theorem up_st {ws : List Int} (n0 : 0 < ws.length) (n : Nat) : win ws 0 n = up (st ws) n := by
  unfold win
  rw [upto_zero, upto_up n0, Nat.zero_add]
  omega
theorem win_one {ws : List Int} (n0 : 0 < ws.length) (n : Nat) : win ws n 1 = st ws n := by
  rw [win_up n0]
  simp [up]
theorem torn_len {ws : List Int} : tornL ws ws.length = ws := by
  unfold tornL
  simp
theorem torn_0 {ws : List Int} : tornL ws 0 = ws := by
  unfold tornL
  simp
end Pm
/-! ## A bound for great numbers -/
namespace Pr
open PySem L2 Lf Mi Pl
theorem big {b : Nat} {i : Int} (h : i.natAbs < 2 ^ b) (hb : b ≤ 5000) : i.natAbs < 2 ^ 5000 := Nat.lt_of_lt_of_le h (pow_mono hb)
theorem fold_exC {α S X : Type} {f : S → α → Res S} {k : S → Res X} {xs : List α} {s0 : S} {Q : X → Prop} (P : Nat → S → Prop) (h0 : P 0 s0) (hs : ∀ (i : Nat) (x : α) (s : S), xs[i]? = some x → P i s → ∃ s', f s x = .ok s' ∧ P (i + 1) s') (hk : ∀ s, P xs.length s → ∃ r, k s = .ok r ∧ Q r) : ∃ r, Res.bind (Res.fold f xs s0) k = .ok r ∧ Q r := by
  obtain ⟨s, e, h⟩ := fold_inv P h0 hs
  rw [e]
  exact hk s h
theorem obind {α β : Type} {o : Option α} {x : α} {k : α → Option β} {r : Option β} (h : o = some x) (e : k x = r) : Option.bind o k = r := by
  rw [h]
  exact e
end Pr
/-! ## What the counters' laws draw -/
namespace Pr
open PySem L2 Lf Mi Pl Pm
def Pu (m : Int) (l : List Int) : Prop := ∃ A B C : Int, l = [A, B, C] ∧ (0 ≤ A ∧ A < 2 ^ 2000) ∧ (0 ≤ B ∧ B < 2147483647) ∧ 0 ≤ C ∧ C ≤ m
theorem Pu.le {m m' : Int} {l : List Int} (h : Pu m l) (c : m ≤ m') : Pu m' l := by
  obtain ⟨A, B, C, e, a, b, c1, d⟩ := h
  exact ⟨A, B, C, e, a, b, c1, by omega⟩
theorem sq_ok {x : Int} {b : Nat} (h : x.natAbs < 2 ^ b) (hb : b ≤ 5000) : imul x x = some (x * x) := imul_ok (big h hb) (big h hb)
theorem mixed_ok {a b : Int} (hb : 0 ≤ b ∧ b < 2 ^ 60) : ∃ z, m_l_hash a b = .ok z ∧ 0 ≤ z ∧ z < 2147483587 := by
  have i1 : imul (7919 * b) b = some (7919 * b * b) := imul_ok (big (b := 80) (by omega) (by omega)) (big (b := 80) (by omega) (by omega))
  unfold m_l_hash
  rw [req_some i1, req_some rfl]
  generalize hx : (a * 1103515245 + 7919 * b * b + b + 1) % 2147483647 = x
  have x0 : 0 ≤ x := by rw [← hx]; exact Int.emod_nonneg _ (by omega)
  have x1 : x < 2147483647 := by rw [← hx]; exact Int.emod_lt_of_pos _ (by omega)
  rw [req_some (sq_ok (b := 40) (by omega) (by omega)), req_some rfl]
  exact ⟨_, rfl, Int.emod_nonneg _ (by omega), Int.emod_lt_of_pos _ (by omega)⟩
theorem pow_b : ((10 ^ 60 : Int) ^ (10 : Int).toNat) < 2 ^ 2000 := by decide +kernel
theorem pow_p : (0 : Int) < ((10 ^ 60 : Int) ^ (10 : Int).toNat) := by decide +kernel
theorem pow_o : ipow ((10 : Int) ^ 60) (10 : Int) = some ((10 ^ 60 : Int) ^ (10 : Int).toNat) := by
  unfold ipow
  exact if_pos (by decide +kernel)
theorem cell_ok (s : Sc) (k : Nat) : ∃ z, m_l_cell s (k : Int) = .ok z := by
  unfold m_l_cell
  by_cases c : (k : Int) < (s.l.length : Int)
  · rw [if_pos (decide_eq_true c)]
    have l : k < s.l.length := by omega
    exact ⟨_, req_go (atI_nat' (List.getElem?_eq_getElem l)) rfl⟩
  · rw [if_neg (by rw [decide_eq_false c]; decide)]
    exact ⟨_, rfl⟩
theorem gen_ok (s : Sc) (k : Nat) (hk : k ≤ 10) : ∃ l, m_l_generator s (k : Int) = .ok l ∧ Pu 10000 l := by
  obtain ⟨z, e⟩ := cell_ok s k
  unfold m_l_generator
  rw [req_val e, req_some pow_o, req_some (imod_ok pow_p)]
  exact ⟨_, rfl, _, _, _, rfl, ⟨Int.emod_nonneg _ (Int.ne_of_gt pow_p), Int.lt_trans (Int.emod_lt_of_pos _ pow_p) pow_b⟩, ⟨Int.emod_nonneg _ (by omega), Int.emod_lt_of_pos _ (by omega)⟩, by omega, by omega⟩
theorem at0 (A B C : Int) : atI [A, B, C] (0 : Int) = some A := rfl
theorem at1 (A B C : Int) : atI [A, B, C] (1 : Int) = some B := rfl
theorem at2 (A B C : Int) : atI [A, B, C] (2 : Int) = some C := rfl
theorem set0 (A B C x : Int) : setAt [A, B, C] (0 : Int) x = some [x, B, C] := rfl
theorem set2 (A B C x : Int) : setAt [A, B, C] (2 : Int) x = some [A, B, x] := rfl
theorem bits_b {n : Int} {b : Nat} (h : n.natAbs < 2 ^ b) : Builtin.Int.intBits n ≤ b := by
  unfold Builtin.Int.intBits
  split
  · exact Nat.zero_le _
  · rename_i c
    have c0 : n.natAbs ≠ 0 := fun z => c (by rw [Int.natAbs_eq_zero.mp z]; rfl)
    exact (Nat.log2_lt c0).mpr h
theorem draw_ok {l : List Int} {m n : Int} (h : Pu m l) (hm : m ≤ 2 ^ 40) (hn : 1 ≤ n ∧ n < 2 ^ 110) : ∃ z l', m_l_random l n = .ok (z, l') ∧ Pu (m + 5) l' ∧ 0 ≤ z ∧ z < n := by
  obtain ⟨A, B, C, rfl, ⟨a0, a1⟩, ⟨b0, b1⟩, c0, c1⟩ := h
  unfold m_l_random
  rw [req_some (at0 A B C)]
  by_cases p : 0 < A
  · rw [if_pos (decide_eq_true p), req_some (at0 A B C), req_some (imod_ok (by omega)), req_some (at0 A B C), req_some (ifdiv_ok (by omega) (big (b := 110) (by omega) (by omega))), req_some (set0 A B C _)]
    exact ⟨_, _, rfl, ⟨A / n, B, C, rfl, ⟨Int.ediv_nonneg a0 (by omega), Int.lt_of_le_of_lt (Int.ediv_le_self _ a0) a1⟩, ⟨b0, b1⟩, c0, by omega⟩, Int.emod_nonneg _ (by omega), Int.emod_lt_of_pos _ (by omega)⟩
  · have hb : Builtin.Int.intBits n ≤ 110 := bits_b (by omega)
    rw [if_neg (by rw [decide_eq_false p]; decide), req_some (irng_ups (n := 1 + Builtin.Int.intBits n / 30) (by omega) (by omega) (by omega) (by omega))]
    obtain ⟨s, e, x, rfl⟩ : ∃ s, Res.fold (fun (s182 : Int × (List Int)) (x183 : Int) =>
        Res.req (atI s182.2 (2 : Int)) fun y184 =>
        Res.req (setAt s182.2 (2 : Int) (y184 + (1 : Int))) fun y186 =>
        Res.req (atI y186 (1 : Int)) fun y188 =>
        Res.req (atI y186 (2 : Int)) fun y190 =>
        Res.req (Res.val (m_l_hash y188 y190)) fun y192 =>
        Res.req (some ((s182.1 * (2147483587 : Int)) + y192)) fun y194 =>
        .ok (y194, y186)) (ups 0 (1 + Builtin.Int.intBits n / 30)) ((0 : Int), [A, B, C]) = .ok s ∧ ∃ x, s = (x, [A, B, C + ((ups 0 (1 + Builtin.Int.intBits n / 30)).length : Int)]) :=
      fold_inv (fun i s => ∃ x, s = (x, [A, B, C + (i : Int)])) ⟨0, by rw [show C + ((0 : Nat) : Int) = C by omega]⟩ (fun i y s hy h => by
        obtain ⟨x, rfl⟩ := h
        obtain ⟨hi, _⟩ := ups_at hy
        obtain ⟨z, ez, _⟩ := mixed_ok (a := B) (b := C + (i : Int) + 1) ⟨by omega, by omega⟩
        rw [req_some (at2 A B _), req_some (set2 A B _ _), req_some (at1 A B _), req_some (at2 A B _), req_val ez, req_some rfl]
        exact ⟨_, rfl, _, by rw [show C + ((i + 1 : Nat) : Int) = C + (i : Int) + 1 by omega]⟩)
    rw [bind_ok e, req_some (imod_ok (by omega)), ups_len]
    exact ⟨_, _, rfl, ⟨A, B, _, rfl, ⟨a0, a1⟩, ⟨b0, b1⟩, by omega, by omega⟩, Int.emod_nonneg _ (by omega), Int.emod_lt_of_pos _ (by omega)⟩
end Pr
/-! ## Rows, counters, standings that the law draws -/
namespace Pr
open PySem L2 Lf Mi Pl Pm
theorem mapT_exC {α β S : Type} {f : S → α → Option (S × β)} {Q : β → Prop} : ∀ {xs : List α} {s0 : S} (P : Nat → S → Prop), P 0 s0 → (∀ (i : Nat) (x : α) (s : S), xs[i]? = some x → P i s → ∃ b, f s x = some b ∧ P (i + 1) b.1 ∧ Q b.2) → ∃ r, mapT f xs s0 = some r ∧ P xs.length r.1 ∧ r.2.length = xs.length ∧ ∀ y ∈ r.2, Q y
  | [], s0, P, h0, _ => ⟨_, rfl, h0, rfl, fun _ h => absurd h List.not_mem_nil⟩
  | x :: xs, s0, P, h0, hs => by
    obtain ⟨b, e1, p1, q1⟩ := hs 0 x s0 rfl h0
    obtain ⟨r, e2, p2, l2, q2⟩ := mapT_exC (xs := xs) (s0 := b.1) (fun i s => P (i + 1) s) p1 fun i y s hy h => hs (i + 1) y s hy h
    refine ⟨(r.1, b.2 :: r.2), ?_, p2, by rw [List.length_cons, l2]; rfl, fun y hy => ?_⟩
    · unfold mapT
      rw [e1]
      dsimp only
      rw [e2]
    · rcases List.mem_cons.mp hy with c | c
      · rw [c]
        exact q1
      · exact q2 y c
/-- rows as the law draws them -/
structure RowsD (k : Nat) (ws : List (List Int)) : Prop where
  few : 1 ≤ ws.length ∧ ws.length ≤ 3
  row : ∀ w ∈ ws, w ≠ [] ∧ w.length ≤ k ∧ ∀ z ∈ w, 1 ≤ z ∧ z ≤ 6
  lens : ∀ (i : Nat) (w : List Int), ws[i]? = some w → w.length + i ≤ k
theorem rowD {k : Nat} (hk : k ≤ 12) {w : List Int} (h : w ≠ [] ∧ w.length ≤ k ∧ ∀ z ∈ w, 1 ≤ z ∧ z ≤ 6) : Row w ∧ w.sum ≤ 7 * k := by
  obtain ⟨a, b, d⟩ := h
  refine ⟨⟨a, fun z hz => (d z hz).1, fun z hz => by have := d z hz; omega, by omega⟩, ?_⟩
  have := (sum_lt (b := 7) w (fun z hz => (d z hz).1) fun z hz => by have := d z hz; omega).2
  omega
theorem rows_drawn {k : Nat} (hk : 4 ≤ k ∧ k ≤ 12) {g : List Int} {m : Int} (h : Pu m g) (hm : m ≤ 2 ^ 39) : ∃ r, m_l_rows g (k : Int) = .ok r ∧ Pu (m + 1000) r.2 ∧ RowsD k r.1 := by
  obtain ⟨n, g1, e1, p1, n0, n1⟩ := draw_ok h (by omega) (n := 3) ⟨by omega, by omega⟩
  unfold m_l_rows
  rw [req_val e1, req_some (irng_ups (n := (1 + n).toNat) (by omega) (by omega) (by omega) (by omega))]
  refine fold_exC (fun i (s : List Int × List (List Int)) => Pu (m + 5 + 100 * (i : Int)) s.1 ∧ s.2.length = i ∧ (∀ w ∈ s.2, w ≠ [] ∧ w.length ≤ k ∧ ∀ z ∈ w, 1 ≤ z ∧ z ≤ 6) ∧ ∀ (j : Nat) (w : List Int), s.2[j]? = some w → w.length + j ≤ k) ⟨p1.le (by omega), rfl, fun _ hx => absurd hx List.not_mem_nil, fun j w hj => by simp at hj⟩ (fun i x s hx hs => ?_) (fun s hs => ?_)
  · obtain ⟨hp, hl, hr, hz⟩ := hs
    obtain ⟨hi, _⟩ := ups_at hx
    obtain ⟨a, ga, ea, pa, a0, a1⟩ := draw_ok hp (by omega) (n := (k : Int) - (s.2.length : Int)) ⟨by omega, by omega⟩
    obtain ⟨b, gb, eb, pb, b0, b1⟩ := draw_ok pa (by omega) (n := 3) ⟨by omega, by omega⟩
    obtain ⟨hi, eh, h0, h1⟩ : ∃ hi, atI [(2 : Int), (3 : Int), (6 : Int)] b = some hi ∧ 2 ≤ hi ∧ hi ≤ 6 := by
      rcases (by omega : b = 0 ∨ b = 1 ∨ b = 2) with rfl | rfl | rfl
      · exact ⟨2, rfl, by decide, by decide⟩
      · exact ⟨3, rfl, by decide, by decide⟩
      · exact ⟨6, rfl, by decide, by decide⟩
    obtain ⟨r, er, pr, lr, qr⟩ := mapT_exC (f := fun (s423 : (List Int)) (x424 : Int) => (Option.bind (Res.val (m_l_random s423 hi)) fun y429 => (some (y429.2, ((1 : Int) + y429.1))))) (Q := fun y : Int => 1 ≤ y ∧ y ≤ 6) (xs := ups 0 (1 + a).toNat) (s0 := gb) (fun j s => Pu (m + 15 + 100 * (i : Int) + 5 * (j : Int)) s) (pb.le (by omega)) (fun j y t hy ht => by
      obtain ⟨lj, _⟩ := ups_at hy
      obtain ⟨z, gz, ez, pz, z0, z1⟩ := draw_ok ht (by omega) (n := hi) ⟨by omega, by omega⟩
      exact ⟨_, obind (val_some ez) rfl, pz.le (by omega), by show 1 ≤ 1 + z; omega, by show 1 + z ≤ 6; omega⟩)
    rw [ups_len] at lr
    refine ⟨_, reqv ea (reqv eb (req_go eh (req_go (irng_ups (n := (1 + a).toNat) (by omega) (by omega) (by omega) (by omega)) (req_go er (req_go (app_ok (by omega)) rfl))))), pr.le ?_, ?_, fun w hw => ?_, fun j w hj => ?_⟩
    · rw [ups_len]
      omega
    · rw [List.length_append, hl]
      rfl
    · rcases List.mem_append.mp hw with c | c
      · exact hr w c
      · rw [List.mem_singleton.mp c]
        exact ⟨fun z => by rw [z] at lr; simp at lr; omega, by rw [lr]; omega, qr⟩
    · by_cases c : j < s.2.length
      · rw [List.getElem?_append_left c] at hj
        exact hz j w hj
      · have lj := (List.getElem?_eq_some_iff.mp hj).1
        rw [List.length_append] at lj
        have ej : j = s.2.length := by
          have : j < s.2.length + 1 := lj
          omega
        rw [ej, List.getElem?_append_right (Nat.le_refl _), Nat.sub_self] at hj
        have e : r.2 = w := Option.some.inj hj
        rw [← e, lr, ej]
        omega
  · obtain ⟨hp, hl, hr, hz⟩ := hs
    rw [ups_len] at hp hl
    exact ⟨_, rfl, hp.le (by omega), ⟨by dsimp only; omega, hr, hz⟩⟩
end Pr
/-! ## k61: each text that the law asks is read right -/
namespace Px
open PySem L2 Lf Mi Pl Pm SX C8
open Pr (Pu gen_ok draw_ok rows_drawn RowsD)
/-- a text of so many signs at most -/
def TX (n : Nat) (x : Str) : Prop := x.cps.toList.length ≤ n ∧ ∀ c ∈ x.cps.toList, c < 128
theorem TX.le {n m : Nat} {x : Str} (h : TX n x) (l : n ≤ m) : TX m x := ⟨Nat.le_trans h.1 l, h.2⟩
theorem TX.len {n : Nat} {x : Str} (h : TX n x) : x.length ≤ n := by
  have e : x.length = x.cps.toList.length := by simp [Str.length]
  rw [e]
  exact h.1
theorem TX.right {n : Nat} {x : Str} (h : TX n x) (l : n < 900000) : m_l_right x = .ok true := by
  have e := right_ok (l := x.cps.toList) (by have := h.1; omega) h.2
  rw [S_tl] at e
  exact e
theorem tx_S {l : List Nat} {n : Nat} (h : l.length ≤ n) (c : ∀ x ∈ l, x < 128) : TX n (S l) := ⟨h, c⟩
theorem add_tx {n m : Nat} {x y : Str} (hx : TX n x) (hy : TX m y) (l : n + m ≤ 1000000) : ∃ z, addS x y = some z ∧ TX (n + m) z := by
  have e := addS_ok (a := x.cps.toList) (b := y.cps.toList) (by have := hx.1; have := hy.1; omega)
  rw [S_tl, S_tl] at e
  refine ⟨_, e, tx_S ?_ fun c h => ?_⟩
  · rw [List.length_append]
    have := hx.1
    have := hy.1
    omega
  · rcases List.mem_append.mp h with h | h
    · exact hx.2 c h
    · exact hy.2 c h
theorem cut_tx {n : Nat} {x : Str} (hx : TX n x) (l : n ≤ 1000000) (lo hi : Option Int) : ∃ z, cutT x lo hi = some z ∧ TX n z := by
  unfold cutT
  rw [if_pos (Nat.le_trans (Nat.le_trans hx.len (Nat.le_trans l (by decide))) line_big)]
  refine ⟨_, rfl, ?_⟩
  have sub : ∀ c ∈ (cutS x lo hi).cps.toList, c ∈ x.cps.toList := fun c h => by
    have h' : c ∈ ((x.cps.toList.drop (HT.sIx x.length 0 lo)).take (HT.sIx x.length x.length hi - HT.sIx x.length 0 lo)) := h
    exact List.mem_of_mem_drop (List.mem_of_mem_take h')
  refine ⟨?_, fun c h => hx.2 c (sub c h)⟩
  have := cutS_length x lo hi
  have e1 : (cutS x lo hi).length = (cutS x lo hi).cps.toList.length := by simp [Str.length]
  rw [← e1]
  exact Nat.le_trans this hx.len
theorem rev_tx {n : Nat} {x : Str} (hx : TX n x) (l : n ≤ 1000000) : ∃ z, revT' x = some z ∧ TX n z := by
  unfold revT'
  rw [if_pos (Nat.le_trans (Nat.le_trans hx.len (Nat.le_trans l (by decide))) line_big)]
  refine ⟨_, rfl, ?_, fun c h => ?_⟩
  · show x.cps.toList.reverse.toArray.toList.length ≤ n
    simpa using hx.1
  · have h' : c ∈ x.cps.toList.reverse.toArray.toList := h
    exact hx.2 c (by simpa using h')
theorem fits_tx {n : Nat} {x : Str} (hx : TX n x) (l : n ≤ 1000000) : fits x = some () := by
  have e := fits_ok (a := x.cps.toList) (by have := hx.1; omega)
  rw [S_tl] at e
  exact e
theorem signs_tx : ∀ x ∈ [("0" : Str), ("1" : Str), ("/" : Str), (" " : Str), ("\n" : Str), ("-" : Str), ("+" : Str), ("\t" : Str), ("x" : Str), ("" : Str), ("." : Str), ("_" : Str), (" 2 " : Str), ("/3" : Str)], TX 3 x := by
  intro x hx
  have e : ∀ x ∈ [("0" : Str), ("1" : Str), ("/" : Str), (" " : Str), ("\n" : Str), ("-" : Str), ("+" : Str), ("\t" : Str), ("x" : Str), ("" : Str), ("." : Str), ("_" : Str), (" 2 " : Str), ("/3" : Str)], (decide (x.cps.toList.length ≤ 3) && decide (x.cps.toList.all (fun c => decide (c < 128)) = true)) = true := by decide +kernel
  have q := e x hx
  rw [Bool.and_eq_true, decide_eq_true_eq] at q
  exact ⟨q.1, fun c hc => of_decide_eq_true (List.all_eq_true.mp (of_decide_eq_true q.2) c hc)⟩
theorem bent_ok {g : List Int} {m : Int} {t : Str} {n : Nat} (h : Pu m g) (hm : m ≤ 2 ^ 39) (ht : TX n t) (hn : n ≤ 1000) : ∃ r, m_l_bent g t = .ok r ∧ ∀ y ∈ r.1, TX (3 * n + 10) y := by
  have len : (t.length : Int) + 1 = (((t.length + 1 : Nat)) : Int) := by omega
  have tl := ht.len
  obtain ⟨a, g1, e1, p1, a0, a1⟩ := draw_ok h (by omega) (n := (t.length : Int) + 1) ⟨by omega, by omega⟩
  obtain ⟨b, g2, e2, p2, b0, b1⟩ := draw_ok p1 (by omega) (n := (t.length : Int) + 1) ⟨by omega, by omega⟩
  obtain ⟨d, g3, e3, p3, d0, d1⟩ := draw_ok p2 (by omega) (n := 14) ⟨by omega, by omega⟩
  have hs : ∃ s, atI [("0" : Str), ("1" : Str), ("/" : Str), (" " : Str), ("\n" : Str), ("-" : Str), ("+" : Str), ("\t" : Str), ("x" : Str), ("" : Str), ("." : Str), ("_" : Str), (" 2 " : Str), ("/3" : Str)] d = some s ∧ TX 3 s := by
    have dl : d.toNat < 14 := by omega
    have ed : d = (d.toNat : Int) := by omega
    obtain ⟨s, es⟩ : ∃ s, [("0" : Str), ("1" : Str), ("/" : Str), (" " : Str), ("\n" : Str), ("-" : Str), ("+" : Str), ("\t" : Str), ("x" : Str), ("" : Str), ("." : Str), ("_" : Str), (" 2 " : Str), ("/3" : Str)][d.toNat]? = some s := ⟨_, List.getElem?_eq_getElem (by simpa using dl)⟩
    refine ⟨s, ?_, signs_tx s (List.mem_of_getElem? es)⟩
    rw [ed]
    exact atI_nat' es
  obtain ⟨s, es, hs⟩ := hs
  have C := fun lo hi => cut_tx ht (by omega) lo hi
  obtain ⟨c1, k1, t1⟩ := C none (some a)
  obtain ⟨c2, k2, t2⟩ := C (some (a + 1)) none
  obtain ⟨c3, k3, t3⟩ := C (some a) none
  obtain ⟨c4, k4, t4⟩ := C none (some b)
  obtain ⟨c5, k5, t5⟩ := C (some a) (some (a + 2))
  obtain ⟨c6, k6, t6⟩ := C (some (a + 2)) none
  obtain ⟨x1, q1, u1⟩ := add_tx t1 t2 (by omega)
  obtain ⟨x2, q2, u2⟩ := add_tx t1 hs (by omega)
  obtain ⟨x3, q3, u3⟩ := add_tx u2 t3 (by omega)
  obtain ⟨x4, q4, u4⟩ := add_tx u2 t2 (by omega)
  obtain ⟨x5, q5, u5⟩ := add_tx ht hs (by omega)
  obtain ⟨x6, q6, u6⟩ := add_tx hs ht (by omega)
  obtain ⟨x7, q7, u7⟩ := add_tx t4 t3 (by omega)
  obtain ⟨x8, q8, u8⟩ := add_tx ht (signs_tx "/" (by simp)) (by omega)
  obtain ⟨x9, q9, u9⟩ := add_tx u8 ht (by omega)
  obtain ⟨y1, r1, v1⟩ := add_tx ht (signs_tx " " (by simp)) (by omega)
  obtain ⟨y2, r2, v2⟩ := add_tx v1 ht (by omega)
  obtain ⟨y3, r3, v3⟩ := rev_tx ht (by omega)
  obtain ⟨y4, r4, v4⟩ := rev_tx t5 (by omega)
  obtain ⟨y5, r5, v5⟩ := add_tx t1 v4 (by omega)
  obtain ⟨y6, r6, v6⟩ : ∃ z, addS y5 c6 = some z ∧ TX (3 * n) z := by
    obtain ⟨z, e, w⟩ := add_tx v5 t6 (by omega)
    exact ⟨z, e, w.le (by omega)⟩
  refine ⟨_, req_go (fits_tx ht (by omega)) (reqv e1 (req_go (fits_tx ht (by omega)) (reqv e2 (reqv e3 (req_go es
    (req_go k1 (req_go k2 (req_go q1 (req_go k1 (req_go q2 (req_go k3 (req_go q3 (req_go k1 (req_go q2 (req_go k2 (req_go q4 (req_go k3 (req_go rfl
    (req_go k1 (req_go q5 (req_go q6 (req_go k4 (req_go k3 (req_go q7 (req_go q8 (req_go q9 (req_go r1 (req_go r2 (req_go (cat_ok (by simp))
    (req_go r3 (req_go k1 (req_go k5 (req_go r4 (req_go r5 (req_go k6 (req_go r6 (req_go (cat_ok (by simp)) rfl))))))))))))))))))))))))))))))))))))), ?_⟩
  intro y hy
  simp only [List.cons_append, List.nil_append, List.mem_cons, List.not_mem_nil, or_false] at hy
  rcases hy with rfl | rfl | rfl | rfl | rfl | rfl | rfl | rfl | rfl | rfl | rfl | rfl
  · exact u1.le (by omega)
  · exact u3.le (by omega)
  · exact u4.le (by omega)
  · exact t3.le (by omega)
  · exact t1.le (by omega)
  · exact u5.le (by omega)
  · exact u6.le (by omega)
  · exact u7.le (by omega)
  · exact u9.le (by omega)
  · exact v2.le (by omega)
  · exact v3.le (by omega)
  · exact v6.le (by omega)
theorem mapO_tx {α β : Type} {f : α → Option (Option β)} {P : β → Prop} : ∀ {xs : List α}, (∀ x ∈ xs, ∃ y, f x = some (some y) ∧ P y) → ∃ ys, mapO f xs = some ys ∧ ys.length = xs.length ∧ ∀ y ∈ ys, P y
  | [], _ => ⟨[], rfl, rfl, fun _ h => (List.not_mem_nil h).elim⟩
  | x :: xs, h => by
    obtain ⟨y, e, py⟩ := h x (List.mem_cons_self ..)
    obtain ⟨ys, e2, l, q⟩ := mapO_tx (xs := xs) fun z hz => h z (List.mem_cons_of_mem _ hz)
    refine ⟨y :: ys, ?_, by rw [List.length_cons, List.length_cons, l], fun z hz => ?_⟩
    · unfold mapO
      rw [e, e2]
    · rcases List.mem_cons.mp hz with rfl | hz
      · exact py
      · exact q z hz
theorem str_tx {z : Int} (h : 1 ≤ z ∧ z ≤ 6) : ∃ s, strO z = some s ∧ TX 1 s := by
  have e : z = 1 ∨ z = 2 ∨ z = 3 ∨ z = 4 ∨ z = 5 ∨ z = 6 := by omega
  rcases e with rfl | rfl | rfl | rfl | rfl | rfl
  · exact ⟨S [49], by decide +kernel, tx_S (by simp) (by simp)⟩
  · exact ⟨S [50], by decide +kernel, tx_S (by simp) (by simp)⟩
  · exact ⟨S [51], by decide +kernel, tx_S (by simp) (by simp)⟩
  · exact ⟨S [52], by decide +kernel, tx_S (by simp) (by simp)⟩
  · exact ⟨S [53], by decide +kernel, tx_S (by simp) (by simp)⟩
  · exact ⟨S [54], by decide +kernel, tx_S (by simp) (by simp)⟩
theorem joinL_in (sep : List Nat) : ∀ (ps : List (List Nat)), (∀ c ∈ TL.joinL sep ps, c ∈ sep ∨ ∃ p ∈ ps, c ∈ p) ∧ (TL.joinL sep ps).length ≤ (ps.map List.length).sum + ps.length * sep.length
  | [] => ⟨fun c h => (List.not_mem_nil h).elim, Nat.zero_le _⟩
  | [p] => ⟨fun c h => .inr ⟨p, List.mem_singleton.mpr rfl, h⟩, by show p.length ≤ _; simp⟩
  | p :: q :: ps => by
    obtain ⟨a, b⟩ := joinL_in sep (q :: ps)
    have e : TL.joinL sep (p :: q :: ps) = p ++ (sep ++ TL.joinL sep (q :: ps)) := by
      first
      | rfl
      | (show p ++ sep ++ TL.joinL sep (q :: ps) = _; rw [List.append_assoc])
    refine ⟨fun c h => ?_, ?_⟩
    · rw [e] at h
      rcases List.mem_append.mp h with h | h
      · exact .inr ⟨p, List.mem_cons_self .., h⟩
      · rcases List.mem_append.mp h with h | h
        · exact .inl h
        · rcases a c h with h | ⟨x, hx, h⟩
          · exact .inl h
          · exact .inr ⟨x, List.mem_cons_of_mem _ hx, h⟩
    · rw [e, List.length_append, List.length_append, List.map_cons, List.sum_cons, List.length_cons, Nat.succ_mul]
      omega
theorem lens_le {n : Nat} : ∀ {ys : List Str}, (∀ y ∈ ys, TX n y) → ((ys.map TL.tl).map List.length).sum ≤ ys.length * n
  | [], _ => Nat.zero_le _
  | y :: ys, h => by
    have ih := lens_le (ys := ys) fun z hz => h z (List.mem_cons_of_mem _ hz)
    have hy := (h y (List.mem_cons_self ..)).1
    rw [List.map_cons, List.map_cons, List.sum_cons, List.length_cons, Nat.succ_mul]
    show y.cps.toList.length + _ ≤ _
    omega
theorem join_tx {n m k : Nat} {x : Str} {ys : List Str} (hx : TX m x) (hy : ∀ y ∈ ys, TX n y) (hk : ys.length ≤ k) (small : k * (n + m) ≤ 1000) : ∃ z, joinO x ys = some z ∧ TX (k * (n + m)) z := by
  have a := lens_le hy
  have up : ys.length * (n + m) ≤ k * (n + m) := Nat.mul_le_mul_right _ hk
  rw [Nat.mul_add] at up
  have e1 : (ys.map (·.length)).sum = ((ys.map TL.tl).map List.length).sum := by
    rw [List.map_map]
    congr 1
  have lx : ys.length * x.length ≤ ys.length * m := Nat.mul_le_mul_left _ hx.len
  unfold joinO
  rw [if_pos (by rw [e1]; omega)]
  refine ⟨_, rfl, ?_⟩
  obtain ⟨b, c⟩ := joinL_in (TL.tl x) (ys.map TL.tl)
  have ej : (Txt.join x ys).cps.toList = TL.joinL (TL.tl x) (ys.map TL.tl) := by
    rw [TL.join_eq]
    exact TL.tl_join x ys
  unfold TX
  rw [ej]
  have lt : (TL.tl x).length = x.length := (TL.len_tl x).symm
  rw [lt, List.length_map] at c
  refine ⟨by omega, fun q hq => ?_⟩
  rcases b q hq with h | ⟨p, hp, h⟩
  · exact hx.2 q h
  · obtain ⟨y, hy', rfl⟩ := List.mem_map.mp hp
    exact (hy y hy').2 q h
theorem rep_in (z : Array Nat) : ∀ (k : Nat) (acc : Array Nat), ∀ c ∈ ((List.replicate k z).foldl (· ++ ·) acc).toList, c ∈ acc.toList ∨ c ∈ z.toList
  | 0, acc, c, h => .inl h
  | k + 1, acc, c, h => by
    rw [List.replicate_succ, List.foldl_cons] at h
    rcases rep_in z k _ c h with h | h
    · rw [Array.toList_append] at h
      exact List.mem_append.mp h
    · exact .inr h
theorem times_tx {n : Int} (h : 2 ≤ n ∧ n ≤ 10000) : ∃ z, timesS "9" n = some z ∧ TX 10000 z := by
  have e9 : ("9" : Str) = S [57] := by decide +kernel
  unfold timesS
  rw [e9, if_pos ⟨h.1, h.2, by decide, by decide⟩]
  refine ⟨_, rfl, ?_, fun c hc => ?_⟩
  · show ((List.replicate n.toNat (S [57]).cps).foldl (· ++ ·) #[]).toList.length ≤ 10000
    rw [Array.length_toList, Zs.foldl_size]
    show 0 + n.toNat * 1 ≤ 10000
    omega
  · rcases rep_in _ _ _ c hc with q | q
    · exact (List.not_mem_nil q).elim
    · have : c = 57 := by simpa using q
      omega
theorem none_wrong : ∀ (ys : List Str) (n : Nat), n < 900000 → (∀ y ∈ ys, TX n y) → mapO (fun (x457 : Str) => (Option.bind (Res.val (m_l_right x457)) fun y462 => (if (!y462) then (some (some x457)) else some none))) ys = some []
  | [], _, _, _ => rfl
  | y :: ys, n, hn, h => by
    unfold mapO
    rw [val_some ((h y (List.mem_cons_self ..)).right hn)]
    exact none_wrong ys n hn fun z hz => h z (List.mem_cons_of_mem _ hz)
def oddA : List Str := [("" : Str), (" " : Str), ("/" : Str), ("1 /" : Str), ("/ 1" : Str), ("1 / / 2" : Str), ("1/2/3/4" : Str), ("0" : Str), ("1 0" : Str), ("01" : Str), ("1,2" : Str), ("-1" : Str), ("+1" : Str), ("1.0" : Str), ("1_0" : Str), ("1 2 / 3" : Str), ("1\t2" : Str), ("1//2" : Str), ("1 \n / \n 2" : Str), (" 5 " : Str), ("1 /2/ 3" : Str), ("[1]" : Str), ("1e1" : Str), ("x" : Str)]
theorem odd_tx : ∀ x ∈ oddA, TX 10000 x := by
  intro x hx
  have e : ∀ x ∈ oddA, (decide (x.cps.toList.length ≤ 20) && decide (x.cps.toList.all (fun c => decide (c < 128)) = true)) = true := by decide +kernel
  have q := e x hx
  rw [Bool.and_eq_true, decide_eq_true_eq] at q
  exact ⟨by omega, fun c hc => of_decide_eq_true (List.all_eq_true.mp (of_decide_eq_true q.2) c hc)⟩
/-- a value that is refused, and can be told -/
def Refd (x : PV) : Prop := m_read_counter x = .err ⟨"InvalidText", x⟩ ∧ ∃ t, toldP x = some t
theorem refd_all : ∀ x ∈ [(PV.of (() : Unit)), (PV.of ((3 : Int) : Int)), (PV.of ([("1" : Str)] : (List Str))), (PV.of ((Tu.mk [("1" : Str)]) : (Tu Str))), PV.edict, (PV.of (true : Bool)), (PV.of ([[("1" : Str)]] : (List (List Str)))), (PV.of ((0 : Int) : Int))], Refd x := by
  have some_ : ∀ {o : Option Str}, o.isSome = true → ∃ t, o = some t := fun {o} h => by
    cases o with
    | none => cases h
    | some t => exact ⟨t, rfl⟩
  intro x hx
  simp only [List.mem_cons, List.not_mem_nil, or_false] at hx
  rcases hx with rfl | rfl | rfl | rfl | rfl | rfl | rfl | rfl <;> exact ⟨rfl, some_ (by decide +kernel)⟩
theorem law_ok (s : Sc) : m_law s = .ok true := by
  unfold m_law
  refine req_go (irng_ups (n := 5) (by decide) (by decide) (by decide) (by decide)) ?_
  refine loop_after (fun _ _ => True) trivial (fun i x q hx _ => ?_) fun q _ => ?_
  · obtain ⟨hi, ex⟩ := ups_at hx
    obtain ⟨g0, e0, p0⟩ := gen_ok s i (by omega)
    obtain ⟨r, e1, p1, R⟩ := rows_drawn (k := 5) ⟨by omega, by omega⟩ p0 (by decide)
    have inner : ∀ w ∈ r.1, ∃ y, (Option.bind (mapO (fun (x440 : Int) => (Option.bind (strO x440) fun y445 => (some (some y445)))) w) fun y447 => (Option.bind (joinO " " y447) fun y449 => (some (some y449)))) = some (some y) ∧ TX (5 * (1 + 3)) y := by
      intro w hw
      obtain ⟨_, wl, wz⟩ := R.row w hw
      obtain ⟨ys, e2, l2, q2⟩ := mapO_tx (f := fun (x440 : Int) => (Option.bind (strO x440) fun y445 => (some (some y445)))) (P := TX 1) (xs := w) fun z hz => by
        obtain ⟨s, es, ts⟩ := str_tx (wz z hz)
        exact ⟨s, by rw [es]; rfl, ts⟩
      obtain ⟨z, ez, tz⟩ := join_tx (signs_tx " " (by simp)) q2 (k := 5) (by omega) (by decide)
      refine ⟨z, ?_, tz⟩
      rw [e2]
      show (Option.bind (joinO " " ys) fun y449 => (some (some y449))) = _
      rw [ez]
      rfl
    obtain ⟨ys, e2, l2, q2⟩ := mapO_tx inner
    have sep : TX 3 (" / " : Str) := by
      have e : (" / " : Str) = S [32, 47, 32] := by decide +kernel
      rw [e]
      exact tx_S (by simp) (by simp)
    obtain ⟨t, et, tt⟩ := join_tx sep q2 (k := 3) (by rw [l2]; exact R.few.2) (by decide)
    obtain ⟨b, eb, tb⟩ := bent_ok p1 (by decide) tt (by decide)
    have x0 : x = (i : Int) := by omega
    refine ⟨(), ?_, trivial⟩
    rw [x0]
    exact reqv e0 (reqv e1 (req_go e2 (req_go et (reqv eb (req_go (none_wrong _ _ (by decide) tb) rfl)))))
  · obtain ⟨a, ea, ta⟩ := times_tx (n := 30) (by decide)
    obtain ⟨b, eb, tb⟩ := times_tx (n := 31) (by decide)
    obtain ⟨c, ec, tc⟩ := times_tx (n := 4400) (by decide)
    refine req_go rfl (req_go ea (req_go eb (req_go ec (req_go (cat_ok (by simp)) (req_go (cat_ok (by simp)) ?_)))))
    refine req_go (none_wrong _ 10000 (by decide) fun y hy => ?_) ?_
    · simp only [List.cons_append, List.nil_append, List.mem_cons, List.not_mem_nil, or_false] at hy
      have o := odd_tx
      unfold oddA at o
      rcases hy with rfl | rfl | rfl | rfl | rfl | rfl | rfl | rfl | rfl | rfl | rfl | rfl | rfl | rfl | rfl | rfl | rfl | rfl | rfl | rfl | rfl | rfl | rfl | rfl | rfl | rfl | rfl
      all_goals first | exact ta | exact tb | exact tc | exact o _ (by simp)
    refine (if_neg Bool.false_ne_true).trans ?_
    refine loop_after (fun _ _ => True) trivial (fun i x q hx _ => ?_) fun q _ => rfl
    obtain ⟨e, t, et⟩ := refd_all x (List.mem_of_getElem? hx)
    have kept : Res.caught ["InvalidText"] (m_read_counter x) = .ok (some ⟨"InvalidText", x⟩) := by
      rw [e]
      unfold Res.caught
      exact if_pos (List.mem_singleton.mpr rfl)
    have vl : valE ["InvalidText"] (some (⟨"InvalidText", x⟩ : Exn)) = some x := by
      unfold valE
      dsimp only
      rw [if_pos (List.mem_singleton.mpr rfl)]
    refine ⟨(), bind_go kept (req_go (x := false) ?_ rfl), trivial⟩
    show (Option.bind (valE ["InvalidText"] (some (⟨"InvalidText", x⟩ : Exn))) fun y499 => (Option.bind (toldP y499) fun y501 => (Option.bind (toldP x) fun y503 => (some (!decide (y501 = y503)))))) = _
    rw [vl]
    show (Option.bind (toldP x) fun y501 => (Option.bind (toldP x) fun y503 => (some (!decide (y501 = y503))))) = _
    rw [et]
    show some (!decide (t = t)) = _
    rw [decide_eq_true rfl]
    rfl
end Px

open PySem PySem.W PySem.Calls PyProof.Rows
theorem PySem.Challenge.cw_rollclerk_k61_texts_of_no_counter_holds : PySem.Challenge.rw_rollclerk_k61_texts_of_no_counter.Holds := by
  w_on; o_law
  refine HandSHeadRun.head_any (r := RC.R) (q := view RC.R.prog [33]) (H := RC.hk) (ob := RC.ob) (M := 8000) (loose := RC.loose) (d := HandSHeadRun.topDef RC.R.prog 33) (kwd := []) RC.ob_eq
    (by kernel_rfl) (fun s => by kernel_rfl) RC.run (by kernel_rfl) (by kernel_rfl) (by kernel_rfl) (by rfl) (by first | assumption | decide +kernel) (by decide +kernel) ⟨rfl, rfl, rfl, rfl, rfl, by decide +kernel⟩ ?hw ?hc
  case hw => w_witness2
  case hc =>
    refine RC.walk_ofG (l := PySem.Challenge.rw_rollclerk_k61_texts_of_no_counter) (n := 63) (k := 7) (x := "_law_script") rfl (by decide) (by kernel_rfl) ⟨rfl, by decide, by decide⟩ ?F
    intro w mg fa h Y G hmg0
    obtain ⟨K, KX, c⟩ := Y
    have hmg : mg ("law" : PySem.Str) = some (.ref fa) := by
      have e : (HandSHeadRun.topDef RC.R.prog 33).name = ("law" : PySem.Str) := by kernel_rfl
      rw [← e]
      exact hmg0
    obtain ⟨T⟩ := RC.txt_of KX G c
    have e := hmg.symm.trans T.g_law
    cases e
    have b := L2.FunD.bindsA (ps := ["_law_script"]) T.F_law fun _ _ _ _ _ _ us hl => match us, hl with | [_], _ => rfl
    exact ⟨K, T.fd_law, Lf.quiet (Mi.sp_law K), KX, fun s v => b s [v] rfl, fun H a ns hl hO hS => ⟨⟨ns⟩, [], H, hl, Lf.PArgs.sc hS, Lf.At.nil hO, Lf.Says.yes ((fun s _ => Px.law_ok s) ⟨ns⟩ hl)⟩, fun base _ _ => Lf.quietG (Mi.ok_law T)⟩
