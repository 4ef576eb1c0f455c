import PyProof.Rows.All
import Wide.All
import OpenK.AllK
import Wide.FinOn
import KE.KStateDown
import HandS.ForMost
import HandS.More
import HandS.Exc
import HandS.ExcOwn
import HandS.TryOnly
import HandS.WordsExc
import HandS.Defaults
import HandS.Deep
import HandS.Conv
import HandS.MakeKwOnly
import HandS.Wide
import HandS.WideBits
import HandS.Style
import HandS.IsInst
import HandS.Star
import HandS.OwnEq
import HandS.SortInts
import HandS.Evl
import HandS.SetFor
import KE.KDictSum
import HandS.SortRule
import HandS.Flow
import HandS.Strs
import HandS.TupAny
import KE.DataMinMax
import KE.SortData
import KE.DataCmp
import HandS.Head0
import HandS.Head1
import HandS.Head2
import HandS.HeadEnd
import HandS.HeadHook1
import HandS.HeadHook2
import KE.KExcSuper
import HandS.ExcValue
import HandS.CallSlots
import PyProof.LongRange
import HandS.ExcIs
import KE.KExcIs
import PySem.Challenge.RW_rollclerk_k37_rolls_told_back
import PyProof.ReprBulk
import PyProof.FitsInt
set_option Elab.async false
set_option linter.all false
set_option maxRecDepth 100000
set_option maxHeartbeats 4000000
/-! ## The steps of a reading, one lemma a construct; heaps that grow -/
namespace RC
open PySem PySem.Spec PyProof.Rows L2

/-! ### heaps -/
theorem small1 {n : Nat} (h : n ≤ 100000) : n < sizeLine := Nat.lt_of_le_of_lt h (by decide)
theorem small2 {n : Nat} (h : n ≤ 100000) : n ≤ sizeLine := Nat.le_trans h (by decide)
theorem same_new {H : Hp} {p : Addr} {o : HO} (h : H p = none) : Same H (upd H p o) := fun b x e => by
  rw [upd_ne (ne_of_none e h)]
  exact e
/-- something new at p: the heap behind it by a name -/
theorem r_new {H : Hp} {o : HO} {Q : VK} (h : ∀ p H1, H p = none → Same H H1 → H1 p = some o → Q (.ref p) H1) : ∀ p, H p = none → Q (.ref p) (upd H p o) := fun p hp => h p _ hp (same_new hp) upd_same
theorem Same.rd {H H' : Hp} (e : Same H H') {a : Addr} {u : HO} (h : Rd H a u) : Rd H' a u := by
  rcases h with h | ⟨o, h⟩
  · exact .inl (e _ _ h)
  · exact .inr ⟨o, e _ _ h⟩
theorem Same.tup {K : PySem.W.Frag} {H H' : Hp} {a : Addr} {xs : List V} (e : Same H H') (h : SqT K H a xs) : SqT K H' a xs := by
  rcases h with h | h
  · exact .inl (Same.rd e h)
  · exact .inr h
theorem Same.lst {K : PySem.W.Frag} {H H' : Hp} {a : Addr} {xs : List V} (e : Same H H') (h : SqL K H a xs) : SqL K H' a xs := by
  rcases h with h | h
  · exact .inl (Same.rd e h)
  · exact .inr h
mutual
theorem Same.dp {K : PySem.W.Frag} {H H' : Hp} (e : Same H H') : ∀ {v : V} {d : PyData}, Dp K H v d → Dp K H' v d
  | _, _, .non => .non
  | _, _, .bl b => .bl b
  | _, _, .int i => .int i
  | _, _, .str x => .str x
  | _, _, .lst h a => .lst (Same.lst e h) (Same.dpa e a)
  | _, _, .tup h a => .tup (Same.tup e h) (Same.dpa e a)
theorem Same.dpa {K : PySem.W.Frag} {H H' : Hp} (e : Same H H') : ∀ {v : List V} {d : List PyData}, DpAll K H v d → DpAll K H' v d
  | _, _, .nil => .nil
  | _, _, .cons h t => .cons (Same.dp e h) (Same.dpa e t)
end
/-- G is a part of H that leaves p out -/
def Cut (p : Addr) (H G : Hp) : Prop := ∀ a o, G a = some o → a ≠ p ∧ H a = some o
theorem Cut.same {p : Addr} {H G : Hp} (c : Cut p H G) : Same G H := fun a o h => (c a o h).2
theorem Cut.of {p : Addr} {H G : Hp} (e : Same G H) (h : G p = none) : Cut p H G := fun a o q => ⟨ne_of_none q h, e a o q⟩
theorem Cut.upd {p : Addr} {H G : Hp} {o : HO} (c : Cut p H G) : Cut p (upd H p o) G := fun a u h => by
  obtain ⟨n, q⟩ := c a u h
  exact ⟨n, by rw [upd_ne n]; exact q⟩
theorem Cut.grow {p : Addr} {H H' G : Hp} (c : Cut p H G) (e : Same H H') : Cut p H' G := fun a o h => ⟨(c a o h).1, e a o (c a o h).2⟩
/-- the largest such part -/
def rest (H : Hp) (p : Addr) : Hp := fun a => if a = p then none else H a
theorem rest_cut (H : Hp) (p : Addr) : Cut p H (rest H p) := fun a o h => by
  unfold rest at h
  by_cases e : a = p
  · rw [if_pos e] at h
    cases h
  · rw [if_neg e] at h
    exact ⟨e, h⟩
theorem rest_ne {H : Hp} {p a : Addr} (e : a ≠ p) : rest H p a = H a := if_neg e
theorem rest_same {H : Hp} {p : Addr} : rest H p p = none := if_pos rfl
theorem same_rest {G H : Hp} {p : Addr} (e : Same G H) (h : G p = none) : Same G (rest H p) := fun a o q => by
  rw [rest_ne (ne_of_none q h)]
  exact e a o q
theorem rest_grow {H H' : Hp} {p : Addr} (e : Same H H') : Same (rest H p) (rest H' p) := fun a o h => by
  have n : a ≠ p := ((rest_cut H p) a o h).1
  rw [rest_ne n] at h ⊢
  exact e a o h
theorem rest_upd {H : Hp} {p : Addr} {o : HO} : rest (L2.upd H p o) p = rest H p := by
  funext a
  unfold rest
  by_cases e : a = p
  · rw [if_pos e, if_pos e]
  · rw [if_neg e, if_neg e, upd_ne e]
/-- all but what stands at p is as it was -/
def But (p : Addr) (H H' : Hp) : Prop := ∀ b o, b ≠ p → H b = some o → H' b = some o
theorem But.refl (p : Addr) (H : Hp) : But p H H := fun _ _ _ h => h
theorem But.of {p : Addr} {H H' : Hp} (e : Same H H') : But p H H' := fun b o _ h => e b o h
theorem But.trans {p : Addr} {H H1 H2 : Hp} (a : But p H H1) (b : But p H1 H2) : But p H H2 := fun c o n h => b c o n (a c o n h)
theorem But.upd {p : Addr} {H : Hp} {o : HO} : But p H (upd H p o) := fun b x n h => by rw [upd_ne n]; exact h
theorem But.same {p : Addr} {H0 H H' : Hp} (e : Same H0 H) (n : H0 p = none) (b : But p H H') : Same H0 H' := fun a o h => b a o (ne_of_none h n) (e a o h)
/-- something written at p: the heap behind it by a name -/
theorem r_mut {H : Hp} {p : Addr} {o : HO} {G : Hp → Prop} (h : ∀ H1, But p H H1 → H1 p = some o → G H1) : G (L2.upd H p o) := h _ But.upd upd_same
def notSeq : HO → Bool
  | .lst _ => false
  | .tup _ => false
  | .frz _ _ => false
  | _ => true
theorem But.lst {K : PySem.W.Frag} {p a : Addr} {H H' : Hp} {o : HO} {xs : List V} (b : But p H H') (hp : H p = some o) (k : notSeq o = true) (h : SqL K H a xs) : SqL K H' a xs := by
  rcases h with (h | ⟨ob, h⟩) | h
  · exact .inl (.inl (b _ _ (ne_of h hp fun e => by rw [← e] at k; cases k) h))
  · exact .inl (.inr ⟨ob, b _ _ (ne_of h hp fun e => by rw [← e] at k; cases k) h⟩)
  · exact .inr h
theorem But.tup {K : PySem.W.Frag} {p a : Addr} {H H' : Hp} {o : HO} {xs : List V} (b : But p H H') (hp : H p = some o) (k : notSeq o = true) (h : SqT K H a xs) : SqT K H' a xs := by
  rcases h with (h | ⟨ob, h⟩) | h
  · exact .inl (.inl (b _ _ (ne_of h hp fun e => by rw [← e] at k; cases k) h))
  · exact .inl (.inr ⟨ob, b _ _ (ne_of h hp fun e => by rw [← e] at k; cases k) h⟩)
  · exact .inr h
theorem Same.app {H H' : Hp} (e : Same H H') {a : Addr} {o : HO} (h : H a = some o) : H' a = some o := e a o h
theorem sq_of {K : PySem.W.Frag} {H : Hp} {a : Addr} {xs : List V} (h : H a = some (.lst xs)) : SqL K H a xs := .inl (.inl h)
theorem st_of {K : PySem.W.Frag} {H : Hp} {a : Addr} {xs : List V} (h : H a = some (.tup xs)) : SqT K H a xs := .inl (.inl h)

/-! ### the constructs -/
section
variable {K : PySem.W.Frag} {σ : L2.St} {H : Hp} {Q : VK} {D : Ends} {ta tb te tc : TE} {t u : TS} {tt uu : TT}
theorem r_seq (h : t { D with nx := u D } σ H) : tSeq t u D σ H := h
theorem r_next (h : D.nx σ H) : tNext D σ H := h
theorem r_ret (h : te σ H D.rt) : tRet te D σ H := h
theorem r_drop (h : te σ H fun _ H1 => D.nx σ H1) : tDrop te D σ H := h
theorem r_ifs (h : tt σ H fun b H1 => if b = true then t D σ H1 else u D σ H1) : tIfS tt t u D σ H := h
theorem r_asg {i : Nat} (h : te σ H fun x H1 => D.nx (σ.set i (some x)) H1) : tAsg te (gName i) D σ H := h
theorem r_var {i : Nat} {v : V} (e : σ[i]? = some (some v)) (h : Q v H) : tVar i σ H Q := ⟨v, e, h⟩
theorem r_c {v : V} (h : Q v H) : tC v σ H Q := h
theorem r_op {r : R2} (h : ta σ H fun x H1 => tb σ H1 fun y H2 => r x y H2 Q) : tOp r ta tb σ H Q := h
theorem r_un {r : V → Hp → VK → Prop} (h : ta σ H fun x H1 => r x H1 Q) : tUn r ta σ H Q := h
theorem r_I0 {g : Int → Int → V} {i j : Int} (h : Q (g i j) H) : rI0 g (.int i) (.int j) H Q := ⟨i, j, rfl, rfl, h⟩
theorem r_I {C : Int → Int → Prop} {g : Int → Int → V} {i j : Int} (c : C i j) (h : Q (g i j) H) : rI C g (.int i) (.int j) H Q := ⟨i, j, rfl, rfl, c, h⟩
theorem r_U {g : Int → V} {i : Int} (h : Q (g i) H) : rU g (.int i) H Q := ⟨i, rfl, h⟩
theorem r_eq {x y : V} (c : scal x y = true) (h : Q (.bl (decide (x = y))) H) : rEq x y H Q := ⟨c, h⟩
theorem r_ne {x y : V} (c : scal x y = true) (h : Q (.bl (!decide (x = y))) H) : rNe x y H Q := ⟨c, h⟩
theorem r_test {P : Bool → Hp → Prop} (h : te σ H fun x H' => ∃ k, x = .bl k ∧ P k H') : tTest te σ H P := h
theorem r_B {P : Bool → Hp → Prop} (h : te σ H fun x H' => ∃ k, x = .bl k ∧ P k H') : tB te σ H P := h
theorem r_bl {k : Bool} {P : Bool → Prop} (h : P k) : ∃ k', V.bl k = V.bl k' ∧ P k' := ⟨k, rfl, h⟩
theorem r_yes {P : Bool → Hp → Prop} (h : P true H) : tYes σ H P := h
theorem r_not {P : Bool → Hp → Prop} (h : tt σ H fun c H1 => P (!c) H1) : tNot tt σ H P := h
theorem r_and {P : Bool → Hp → Prop} (h : tt σ H fun c H1 => if c = true then uu σ H1 P else P false H1) : tAnd tt uu σ H P := h
theorem r_or {P : Bool → Hp → Prop} (h : tt σ H fun c H1 => if c = true then P true H1 else uu σ H1 P) : tOr tt uu σ H P := h
theorem r_andV (h : ta σ H fun x H1 => ∃ c, x = .bl c ∧ if c = true then tb σ H1 Q else Q (.bl false) H1) : tAndV ta tb σ H Q := h
theorem r_orV (h : ta σ H fun x H1 => ∃ c, x = .bl c ∧ if c = true then Q (.bl true) H1 else tb σ H1 Q) : tOrV ta tb σ H Q := h
theorem r_notV (h : ta σ H fun x H1 => ∃ c, x = .bl c ∧ Q (.bl (!c)) H1) : tNotV ta σ H Q := h
theorem r_ifE (h : tt σ H fun c H1 => if c = true then ta σ H1 Q else tb σ H1 Q) : tIf tt ta tb σ H Q := h
/-- a new object o -/
def Mk1 (o : List V → HO) (xs : List V) (H : Hp) (Q : VK) : Prop := xs.length ≤ sizeLine ∧ ∀ p, H p = none → Q (.ref p) (upd H p (o xs))
theorem r_tup {tA : TA} (h : tA σ H fun xs H1 => Mk1 .tup xs H1 Q) : tTup tA σ H Q := h
theorem r_lst {tA : TA} (h : tA σ H fun xs H1 => Mk1 .lst xs H1 Q) : tLst tA σ H Q := h
theorem r_mk {o : List V → HO} {xs : List V} (hl : xs.length ≤ sizeLine) (h : ∀ p H1, H p = none → Same H H1 → H1 p = some (o xs) → Q (.ref p) H1) : Mk1 o xs H Q := ⟨hl, r_new h⟩
theorem r_nil {P : List V → Hp → Prop} (h : P [] H) : tNil σ H P := h
theorem r_cons {tr : TA} {P : List V → Hp → Prop} (h : te σ H fun x H1 => tr σ H1 fun xs H2 => P (x :: xs) H2) : tCons te tr σ H P := h
theorem r_call {sp : Sp} {dvs : List V} {E : XK} {tA : TA} (h : tA σ H fun vs H1 => sp (vs ++ dvs) H1 Q E) : tCall sp dvs E tA σ H Q := h
theorem r_cb {r : List V → Hp → VK → Prop} {tA : TA} (h : tA σ H fun vs H1 => r vs H1 Q) : tCB r tA σ H Q := h
theorem r_slc {r : V → Option Int → Option Int → Hp → VK → Prop} {tl th : TO} (h : te σ H fun x H1 => tl σ H1 fun l H2 => th σ H2 fun w H3 => r x l w H3 Q) : tSl r te tl th σ H Q := h
theorem r_nopart {P : Option Int → Hp → Prop} (h : P none H) : tNoPart σ H P := h
theorem r_part {P : Option Int → Hp → Prop} (h : te σ H fun x H1 => ∃ i, x = .int i ∧ P (some i) H1) : tPart te σ H P := h
theorem r_int {i : Int} {P : Int → Prop} (h : P i) : ∃ i', V.int i = V.int i' ∧ P i' := ⟨i, rfl, h⟩
theorem r_par {i j : Nat} {tA : TA} (h : tA σ H fun vs H1 => ∃ v w, vs = [v, w] ∧ D.nx ((σ.set i (some v)).set j (some w)) H1) : tPar i j tA D σ H := h
theorem r_par2 {v w : V} {P : V → V → Prop} (h : P v w) : ∃ v' w', [v, w] = [v', w'] ∧ P v' w' := ⟨v, w, rfl, h⟩
theorem r_for {wi : TI} {g : TG} (h : wi σ H fun J H1 => ∃ W : Nat → Nat → L2.St → Hp → Prop, (∃ m, W 0 m σ H1) ∧ ∀ i m σ H, W i m σ H →
    (J.stop i H ∧ D.nx σ H) ∨ (J.go i H ∧ ∃ Nx : L2.St → Hp → Prop, (∀ σ' H', Nx σ' H' → ∃ m', m' < m ∧ W (i + 1) m' σ' H') ∧ ∀ x H', J.yld i H x H' → g x σ H' fun σ2 H2 => t { D with nx := Nx, ct := Nx, bk := D.nx } σ2 H2)) : tFor wi g t D σ H := h
/-- a list comprehension, its walk J known -/
theorem r_lc {wi : TI} {g : TG} {vs : List Nat} (h : wi σ H fun J H1 => tLc (fun _ H2 R => R J H2) g tt te vs σ H1 Q) : tLc wi g tt te vs σ H Q := h
def Rn1 (vs : List V) (H : Hp) (R : It → Hp → Prop) : Prop := ∃ j : Int, vs = [.int j] ∧ -(2 ^ 62) ≤ j ∧ j < 2 ^ 62 ∧ R (Itr 0 j.toNat) H
theorem r_rng1 {tA : TA} {R : It → Hp → Prop} (h : tA σ H fun vs H1 => Rn1 vs H1 R) : iRng1 tA σ H R := h
theorem r_rng1' {n : Nat} {j : Int} {R : It → Hp → Prop} (e : j = n) (hn : n ≤ 1000000) (h : R (Itr 0 n) H) : Rn1 [.int j] H R := ⟨j, rfl, by omega, by omega, by rw [e]; exact h⟩
def Rn2 (vs : List V) (H : Hp) (R : It → Hp → Prop) : Prop := ∃ i j : Int, vs = [.int i, .int j] ∧ (-(2 ^ 62) ≤ i ∧ i < 2 ^ 62 ∧ -(2 ^ 62) ≤ j ∧ j < 2 ^ 62) ∧ R (Itr i (j - i).toNat) H
theorem r_rng2 {tA : TA} {R : It → Hp → Prop} (h : tA σ H fun vs H1 => Rn2 vs H1 R) : iRng2 tA σ H R := h
theorem r_rng2' {i j : Int} {n : Nat} {R : It → Hp → Prop} (e : (j - i).toNat = n) (b : -1000000000000000000 ≤ i ∧ i ≤ 1000000000000000000 ∧ -1000000000000000000 ≤ j ∧ j ≤ 1000000000000000000) (h : R (Itr i n) H) : Rn2 [.int i, .int j] H R := ⟨i, j, rfl, by omega, by rw [e]; exact h⟩
def IlV (K : PySem.W.Frag) (x : V) (H : Hp) (R : It → Hp → Prop) : Prop := ∃ a, x = .ref a ∧ (∃ xs, SqL K H a xs) ∧ R (Itl K a) H
theorem r_ilist {R : It → Hp → Prop} (h : te σ H fun x H1 => IlV K x H1 R) : iList K te σ H R := h
def ItV (K : PySem.W.Frag) (x : V) (H : Hp) (R : It → Hp → Prop) : Prop := ∃ a, x = .ref a ∧ (∃ xs, SqT K H a xs) ∧ R (Itt K a) H
theorem r_itup {R : It → Hp → Prop} (h : te σ H fun x H1 => ItV K x H1 R) : iTup K te σ H R := h
theorem r_itup' {a : Addr} {xs : List V} {R : It → Hp → Prop} (hx : SqT K H a xs) (h : R (Itt K a) H) : ItV K (.ref a) H R := ⟨a, rfl, ⟨xs, hx⟩, h⟩
theorem ty_list {a : Addr} {xs : List V} (h : SqL K H a xs) : TyX K H (.ref a) (.type "list") := by
  rcases h with (h | ⟨ob, h⟩) | h
  · exact .base (.lst h)
  · exact .base (.frz h)
  · obtain ⟨o, its, n, h1, h2, _⟩ := h
    exact .kList h1 h2
theorem ty_tup {a : Addr} {xs : List V} (h : H a = some (.tup xs)) : TyX K H (.ref a) (.type "tuple") := .base (.tup h)
theorem r_ilist' {a : Addr} {xs : List V} {R : It → Hp → Prop} (hx : SqL K H a xs) (h : R (Itl K a) H) : IlV K (.ref a) H R := ⟨a, rfl, ⟨xs, hx⟩, h⟩
theorem r_gname {i : Nat} {v : V} {P : L2.St → Hp → Prop} (h : P (σ.set i (some v)) H) : gName i v σ H P := h
theorem r_gtup {K : PySem.W.Frag} {n : Nat} {t : TGs} {a : Addr} {xs : List V} {σ : L2.St} {H : Hp} {P : L2.St → Hp → Prop} (h : SqT K H a xs) (l : xs.length = n) (q : t xs σ H P) : gTup K n t (.ref a) σ H P := ⟨a, xs, rfl, h, l, q⟩
theorem r_gcons {t : TG} {u : TGs} {v : V} {vs : List V} {σ : L2.St} {H : Hp} {P : L2.St → Hp → Prop} (h : t v σ H fun σ2 H2 => u vs σ2 H2 P) : gCons t u (v :: vs) σ H P := ⟨v, vs, rfl, h⟩
theorem r_gnil {σ : L2.St} {H : Hp} {P : L2.St → Hp → Prop} (h : P σ H) : gNil [] σ H P := ⟨rfl, h⟩
/-! ### tests: known, or both ways -/
theorem if_t {b : Bool} {A B : Prop} (e : b = true) (h : A) : if b = true then A else B := by
  rw [if_pos e]
  exact h
theorem if_f {b : Bool} {A B : Prop} (e : b = false) (h : B) : if b = true then A else B := by
  rw [e, if_neg Bool.false_ne_true]
  exact h
theorem if_d {c A B : Prop} [Decidable c] (h1 : c → A) (h2 : ¬ c → B) : if decide c = true then A else B := by
  by_cases h : c
  · rw [if_pos (decide_eq_true h)]
    exact h1 h
  · rw [decide_eq_false h, if_neg Bool.false_ne_true]
    exact h2 h
theorem if_dn {c A B : Prop} [Decidable c] (h1 : ¬ c → A) (h2 : c → B) : if (!decide c) = true then A else B := by
  by_cases h : c
  · rw [decide_eq_true h]
    exact if_f rfl (h2 h)
  · rw [decide_eq_false h]
    exact if_t rfl (h1 h)
theorem r_tt {A B : Prop} (h : A) : if true = true then A else B := if_t rfl h
theorem r_ff {A B : Prop} (h : B) : if false = true then A else B := if_f rfl h
theorem r_ntt {A B : Prop} (h : B) : if (!true) = true then A else B := if_f rfl h
theorem r_nff {A B : Prop} (h : A) : if (!false) = true then A else B := if_t rfl h
theorem r_isi {x c : V} {t u : Value} {b : Bool} (k : ClsV c u) (ty : TyX K H x t) (e : PySem.W.kitOne K t u = some b) (h : Q (.bl b) H) : rIsi K [x, c] H Q := ⟨x, c, t, u, b, rfl, k, ty, e, h⟩
/-! ### lists -/
open Evl (rLenS rListS rMax2)
/-- len(xs), list(xs), tuple(xs) of a list or tuple -/
def rTupS (K : PySem.W.Frag) : List V → Hp → VK → Prop := fun xs H Q => ∃ p ys, xs = [.ref p] ∧ ((SqL K H p ys ∧ ∀ l, H l = none → Q (.ref l) (upd H l (.tup ys))) ∨ (SqT K H p ys ∧ Q (.ref p) H))
theorem call_lenS {X : Cx} : CallR X (.builtin "len") (rLenS X.K) := call_len_seq
theorem call_listS {X : Cx} : CallR X (.type "list") (rListS X.K) := call_list_of
theorem call_tupS {X : Cx} : CallR X (.type "tuple") (rTupS X.K) := call_tuple_of
theorem r_len {p : Addr} {xs : List V} {n : Int} (h : SqL K H p xs ∨ SqT K H p xs) (e : (xs.length : Int) = n) (q : Q (.int n) H) : rLenS K [.ref p] H Q := ⟨p, xs, rfl, h, by rw [e]; exact q⟩
theorem r_list {p : Addr} {xs : List V} (h : SqL K H p xs ∨ SqT K H p xs) (q : ∀ l H1, H l = none → Same H H1 → H1 l = some (.lst xs) → Q (.ref l) H1) : rListS K [.ref p] H Q := ⟨p, xs, rfl, h, r_new q⟩
theorem r_tupL {p : Addr} {xs : List V} (h : SqL K H p xs) (q : ∀ l H1, H l = none → Same H H1 → H1 l = some (.tup xs) → Q (.ref l) H1) : rTupS K [.ref p] H Q := ⟨p, xs, rfl, .inl ⟨h, r_new q⟩⟩
theorem r_tupT {p : Addr} {xs : List V} (h : SqT K H p xs) (q : Q (.ref p) H) : rTupS K [.ref p] H Q := ⟨p, xs, rfl, .inr ⟨h, q⟩⟩
/-- int(n), max(m, n), min(m, n) of ints, n.bit_length() -/
def rInt1 : List V → Hp → VK → Prop := fun xs H Q => (∃ i, xs = [.int i] ∧ Q (.int i) H) ∨ ∃ k, xs = [.bl k] ∧ Q (.int (if k then 1 else 0)) H
theorem call_intS {X : Cx} : CallR X (.type "int") rInt1 := call_int1
theorem r_int1 {i : Int} (h : Q (.int i) H) : rInt1 [.int i] H Q := .inl ⟨i, rfl, h⟩
def rMin2 : List V → Hp → VK → Prop := fun xs H Q => ∃ i j, xs = [.int i, .int j] ∧ Q (.int (if j < i then j else i)) H
theorem call_max2S {X : Cx} (hc : X.calm = true) : CallR X (.builtin "max") rMax2 := call_max2 hc
theorem call_min2S {X : Cx} (hc : X.calm = true) : CallR X (.builtin "min") rMin2 := call_min2 hc
theorem r_max2 {i j : Int} (h : Q (.int (if j > i then j else i)) H) : rMax2 [.int i, .int j] H Q := ⟨i, j, rfl, h⟩
theorem r_min2 {i j : Int} (h : Q (.int (if j < i then j else i)) H) : rMin2 [.int i, .int j] H Q := ⟨i, j, rfl, h⟩
def BitV (x : V) (H : Hp) (Q : VK) : Prop := ∃ i, x = .int i ∧ Q (.int (Builtin.Int.intBits i : Nat)) H
theorem r_bits (h : te σ H fun x H1 => BitV x H1 Q) : tBits te σ H Q := h
theorem r_bitV {i : Int} (h : Q (.int (Builtin.Int.intBits i : Nat)) H) : BitV (.int i) H Q := ⟨i, rfl, h⟩
/-- sum(xs) -/
theorem r_sum {p : Addr} {ns : List Int} (h : SqL K H p (ns.map V.int)) (q : Q (.int ns.sum) H) : rSum K [.ref p] H Q := ⟨p, ns, rfl, h, q⟩
/-- xs[a:b], xs[::-1], xs + ys, xs * k of lists -/
theorem r_sll {p : Addr} {xs : List V} {lo hi : Option Int} (h : SqL K H p xs) (q : ∀ l H1, H l = none → Same H H1 → H1 l = some (.lst (cutV xs lo hi)) → Q (.ref l) H1) : rSlL K (.ref p) lo hi H Q := ⟨p, xs, rfl, h, r_new q⟩
def RevV (K : PySem.W.Frag) (x : V) (H : Hp) (Q : VK) : Prop := ∃ a xs, x = .ref a ∧ SqL K H a xs ∧ ∀ p, H p = none → Q (.ref p) (upd H p (.lst xs.reverse))
theorem r_revl (h : te σ H fun x H1 => RevV K x H1 Q) : tRevL K te σ H Q := h
theorem r_revV {p : Addr} {xs : List V} (h : SqL K H p xs) (q : ∀ l H1, H l = none → Same H H1 → H1 l = some (.lst xs.reverse) → Q (.ref l) H1) : RevV K (.ref p) H Q := ⟨p, xs, rfl, h, r_new q⟩
theorem r_cat {l b : Addr} {xs zs : List V} (h1 : H l = some (.lst xs)) (h2 : H b = some (.lst zs)) (hz : xs.length + zs.length ≤ sizeLine) (q : ∀ p H1, H p = none → Same H H1 → H1 p = some (.lst (xs ++ zs)) → Q (.ref p) H1) : rCat (.ref l) (.ref b) H Q := ⟨l, b, xs, zs, rfl, rfl, h1, h2, hz, r_new q⟩
theorem r_ixl {p : Addr} {xs : List V} {i : Int} {v : V} (h : SqL K H p xs) (e : atI xs i = some v) (q : Q v H) : rIxL K (.ref p) (.int i) H Q := ⟨p, xs, i, v, rfl, rfl, h, e, q⟩
theorem r_ixt {p : Addr} {xs : List V} {i : Int} {v : V} (h : SqT K H p xs) (e : atI xs i = some v) (q : Q v H) : rIxT K (.ref p) (.int i) H Q := ⟨p, xs, i, v, rfl, rfl, h, e, q⟩
theorem r_bm {T : String} {r : V → List V → Hp → VK → Prop} {to : TE} {tA : TA} (h : to σ H fun x H1 => tyV K T x H1 ∧ tA σ H1 fun xs H2 => r x xs H2 Q) : tBM K T r to tA σ H Q := h
theorem r_bm0 {T : String} {r : V → List V → Hp → VK → Prop} {to : TE} (h : to σ H fun x H1 => tyV K T x H1 ∧ r x [] H1 Q) : tBM0 K T r to σ H Q := h
theorem ty_l {p : Addr} {xs : List V} (h : H p = some (.lst xs)) : tyV K "list" (.ref p) H := .inl ⟨rfl, _, sq_of h⟩
theorem r_app {p : Addr} {xs : List V} {y : V} (h : H p = some (.lst xs)) (l : xs.length < sizeLine) (q : ∀ H1, But p H H1 → H1 p = some (.lst (xs ++ [y])) → Q .non H1) : rAppend (.ref p) [y] H Q := ⟨p, xs, y, rfl, rfl, h, l, q _ But.upd upd_same⟩
theorem r_ext {p b : Addr} {xs zs : List V} (h : H p = some (.lst xs)) (hb : H b = some (.lst zs)) (l : xs.length + zs.length ≤ sizeLine) (q : ∀ H1, But p H H1 → H1 p = some (.lst (xs ++ zs)) → Q .non H1) : rExtend (.ref p) [.ref b] H Q := ⟨p, b, xs, zs, rfl, rfl, h, hb, l, q _ But.upd upd_same⟩
theorem r_sub {to ti : TE} {ts : TSet} {v : V} {P : L2.St → Hp → Prop} (h : to σ H fun o H1 => ti σ H1 fun i H2 => ts o i v H2 fun H3 => P σ H3) : gSub to ti ts v σ H P := h
theorem r_asgG {g : TG} (h : te σ H fun x H1 => g x σ H1 D.nx) : tAsg te g D σ H := h
theorem r_setl {p : Addr} {xs : List V} {k : Int} {j : Nat} {v : V} {P : Hp → Prop} (h : H p = some (.lst xs)) (e : ixN xs.length k = some j) (q : ∀ H1, But p H H1 → H1 p = some (.lst (xs.set j v)) → P H1) : rSetL (.ref p) (.int k) v H P := ⟨p, xs, k, j, rfl, rfl, h, e, q _ But.upd upd_same⟩
/-! ### objects -/
def FldV (K : PySem.W.Frag) (f : Str) (x : V) (H : Hp) (Q : VK) : Prop := ∃ a C dx fs v, x = .ref a ∧ H a = some (.ins C dx fs) ∧ Cls K C ∧ NoAttr K C f ∧ fs.lookup f = some v ∧ Q v H
theorem r_fld {f : Str} (h : ta σ H fun x H1 => FldV K f x H1 Q) : tFld K ta f σ H Q := h
def SFldV (K : PySem.W.Frag) (f : Str) (y x : V) (H : Hp) (N : Hp → Prop) : Prop := ∃ a C dx fs, x = .ref a ∧ H a = some (.ins C dx fs) ∧ Cls K C ∧ NoAttr K C f ∧ fs.length < 1000 ∧ N (upd H a (.ins C dx (putF f y fs)))
theorem r_sfld {f : Str} {tv : TE} (h : tv σ H fun y H1 => ta σ H1 fun x H2 => SFldV K f y x H2 fun H3 => D.nx σ H3) : sFld K ta tv f D σ H := h
theorem r_sfldV {f : Str} {y : V} {p C dx : Addr} {fs : List (Str × V)} {N : Hp → Prop} (hp : H p = some (.ins C dx fs)) (cl : Cls K C) (na : NoAttr K C f) (l : fs.length < 1000) (h : ∀ H1, But p H H1 → H1 p = some (.ins C dx (putF f y fs)) → N H1) : SFldV K f y (.ref p) H N := ⟨p, C, dx, fs, rfl, hp, cl, na, l, h _ But.upd upd_same⟩
def MethV (C : Addr) (m : Str) (sp : Sp) (x : V) (t : (List V → Hp → Prop) → Hp → Prop) (dvs : List V) (H : Hp) (Q : VK) (E : XK) : Prop := ∃ a dx fs, x = .ref a ∧ H a = some (.ins C dx fs) ∧ fs.lookup m = none ∧ t (fun vs H2 => sp (x :: (vs ++ dvs)) H2 Q E) H
theorem r_meth {C : Addr} {m : Str} {sp : Sp} {dvs : List V} {E : XK} {tA : TA} (h : ta σ H fun x H1 => MethV C m sp x (fun P H => tA σ H P) dvs H1 Q E) : tMeth C m sp dvs E ta tA σ H Q := h
def MakeV (C : Addr) (sp : Sp) (vs : List V) (H : Hp) (Q : VK) (E : XK) : Prop := ∀ x dx, H x = none → H dx = none → dx ≠ x → sp (.ref x :: vs) (upd (upd H dx (.own x)) x (.ins C dx [])) (fun v H2 => v = .non ∧ Q (.ref x) H2) E
theorem r_make {C : Addr} {sp : Sp} {dvs : List V} {E : XK} {tA : TA} (h : tA σ H fun vs H1 => MakeV C sp (vs ++ dvs) H1 Q E) : tMake C sp dvs E tA σ H Q := h
theorem r_makeV {C : Addr} {sp : Sp} {vs : List V} {E : XK} (h : ∀ x dx H1, H x = none → Same H H1 → H1 x = some (.ins C dx []) → sp (.ref x :: vs) H1 (fun v H2 => v = .non ∧ Q (.ref x) H2) E) : MakeV C sp vs H Q E := fun x dx nx nd ne => h x dx _ nx (fun b o e => by
  rw [upd_ne (ne_of_none e nx), upd_ne (ne_of_none e nd)]
  exact e) upd_same
end
end RC

/-! ### the words: walk_at "go" takes every step that asks nothing; walk_at "hp" looks a fact up along the heaps -/
open RC in
local macro_rules | `(tactic| walk_at "hp") => `(tactic| first
  | assumption
  | exact L2.upd_same
  | exact L2.Same.refl _
  | (with_reducible refine RC.sq_of ?_; walk_at "hp")
  | (with_reducible refine RC.st_of ?_; walk_at "hp")
  | (refine RC.Same.app (by assumption) ?_; walk_at "hp")
  | (refine RC.Same.lst (by assumption) ?_; walk_at "hp")
  | (refine RC.Same.tup (by assumption) ?_; walk_at "hp")
  | (refine RC.Same.dp (by assumption) ?_; walk_at "hp")
  | (refine L2.Same.trans ?_ (by assumption); walk_at "hp"))
local macro_rules | `(tactic| walk_at "st") => `(tactic| first
  | with_reducible refine RC.r_seq ?_
  | with_reducible refine RC.r_asg ?_
  | (with_reducible show L2.tVar _ _ _ _; refine RC.r_var rfl ?_)
  | with_reducible refine RC.r_c ?_
  | with_reducible refine RC.r_op ?_
  | with_reducible refine RC.r_I0 ?_
  | with_reducible refine RC.r_un ?_
  | with_reducible refine RC.r_U ?_
  | (with_reducible show L2.rEq _ _ _ _; refine RC.r_eq rfl ?_)
  | (with_reducible show L2.rNe _ _ _ _; refine RC.r_ne rfl ?_)
  | with_reducible refine RC.r_test ?_
  | with_reducible refine RC.r_B ?_
  | with_reducible refine RC.r_bl ?_
  | with_reducible refine RC.r_int ?_
  | with_reducible refine RC.r_ifs ?_
  | with_reducible refine RC.r_tt ?_
  | with_reducible refine RC.r_ff ?_
  | with_reducible refine RC.r_ntt ?_
  | with_reducible refine RC.r_nff ?_
  | with_reducible refine RC.r_ret ?_
  | with_reducible refine RC.r_drop ?_
  | with_reducible refine RC.r_next ?_
  | with_reducible refine RC.r_cons ?_
  | with_reducible refine RC.r_nil ?_
  | with_reducible refine RC.r_call ?_
  | with_reducible refine RC.r_cb ?_
  | with_reducible refine RC.r_fld ?_
  | with_reducible refine RC.r_sfld ?_
  | with_reducible refine RC.r_meth ?_
  | with_reducible refine RC.r_make ?_
  | with_reducible refine RC.r_not ?_
  | with_reducible refine RC.r_yes ?_
  | with_reducible refine RC.r_and ?_
  | with_reducible refine RC.r_or ?_
  | with_reducible refine RC.r_andV ?_
  | with_reducible refine RC.r_orV ?_
  | with_reducible refine RC.r_notV ?_
  | with_reducible refine RC.r_ifE ?_
  | with_reducible refine RC.r_tup ?_
  | with_reducible refine RC.r_lst ?_
  | with_reducible refine RC.r_slc ?_
  | with_reducible refine RC.r_nopart ?_
  | with_reducible refine RC.r_part ?_
  | with_reducible refine RC.r_par ?_
  | with_reducible refine RC.r_par2 ?_
  | with_reducible refine RC.r_for ?_
  | with_reducible refine RC.r_rng1 ?_
  | with_reducible refine RC.r_ilist ?_
  | with_reducible refine RC.r_itup ?_
  | with_reducible refine RC.r_rng2 ?_
  | with_reducible refine RC.r_bits ?_
  | with_reducible refine RC.r_bitV ?_
  | with_reducible refine RC.r_int1 ?_
  | with_reducible refine RC.r_max2 ?_
  | with_reducible refine RC.r_min2 ?_
  | with_reducible refine RC.r_revl ?_
  | with_reducible refine RC.r_gname ?_
  | with_reducible refine RC.r_gcons ?_
  | with_reducible refine RC.r_gnil ?_
  | with_reducible refine RC.r_bm ?_
  | with_reducible refine RC.r_bm0 ?_
  | with_reducible refine RC.r_sub ?_
  | with_reducible refine RC.r_asgG ?_)
local macro_rules | `(tactic| walk_at "go") => `(tactic| repeat walk_at "st")
/-! ## Operations that the hand layer lacks -/
namespace RC
open PySem PySem.Spec PyProof.Rows L2

/-- a rule of a context, its class table by a name -/
theorem kOf {β : Type _} (F : PySem.W.Frag → β) {G : β → Prop} {K K' : PySem.W.Frag} (h : G (F K')) (e : K' = K) : G (F K) := e ▸ h

/-! ### powers of great numbers -/
def CPowW (i j : Int) : Prop := 0 ≤ j ∧ (Builtin.Int.intBits i : Int) * j ≤ 2 ^ 27
theorem op_powW {X : Cx} : OpR X (binaryOp .Pow) (rI CPowW fun i j => .int (i ^ j.toNat)) := opI fun _ _ _ _ _ _ _ hc q => pow_int hc.1 hc.2 q

/-! ### t[::-1] -/
section
open HT
variable {prog : Program} {w : World} {A : Around} {E : Value → Shared → Prop} {s : Shared}
theorem adjust_rev (n : Nat) : Builtin.Slice.sliceAdjust none none (-1) (n : Int) = ((n : Int) - 1, -1) := rfl
theorem places_rev (n : Nat) : Builtin.Slice.slicePlaces ((n : Int) - 1) (-1) (-1) = n := by
  unfold Builtin.Slice.slicePlaces
  rw [if_neg (by decide)]
  by_cases h : (n : Int) - 1 > -1
  · rw [if_pos h]
    have e : -(-1 : Int) = 1 := rfl
    rw [e, Int.ediv_one]
    omega
  · rw [if_neg h]
    show (0 : Int).toNat = n
    have : n = 0 := by omega
    subst this
    rfl
theorem applied_rev {sl : Addr} {t : Tok} {n : Nat} {Q : Int × Int × Nat → Shared → Prop} (hs : s.heap.IsSliceOf sl .none .none (.int (-1) t))
    (h : Q ((n : Int) - 1, -1, n) s) : wpAny (model prog w) A (Builtin.Slice.sliceApplied (.ref sl) (pure (n : Int))) Q E s := by
  obtain ⟨os, hos, hcs, hds⟩ := id hs
  unfold Builtin.Slice.sliceApplied Builtin.Slice.sliceFields
  refine wpAny_bind (wpAny_bind (wpAny_field hos hds (x := .none) rfl (wpAny_bind (wpAny_field hos hds (x := .none) rfl (wpAny_bind (wpAny_field hos hds (x := .int (-1) t) rfl (wpAny_pure ?_)))))))
  refine wpAny_bind (slicePart_int ?_)
  show wpAny _ _ (if ((-1 : Int) == 0) = true then _ else _) _ _ s
  rw [if_neg (by decide)]
  refine wpAny_bind (slicePart_none (wpAny_bind (slicePart_none (wpAny_bind (wpAny_pure ?_)))))
  show wpAny _ _ (match Builtin.Slice.sliceAdjust none none (-1) (n : Int) with | (lo, hi) => pure (lo, (-1 : Int), Builtin.Slice.slicePlaces lo hi (-1))) _ _ s
  rw [adjust_rev n]
  show wpAny _ _ (pure ((n : Int) - 1, (-1 : Int), Builtin.Slice.slicePlaces ((n : Int) - 1) (-1) (-1))) _ _ s
  rw [places_rev]
  exact wpAny_pure h
theorem pick_rev (xs : Array Value) : ((List.range xs.size).filterMap fun (m : Nat) => xs[(((xs.size : Int) - 1) + (m : Int) * (-1)).toNat]?).toArray = xs.toList.reverse.toArray := by
  congr 1
  apply List.ext_getElem?
  intro i
  have h1 : ∀ k, k ≤ xs.size → (List.range k).filterMap (fun (m : Nat) => xs[(((xs.size : Int) - 1) + (m : Int) * (-1)).toNat]?) = (List.range k).map fun m => xs[xs.size - 1 - m]! := by
    intro k
    induction k with
    | zero => intro _; rfl
    | succ k ih =>
      intro hk
      rw [List.range_succ, List.filterMap_append, List.map_append, ih (by omega)]
      congr 1
      have e : (((xs.size : Int) - 1) + (k : Int) * (-1)).toNat = xs.size - 1 - k := by omega
      have hl : xs.size - 1 - k < xs.size := by omega
      show List.filterMap (fun m : Nat => xs[(((xs.size : Int) - 1) + (m : Int) * (-1)).toNat]?) [k] = [xs[xs.size - 1 - k]!]
      rw [List.filterMap_cons]
      have e2 : xs[(((xs.size : Int) - 1) + (k : Int) * (-1)).toNat]? = some xs[xs.size - 1 - k] := by
        rw [e]
        exact Array.getElem?_eq_getElem hl
      rw [e2]
      show _ :: List.filterMap _ [] = _
      rw [List.filterMap_nil, getElem!_pos xs (xs.size - 1 - k) hl]
  rw [h1 xs.size (Nat.le_refl _), List.getElem?_map]
  by_cases hi : i < xs.size
  · rw [List.getElem?_range hi, List.getElem?_reverse (by simpa using hi)]
    have hl : xs.size - 1 - i < xs.size := by omega
    show some (xs[xs.size - 1 - i]!) = _
    rw [getElem!_pos xs (xs.size - 1 - i) hl, Array.getElem?_toList, Array.length_toList, Array.getElem?_eq_getElem hl]
  · rw [List.getElem?_eq_none (by simpa using hi), List.getElem?_eq_none (by simpa using hi)]
    rfl
/-- what the tuple's own index method does at a key that walks back over the whole -/
theorem back_body {B : Around} {t sl : Addr} {items : Array Value} {tk : Tok} {G : PySem.Fin → Shared → Prop} (ht : IsTup s.heap t items) (hs : s.heap.IsSliceOf sl .none .none (.int (-1) tk)) (few : items.size ≤ sizeLine)
    (done : G (.done (.ret (.ref s.heap.objs.size))) { s with heap := s.heap.push { cls := .type "tuple", data := .seq items.toList.reverse.toArray } }) :
    wpAny (model prog w) B (Builtin.«tuple.__getitem__» ⟨[.ref t, .ref sl], []⟩) G E s := by
  have key : s.TypeIs (.ref sl) "slice" := by
    obtain ⟨o, ho, c, _⟩ := hs
    exact ⟨o, ho, c⟩
  have fits : sizeOk (.seq items.toList.reverse.toArray) := by
    show _ ≤ sizeLine
    simpa using few
  have notWhole : ((((items.size : Int) - 1 : Int) == 0) && ((-1 : Int) == 1) && (items.size == items.size)) = false := by
    rw [show ((-1 : Int) == 1) = false by decide]
    simp
  show wpAny _ _ (Builtin.Tuple.tupleItemsOf (.ref t) >>= _) _ _ s
  refine wpAny_bind (tupleItemsOf_ ht (wpAny_bind (wpAny_typeOf key ?_)))
  rw [if_pos (by decide)]
  refine wpAny_bind (applied_rev hs ?_)
  show wpAny _ _ (if ((((items.size : Int) - 1 : Int) == 0) && ((-1 : Int) == 1) && (items.size == items.size)) = true then _ else _) _ _ s
  rw [notWhole, if_neg Bool.false_ne_true, pick_rev]
  have made := fun (M : Model) (B' : Around) (R : Value → Shared → Prop) (r : R _ _) => wpAny_newObj_type (M := M) (A := B') (E := E) (Q := R) (s := s) (T := "tuple") (dict := none) r fits
  refine wpAny_bind ?_
  first
    | exact made _ _ _ (wpAny_pure done)
    | exact wpAny_bind (made _ _ _ (wpAny_pure (wpAny_pure done)))
theorem tuple_back {t sl : Addr} {items : Array Value} {tk : Tok} {Q : Value → Shared → Prop} (ht : IsTup s.heap t items) (hs : s.heap.IsSliceOf sl .none .none (.int (-1) tk)) (few : items.size ≤ sizeLine)
    (done : Q (.ref s.heap.objs.size) { s with heap := s.heap.push { cls := .type "tuple", data := .seq items.toList.reverse.toArray } }) :
    wpAny (model prog w) A (getItem (.ref t) (.ref sl)) Q E s := by
  have own := ht.typeIs
  have road := PyProof.Rows.slot_tuple_getitem
  unfold getItem
  apply wpAny_holding
  apply wpAny_bind
  apply wpAny_sequenceKey own (by decide)
  apply wpAny_bind
  apply wpAny_callSpecial?_slot own road
  apply wpAny_call_entry road own entry_tuple_getitem _ (args_tuple_getitem _ _)
  exact back_body ht hs few ⟨_, rfl, wpAny_pure done⟩
end
section
variable {X : Cx}
/-- nothing but the part's number is told, and the heap stays -/
def Stays (H : Hp) (n : Option Int) : Option Int → Hp → Prop := fun m H' => m = n ∧ H' = H
/-- the key ::-1 -/
theorem key_back {pins : List (Addr × Obj)} {σ : L2.St} {H : Hp} {s : Shared} {k : Nat} {p1 p2 p3 : Pos} {R : Value → Shared → Prop} (I : Inv X pins σ H s)
    (h : ∀ s' sl tk, Inv X pins σ H s' → s'.heap.IsSliceOf sl .none .none (.int (-1) tk) → R (.ref sl) s') :
    wpAny (model X.prog X.w) X.A (eval (.Slice none none (some (.UnaryOp .USub (.Constant (.int 1) k p1) p2)) p3) X.env) R X.xe s := by
  have minus := po_some (X := X) (pe_un (pos := p2) un_neg (pe_int (i := 1) (j := k) (pos := p1)))
  apply wpAny_Slice
  refine thn (po_none.run pins s σ H (Stays H none) I ⟨rfl, rfl⟩) ?_
  rintro lo s1 ⟨_, _, I1, plo, rfl, rfl⟩
  cases plo
  refine thn (po_none.run pins s1 σ _ (Stays _ none) I1 ⟨rfl, rfl⟩) ?_
  rintro hi s2 ⟨_, _, I2, phi, rfl, rfl⟩
  cases phi
  refine thn (minus.run pins s2 σ _ (Stays _ (some (-1))) I2 ⟨1, rfl, -1, rfl, rfl, rfl⟩) ?_
  rintro st s3 ⟨_, _, I3, pst, rfl, rfl⟩
  cases pst
  rename_i tk
  exact h _ _ tk (I3.kept (t' := s3.toks) fun b ob q => Heap.get?_push_of_some _ q) (Heap.IsSliceOf.new _ .none .none (.int (-1) tk))
def tRevT (K : PySem.W.Frag) (te : TE) : TE := fun σ H Q => te σ H fun x H1 => ∃ a xs, x = .ref a ∧ SqT K H1 a xs ∧ ∀ p, H1 p = none → Q (.ref p) (upd H1 p (.tup xs.reverse))
theorem pe_revT {e : Expr} {te : TE} {k : Nat} {p1 p2 p3 pos : Pos} (he : PE X e te) :
    PE X (.Subscript e (.Slice none none (some (.UnaryOp .USub (.Constant (.int 1) k p1) p2)) p3) pos) (tRevT X.K te) := by
  constructor
  intro pins s σ H Q I h
  apply Subscript_
  refine thn (he.run pins s σ H _ I h) ?_
  rintro v s1 ⟨_, H1, I1, r1, a, xs, rfl, hx, q⟩
  cases r1
  apply key_back I1
  intro s2 sl tk J hsl
  obtain ⟨its, r, ht, hz⟩ := J.tuple hx
  have n := r.length
  refine tail_any (ops := [.ref a, .ref sl]) ht.typeIs PyProof.Rows.slot_tuple_getitem.lookup (tuple_back ht hsl (by simpa [← n] using hz) ?_) (by with_unfolding_all rfl)
  have room : xs.reverse.length ≤ sizeLine := by simpa using hz
  refine ⟨.ref s2.heap.objs.size, _, J.laid (t' := s2.toks) (o := .tup xs.reverse) (fun b ob q => Heap.get?_push_of_some _ q) (Nat.le_refl _) ?there, rfl, q _ (J.hok.fresh (Nat.le_refl _))⟩
  case there => exact ⟨room, its.toArray.toList.reverse, by simpa using r.reverse, _, Heap.get?_push_size _ rfl, rfl, 0, rfl⟩
end

/-! ### a def's promise, called in any surroundings -/
section
variable {X : Cx} {pins : List (Addr × Obj)} {σ : L2.St} {H : Hp} {s : Shared}
theorem run_at {CX : CXT} {A : Around} {k : Nat} {f : Addr} {fd : FuncData} {ps : List Str} {sp : Sp} {E : XK} {Q : VK} {us : List Value} {vs : List V} (F : FnOk X.prog X.w X.K X.mg X.base CX k f fd ps sp) (hr : Room k A)
    (e0 : Env0 X.prog X.w X.K X.mg X.base A X.stack s H) (hb : Binds X.K fd ps []) (hx : Passes CX X E) (I : Inv X pins σ H s) (r : Vals vs us) (h : sp vs H Q E) : wpAny (model X.prog X.w) A (call (.ref f) us) (EP X pins σ Q) X.xe s := by
  have hl : us.length = ps.length := r.length.symm.trans (F.len _ _ _ _ h)
  refine wpAny_call (codeAny_mono (F.run A X.stack s H ⟨us, []⟩ us vs Q E hr e0 (by
    have := hb s us I.kIn (by simpa using hl)
    simpa using this) r h) fun q s' hq => ?_)
  cases q with
  | error e => exact hx pins σ H s e s' I hq
  | ok fl =>
    cases fl with
    | ret w => exact I.after hq
    | next => exact False.elim hq
    | brk => exact False.elim hq
    | cont => exact False.elim hq

/-! ### len(o), o == p, o != p by own methods -/
/-- what an own method of a plain class promises at an object of this class -/
def rLenO (C : Addr) (sp : Sp) (E : XK) : List V → Hp → VK → Prop := fun xs H Q => ∃ a dx fs, xs = [.ref a] ∧ H a = some (.ins C dx fs) ∧ sp [.ref a] H (fun v H' => ∃ n : Int, v = .int n ∧ (0 ≤ n ∧ n < 2 ^ 63) ∧ Q (.int n) H') E
theorem call_lenOwn {CX : CXT} {C f : Addr} {k : Nat} {fd : FuncData} {ps : List Str} {sp : Sp} {E : XK} (hm : Meth X.K C "__len__" f) (F : FnOk X.prog X.w X.K X.mg X.base CX k f fd ps sp) (hr : Room (k + 1) X.A) (hb : Binds X.K fd ps []) (hx : Passes CX X E) :
    CallR X (.builtin "len") (rLenO C sp E) := by
  intro pins s σ H xs us Q I r h
  obtain ⟨a, dx, fs, rfl, ha, h⟩ := h
  obtain ⟨u, rfl, ru⟩ := vals1 r
  cases (show u = Value.ref a from ru)
  obtain ⟨mA, J, _⟩ := ins_get I.hok ha
  obtain ⟨od, J, _⟩ := J.look
  obtain ⟨m, hF⟩ := I.fr
  refine PySem.W.len_K hF I.ok.mod.kin J hm.at_ hm.fn (wpAny_mono (run_at F hr.in1 I.env0.in1 hb hx I r h) (fun v s' hv => ?_) fun _ _ x => x)
  obtain ⟨v', H', I', rv, n, ev, hn, q⟩ := hv
  subst ev
  obtain ⟨t, rfl⟩ := rv
  exact ⟨hn, .int n, H', I'.tok _, ⟨_, rfl⟩, q⟩
/-- what may stand on the other side: a value of a known type, no subclass -/
def Other (K : PySem.W.Frag) (C : Addr) (H : Hp) (y : V) : Prop := ∃ t, TyX K H y t ∧ PySem.W.notFirst K C t = true
theorem other_looks {C : Addr} {y : V} {u : Value} (I : Inv X pins σ H s) (r : RelV y u) (o : Other X.K C H y) : ∃ t, PySem.W.Looks (model X.prog X.w) s.heap (typeOf u) t ∧ PySem.W.notFirst X.K C t = true := by
  obtain ⟨t, ty, nf⟩ := o
  obtain ⟨P, Z, p, _⟩ := kit_of I r ty
  exact ⟨t, Z.ty _ _ I.kIn p, nf⟩
def rEqO (K : PySem.W.Frag) (C : Addr) (sp : Sp) (E : XK) : R2 := fun x y H Q => ∃ a dx fs, x = .ref a ∧ H a = some (.ins C dx fs) ∧ Other K C H y ∧ sp [.ref a, y] H (fun v H' => ∃ k, v = .bl k ∧ Q (.bl k) H') E
theorem op_eqOwn {CX : CXT} {C f : Addr} {k : Nat} {fd : FuncData} {ps : List Str} {sp : Sp} {E : XK} (hm : Meth X.K C "__eq__" f) (F : FnOk X.prog X.w X.K X.mg X.base CX k f fd ps sp) (hr : Room k X.A) (hb : Binds X.K fd ps []) (hx : Passes CX X E) :
    OpR X (compareOp .Eq) (rEqO X.K C sp E) := by
  intro pins s σ H x y v u Q I rx ry h
  obtain ⟨a, dx, fs, rfl, ha, oy, h⟩ := h
  cases (show v = Value.ref a from rx)
  obtain ⟨mA, J, _⟩ := ins_get I.hok ha
  obtain ⟨od, J, _⟩ := J.look
  obtain ⟨m, hF⟩ := I.fr
  obtain ⟨t, lt, nf⟩ := other_looks I ry oy
  show wpAny (model X.prog X.w) X.A (richCompare .Eq (.ref a) u) (EP X pins σ Q) X.xe s
  refine PySem.W.cmp_K (op := .Eq) hr.units0 hF I.ok.mod.kin J lt nf hm.at_ hm.fn (wpAny_mono (run_at F hr I.env0 hb hx I (us := [.ref a, u]) (vs := [.ref a, y]) (.cons rfl (.cons ry .nil)) h) (fun w' s' hv => ?_) fun _ _ x => x)
  obtain ⟨v', H', I', rv, k', ev, q⟩ := hv
  subst ev
  cases (show w' = Value.bool k' from rv)
  exact ⟨.bl k', H', I', rfl, q⟩
theorem bound_builtin {M : Model} {A : Around} {E : Value → Shared → Prop} {s : Shared} {K : PySem.W.Frag} {x C : Addr} {ox : Obj} {od : Option Obj} {name : Str} {id : String} {args : List Value} {Q : Option Value → Shared → Prop} (X : K.In s.heap) (I : PySem.W.InstAt s.heap x ox C od)
    (hs : PySem.W.findIn K (.ref C) name = some (some (.builtin id))) (hb : ∀ self, bindSpecial (.builtin id) self = pure (.builtin id, [self]))
    (h : wpAny M A (call (.builtin id) (.ref x :: args)) (fun v => Q (some v)) E s) : wpAny M A (callSpecialIfBound? (.ref x) name args) Q E s := by
  simp only [callSpecialIfBound?, bindSpecialIfBound?]
  refine wpAny_holding (wpAny_bind (wpAny_bind (wpAny_bind (I.type.here ((PySem.W.looks_findIn X hs).here ?_)))))
  simp only [hb]
  refine wpAny_bind (wpAny_askSetting (wpAny_ite ?_))
  have fin : wpAny M A (call (.builtin id) ([.ref x] ++ args) >>= fun v => pure (some v)) Q E s := wpAny_bind (wpAny_mono h (fun v s' h' => wpAny_pure h') fun _ _ h' => h')
  split
  · exact wpAny_bind (wpAny_pure (wpAny_pure fin))
  · exact wpAny_tryCatch (wpAny_bind (wpAny_pure (wpAny_pure fin)))
/-- object.__ne__ of an own class that has __eq__ alone -/
theorem ne_core {prog : Program} {w : World} {A : Around} {E : Value → Shared → Prop} {s : Shared} {K : PySem.W.Frag} {x C L f : Addr} {h_0 : Heap} {m : Str → Option Value} {ox : Obj} {od : Option Obj} {b tb : Value} {Q : Value → Shared → Prop}
    (hu : A.units + 1 < cLine) (F : Fr h_0 L s.heap m) (X_0 : K.In h_0) (I : PySem.W.InstAt s.heap x ox C od) (hb : PySem.W.Looks (model prog w) s.heap (typeOf b) tb) (hn : PySem.W.notFirst K C tb = true)
    (hne : PySem.W.findIn K (.ref C) "__ne__" = some (some (.builtin "object.__ne__"))) (heq : PySem.W.findIn K (.ref C) "__eq__" = some (some (.ref f))) (hf : PySem.W.isFn K (.ref f) = true) (hob : PySem.W.mroIn K C (.type "object") = some true)
    (h : wpAny (model prog w) A.in1 (call (.ref f) [.ref x, b]) (fun v s' => ∃ k, v = .bool k ∧ Q (.bool (!k)) s') E s) : wpAny (model prog w) A (richCompare .NotEq (.ref x) b) Q E s := by
  have X := X_0.keeps F.keep
  have entry : wpAny (model prog w) A.in1 (Builtin.«object.__ne__» ⟨[.ref x, b], []⟩) (fun f s' => ∃ k : Bool, f = .done (.ret (.bool k)) ∧ Q (.bool k) s') E s := by
    unfold Builtin.«object.__ne__»
    repeat (first
      | with_reducible refine wpAny_cRoomFor hu ?_
      | (refine wpAny_bind (m := callSpecialIfBound? (.ref x) (Str.ofString "__eq__") [b])
          (PySem.W.ifBound_K X I heq hf (wpAny_mono h (fun r s' hr => by
            obtain ⟨k, rfl, hq⟩ := hr
            repeat (first | exact ⟨_, rfl, hq⟩ | exact wpAny_pure ⟨_, rfl, hq⟩ | exact wpAny_truthy_bool ⟨_, rfl, hq⟩ | (refine wpAny_bind (m := truthy (.bool _)) (wpAny_truthy_bool ?_)) | wp_step)) fun _ _ e => e)))
      | wp_step)
  have sub : PySem.W.Looks (model prog w) s.heap (isInstance (.ref x) (.type "object")) true := I.type.andThen (PySem.W.looks_mroIn X hob)
  have S := PySem.F.cmp_object.ne
  have cl : wpAny (model prog w) A (call (.builtin "object.__ne__") [.ref x, b]) (fun v s' => ∃ k : Bool, v = .bool k ∧ Q (.bool k) s') E s := by
    refine wpAny_call (codeAny_call_builtin S.plain PySem.F.cmpEntry_ne (PySem.W.check_slot PySem.F.cmpKind_ne PySem.F.cmpSplit_ne sub (PySem.F.cmpArgs_ne _ _) (wpAny_mono entry (fun f s' hf' => ?_) fun _ _ e => e)))
    obtain ⟨k, rfl, hq⟩ := hf'
    exact ⟨k, rfl, hq⟩
  have one : wpAny (model prog w) A (tryCompare (.ref x) "__ne__" b) (fun r s' => ∃ k : Bool, r = some (.bool k) ∧ Q (.bool k) s') E s := by
    unfold tryCompare
    refine wpAny_bind (bound_builtin X I hne S.bind (wpAny_mono cl (fun v s' hv => ?_) fun _ _ e => e))
    obtain ⟨k, rfl, hq⟩ := hv
    exact wpAny_pure ⟨k, rfl, hq⟩
  unfold richCompare
  simp only [oneThing_ref]
  refine wpAny_holding (wpAny_bind (wpAny_cRoomFor (Nat.lt_of_succ_lt hu) ?_))
  refine wpAny_bind (I.type.here (wpAny_bind (hb.here ?_)))
  split
  · rename_i q
    have e : PySem.W.subIn K tb (.ref C) = some false := by
      rcases Bool.or_eq_true_iff.mp hn with e | e
      · rw [beq_iff_eq.mp e] at q; simp at q
      · exact beq_iff_eq.mp e
    refine wpAny_bind ((PySem.W.looks_subIn X e).here ?_)
    simp only [Bool.false_eq_true, if_false]
    refine wpAny_bind (wpAny_mono one (fun r s' z => ?_) fun _ _ e => e)
    obtain ⟨v, rfl, hq⟩ := z
    exact wpAny_pure hq
  · refine wpAny_bind (wpAny_pure ?_)
    simp only [Bool.false_eq_true, if_false]
    refine wpAny_bind (wpAny_mono one (fun r s' z => ?_) fun _ _ e => e)
    obtain ⟨v, rfl, hq⟩ := z
    exact wpAny_pure hq
def rNeO (K : PySem.W.Frag) (C : Addr) (sp : Sp) (E : XK) : R2 := fun x y H Q => ∃ a dx fs, x = .ref a ∧ H a = some (.ins C dx fs) ∧ Other K C H y ∧ sp [.ref a, y] H (fun v H' => ∃ k, v = .bl k ∧ Q (.bl (!k)) H') E
theorem op_neOwn {CX : CXT} {C f : Addr} {k : Nat} {fd : FuncData} {ps : List Str} {sp : Sp} {E : XK} (hm : Meth X.K C "__eq__" f) (hne : PySem.W.findIn X.K (.ref C) "__ne__" = some (some (.builtin "object.__ne__"))) (hob : PySem.W.mroIn X.K C (.type "object") = some true)
    (F : FnOk X.prog X.w X.K X.mg X.base CX k f fd ps sp) (hr : Room (k + 1) X.A) (hb : Binds X.K fd ps []) (hx : Passes CX X E) :
    OpR X (compareOp .NotEq) (rNeO X.K C sp E) := by
  intro pins s σ H x y v u Q I rx ry h
  obtain ⟨a, dx, fs, rfl, ha, oy, h⟩ := h
  cases (show v = Value.ref a from rx)
  obtain ⟨mA, J, _⟩ := ins_get I.hok ha
  obtain ⟨od, J, _⟩ := J.look
  obtain ⟨m, hF⟩ := I.fr
  obtain ⟨t, lt, nf⟩ := other_looks I ry oy
  show wpAny (model X.prog X.w) X.A (richCompare .NotEq (.ref a) u) (EP X pins σ Q) X.xe s
  refine ne_core (by have := hr.units; omega) hF I.ok.mod.kin J lt nf hne hm.at_ hm.fn hob (wpAny_mono (run_at F hr.in1 I.env0.in1 hb hx I (us := [.ref a, u]) (vs := [.ref a, y]) (.cons rfl (.cons ry .nil)) h) (fun w' s' hv => ?_) fun _ _ x => x)
  obtain ⟨v', H', I', rv, k', ev, q⟩ := hv
  subst ev
  cases (show w' = Value.bool k' from rv)
  exact ⟨k', rfl, .bl (!k'), H', I', rfl, q⟩
end
end RC
/-! ## Data as a whole: ints, lists, tuples; what == and < say of them -/
namespace RC
open PySem PySem.Spec PyProof.Rows L2
abbrev iv (ns : List Int) : List V := ns.map V.int
abbrev dI (ns : List Int) : PyData := .list (ns.map .int)
abbrev tI (ns : List Int) : PyData := .tuple (ns.map .int)
section
variable {K : PySem.W.Frag} {H : Hp} {a b : Addr} {ns ms : List Int}
theorem dpa_ints : ∀ ns : List Int, DpAll K H (iv ns) (ns.map .int)
  | [] => .nil
  | n :: ns => .cons (.int n) (dpa_ints ns)
theorem dp_ints (h : SqL K H a (iv ns)) : Dp K H (.ref a) (dI ns) := .lst h (dpa_ints ns)
theorem dp_tints (h : SqT K H a (iv ns)) : Dp K H (.ref a) (tI ns) := .tup h (dpa_ints ns)
theorem lay_ints : ∀ ns : List Int, PyData.canLayAll0 (ns.map .int) = true
  | [] => by simp [PyData.canLayAll0]
  | n :: ns => by simp [PyData.canLayAll0, PyData.canLay0, lay_ints ns]
theorem dep_ints : ∀ ns : List Int, PyData.depthAll (ns.map .int) = 0
  | [] => by simp [PyData.depthAll]
  | n :: ns => by simp [PyData.depthAll, PyData.depth, dep_ints ns]
theorem shaped_dI (ns : List Int) : SeqAt.shaped (dI ns) = true := by simp [SeqAt.shaped, PyData.canLay0, PyData.depth, lay_ints, dep_ints]
theorem shaped_tI (ns : List Int) : SeqAt.shaped (tI ns) = true := by simp [SeqAt.shaped, PyData.canLay0, PyData.depth, lay_ints, dep_ints]
theorem eqvAll_ints : ∀ ns ms : List Int, PyData.eqvAll (ns.map .int) (ms.map .int) = decide (ns = ms)
  | [], [] => by simp [PyData.eqvAll]
  | [], m :: ms => by simp [PyData.eqvAll]
  | n :: ns, [] => by simp [PyData.eqvAll]
  | n :: ns, m :: ms => by
    rw [List.map_cons, List.map_cons, PyData.eqvAll, eqvAll_ints ns ms, PyData.eqv]
    by_cases h : n = m
    · subst h
      simp
    · have e : (n == m) = false := by simpa using h
      rw [e, Bool.false_and, decide_eq_false]
      intro q
      exact h (List.cons.inj q).1
theorem eqv_dI (ns ms : List Int) : PyData.eqv (dI ns) (dI ms) = decide (ns = ms) := by rw [PyData.eqv, eqvAll_ints]
theorem eqv_tI (ns ms : List Int) : PyData.eqv (tI ns) (tI ms) = decide (ns = ms) := by rw [PyData.eqv, eqvAll_ints]
theorem r_eqD {x y : V} {d e : PyData} {Q : VK} (hx : Dp K H x d) (hy : Dp K H y e) (sd : SeqAt.shaped d = true) (se : SeqAt.shaped e = true) (h : Q (.bl (PyData.eqv d e)) H) : rEqD K x y H Q := ⟨d, e, hx, hy, sd, se, h⟩
theorem r_neD {x y : V} {d e : PyData} {Q : VK} (hx : Dp K H x d) (hy : Dp K H y e) (sd : SeqAt.shaped d = true) (se : SeqAt.shaped e = true) (h : Q (.bl (!PyData.eqv d e)) H) : rNeD K x y H Q := ⟨d, e, hx, hy, sd, se, h⟩
theorem r_eqI {Q : VK} (hx : SqL K H a (iv ns)) (hy : SqL K H b (iv ms)) (h : Q (.bl (decide (ns = ms))) H) : rEqD K (.ref a) (.ref b) H Q := r_eqD (dp_ints hx) (dp_ints hy) (shaped_dI _) (shaped_dI _) (by rw [eqv_dI]; exact h)
theorem r_neI {Q : VK} (hx : SqL K H a (iv ns)) (hy : SqL K H b (iv ms)) (h : Q (.bl (!decide (ns = ms))) H) : rNeD K (.ref a) (.ref b) H Q := r_neD (dp_ints hx) (dp_ints hy) (shaped_dI _) (shaped_dI _) (by rw [eqv_dI]; exact h)
theorem r_eqT {Q : VK} (hx : SqT K H a (iv ns)) (hy : SqT K H b (iv ms)) (h : Q (.bl (decide (ns = ms))) H) : rEqD K (.ref a) (.ref b) H Q := r_eqD (dp_tints hx) (dp_tints hy) (shaped_tI _) (shaped_tI _) (by rw [eqv_tI]; exact h)
theorem at_ints {j : Nat} {v : Int} (h : ns[j]? = some v) : atI (iv ns) (j : Int) = some (.int v) := atI_nat (by rw [List.getElem?_map, h]; rfl)
theorem at_ints_last {v : Int} (h : ns.getLast? = some v) : atI (iv ns) (-1) = some (.int v) := by
  have hne : ns ≠ [] := fun e => by rw [e] at h; cases h
  have e : iv ns = iv ns.dropLast ++ [V.int v] := by
    have h2 : ns.dropLast ++ [v] = ns := by
      have := List.dropLast_concat_getLast hne
      rw [List.getLast?_eq_some_getLast hne] at h
      rw [← Option.some.inj h]
      exact this
    show ns.map V.int = ns.dropLast.map V.int ++ [V.int v]
    rw [← h2]
    simp
  rw [e]
  exact atI_last _ _
end
end RC
/-! ## The head's facts, and what isinstance and != ask of own classes besides -/
namespace RC
open PySem PySem.Spec PyProof.Rows L2 He
/-- what isinstance and != ask of an own class -/
structure ClsX (K : PySem.W.Frag) (C : Addr) : Prop where
  ha : PySem.W.findIn K (.ref C) "__class__" = some (some (.builtin "object.__class__"))
  hn : PySem.W.specialIn K (.builtin "object.__class__") "__get__" = some (some (.builtin "getset_descriptor.__get__"))
  htk : PySem.W.takesIn K (.builtin "object.__class__") = some true
  hm : PySem.W.mroIn K C (.type "object") = some true
  ne : PySem.W.findIn K (.ref C) "__ne__" = some (some (.builtin "object.__ne__"))
def clsB (K : PySem.W.Frag) (x : Str) : Bool :=
  decide (PySem.W.findIn K (.ref (ga K x)) "__class__" = some (some (.builtin "object.__class__"))) && (decide (PySem.W.specialIn K (.builtin "object.__class__") "__get__" = some (some (.builtin "getset_descriptor.__get__"))) &&
    (decide (PySem.W.takesIn K (.builtin "object.__class__") = some true) && (decide (PySem.W.mroIn K (ga K x) (.type "object") = some true) && decide (PySem.W.findIn K (.ref (ga K x)) "__ne__" = some (some (.builtin "object.__ne__"))))))
theorem clsB_ok {K : PySem.W.Frag} {x : Str} (h : clsB K x = true) : ClsX K (ga K x) := by
  obtain ⟨h1, h⟩ := ba h
  obtain ⟨h2, h⟩ := ba h
  obtain ⟨h3, h⟩ := ba h
  obtain ⟨h4, h5⟩ := ba h
  exact ⟨of_decide_eq_true h1, of_decide_eq_true h2, of_decide_eq_true h3, of_decide_eq_true h4, of_decide_eq_true h5⟩
/-- a class by its name: a built-in, an own one -/
inductive Tn where
  | ty (n : String)
  | own (x : Str)
def Tn.v (K : PySem.W.Frag) : Tn → Value
  | .ty n => .type n
  | .own x => .ref (ga K x)
/-- isinstance's answer for a value of the class a, asked of b -/
structure Kq where
  a : Tn
  b : Tn
  r : Bool
def Kq.ok (K : PySem.W.Frag) (q : Kq) : Bool := decide (PySem.W.kitOne K (q.a.v K) (q.b.v K) = some q.r)
theorem kq_ok {K : PySem.W.Frag} {q : Kq} (h : q.ok K = true) : PySem.W.kitOne K (q.a.v K) (q.b.v K) = some q.r := of_decide_eq_true h
/-- is the class a told apart from, and no subclass of, the own class at x -/
structure Nf where
  x : Str
  t : Tn
def Nf.ok (K : PySem.W.Frag) (q : Nf) : Bool := PySem.W.notFirst K (ga K q.x) (q.t.v K)
abbrev AlR : Type := AlD × Bool
def obsR (fa : List Fa) (fn : List DefD) (cs : List Str) (ks : List Kq) (ns : List Nf) (K : PySem.W.Frag) : AlR := (obsD fa fn K, (cs.all fun x => clsB K x) && ((ks.all fun q => q.ok K) && ns.all fun q => q.ok K))
def valR (fn : List DefD) : AlR := (valD fn, true)
def SaysR (fa : List Fa) (fn : List DefD) (cs : List Str) (ks : List Kq) (ns : List Nf) (K : PySem.W.Frag) : Prop := obsR fa fn cs ks ns K = valR fn
def obsRG (n : Nat) (fa : List Fa) (fn : List DefD) (cs : List Str) (ks : List Kq) (ns : List Nf) (g : Addr → Option Obj) : AlR := obsR fa fn cs ks ns (frG g (asD g n))
def hookR (n : Nat) (fa : List Fa) (fn : List DefD) (cs : List Str) (ks : List Kq) (ns : List Nf) : PySem.W.Hook where
  α := AlR
  obs := fun s => obsRG n fa fn cs ks ns s.heap.get?
  val := fun _ => valR fn
  says := fun _ h => ∃ K : PySem.W.Frag, K.In h ∧ SaysR fa fn cs ks ns K
  of := fun _ _ e => ⟨_, frG_in, e⟩
  keeps := fun _ _ _ ⟨K, hK, c⟩ k => ⟨K, PySem.W.Frag.In.keeps hK k, c⟩
theorem obsRG_eq {n : Nat} {fa : List Fa} {fn : List DefD} {cs : List Str} {ks : List Kq} {ns : List Nf} {g : Addr → Option Obj} {s : Shared} (h : ∀ a, g a = s.heap.get? a) : obsRG n fa fn cs ks ns g = (hookR n fa fn cs ks ns).obs s := by
  have e : g = s.heap.get? := funext h
  rw [e] <;> rfl
section
variable {fa : List Fa} {fn : List DefD} {cs : List Str} {ks : List Kq} {ns : List Nf} {K : PySem.W.Frag}
theorem SaysR.d (c : SaysR fa fn cs ks ns K) : SaysD fa fn K := congrArg (fun z : AlR => z.1) c
theorem SaysR.ex (c : SaysR fa fn cs ks ns K) : ((cs.all fun x => clsB K x) && ((ks.all fun q => q.ok K) && ns.all fun q => q.ok K)) = true := congrArg (fun z : AlR => z.2) c
theorem SaysR.cls (c : SaysR fa fn cs ks ns K) (i : Nat) {x : Str} (h : cs[i]? = some x := by rfl) : ClsX K (ga K x) := clsB_ok (List.all_eq_true.mp (ba c.ex).1 x (List.mem_of_getElem? h))
theorem SaysR.kit (c : SaysR fa fn cs ks ns K) (i : Nat) {q : Kq} (h : ks[i]? = some q := by rfl) : PySem.W.kitOne K (q.a.v K) (q.b.v K) = some q.r := kq_ok (List.all_eq_true.mp (ba (ba c.ex).2).1 q (List.mem_of_getElem? h))
theorem SaysR.nf (c : SaysR fa fn cs ks ns K) (i : Nat) {q : Nf} (h : ns[i]? = some q := by rfl) : PySem.W.notFirst K (ga K q.x) (q.t.v K) = true := List.all_eq_true.mp (ba (ba c.ex).2).2 q (List.mem_of_getElem? h)
end
end RC
/-! ## Own errors: class X(ClerkError) with def __init__(self, value=None): super().__init__(value); self.value = value -/
namespace RC
open PySem PySem.Spec PyProof.Rows L2
open PySem.W PySem.Calls
abbrev vB : List Value := [.type "ValueError", .type "Exception", .type "BaseException", .type "object"]
def eAr (p1 p2 p3 : Pos) : Arguments := { posonlyargs := [], args := [{ arg := "self", annotation := none, pos := p1 }, { arg := "value", annotation := none, pos := p2 }], vararg := none, kwonlyargs := [], kw_defaults := [], kwarg := none, defaults := [.Constant .none 0 p3] }
def eBo (q1 q2 q3 q4 q5 q6 q7 q8 q9 q10 : Pos) : List Stmt := [.Expr (.Call (.Attribute (.Call (.Name "super" q1) [] [] q2) "__init__" q3) [.Name "value" q4] [] q5) q6, .Assign [.Attribute (.Name "self" q7) "value" q8] (.Name "value" q9) q10]
def eSc : Scope := { kind := .function, names := [(PySem.Str.ofString "self", .local), (PySem.Str.ofString "value", .local), (PySem.Str.ofString "__class__", .free), (PySem.Str.ofString "super", .globalImplicit)], isGenerator := false, isCoroutine := false, more := [] }
/-- what the written part says of the error class at C and its __init__ at fI -/
structure ErrC (P : Program) (K : Frag) (mg : Str → Option Value) (C fI : Addr) : Prop where
  ini : ∃ nm q N bs bm sn sub ab col dd k0 k1 k2 k3 k5, K.lookup C = some (excClassObj nm q C N bs bm true sn sub ab col dd k0 k1 k2 k3 k5 "ValueError.__new__") ∧ HandSPX.refsVE bm = true
  sa : findIn K (.ref C) "__setattr__" = some (some (.builtin "object.__setattr__"))
  ga : findIn K (.ref C) "__getattribute__" = some (some (.builtin "BaseException.__getattribute__"))
  gg : findIn K (.ref C) "__getattr__" = some none
  no : findIn K (.ref C) "value" = some none
  iC : findIn K (.ref C) "__init__" = some (some (.ref fI))
  tI : typeIn K (.ref fI) = some (.type "function")
  kC : keepIn K (.ref C) = true
  exC : subIn K (.ref C) (.type "BaseException") = some true
  veC : subIn K (.ref C) (.type "ValueError") = some true
  tyC : typeIn K (.ref C) = some (.type "type")
  hdC : hasDictIn K C = true
  mC : mroIn K C (.ref C) = some true
  eI : excInitIn K C vB "ValueError.__new__" = true
  sup : ks_superIn K C C "__init__" = some (some (.builtin "ValueError.__init__"))
  opq : nsIn K cStatics "thirdparty.any" = some none
  nsu : mg "super" = none
  top : (P.main.scope.names.lookup ("super" : Str)).isSome = false
  fn : ∃ (oc cl ccl : Value) (od cdd cld : Option Addr) (qual : Str) (dV kV doc pm ct : Value) (an : Option Addr) (osl ccs csl : Array (Option Value)) (cda cc : Addr) (vs : Array Value) (file : Str) (tf : Tok) (p1 p2 p3 q1 q2 q3 q4 q5 q6 q7 q8 q9 q10 : Pos),
    K.lookup fI = some ⟨oc, od, .func (ksFn "__init__" qual (eAr p1 p2 p3) (eBo q1 q2 q3 q4 q5 q6 q7 q8 q9 q10) eSc dV kV doc pm an (.ref cda) ct cc), osl⟩ ∧ codeIn K (.ref cda) qual = true ∧
      K.lookup cda = some ⟨ccl, cdd, .fields vs, ccs⟩ ∧ vs[2]? = some (.str file tf) ∧ ((P.main.file : Str) == file) = true ∧ K.lookup cc = some ⟨cl, cld, .cell (some (.ref C)), csl⟩ ∧
      (q3.endLine == q5.line) = true ∧ (∃ (Td : Addr) (o : Obj) (n : Nat), dV = .ref Td ∧ K.lookup Td = some o ∧ o.data = .seq #[.none] n)
/-- what stands beside the class table -/
structure Beside (mg : Str → Option Value) (h : Heap) : Prop where
  g : h.Ns mainGlobals mg
  b : ∃ mb, h.Ns builtinsNs mb ∧ ∀ x : Str, x ≠ "__name__" → mb x = bootBuiltins x
  lim : h.NoLimit
/-- an error made: at e, its dict at d -/
structure ErrMade (h h' : Heap) (e C d : Addr) (v : Value) : Prop where
  keep : ∀ b o, h.get? b = some o → h'.get? b = some o
  new : h.objs.size ≤ e
  obj : ∃ oe vs, h'.get? e = some oe ∧ oe.cls = .ref C ∧ oe.dict = some d ∧ oe.data = .fields vs ∧ vs[1]? = some .none
  dbig : h.objs.size ≤ d
  dne : d ≠ e
  ns : h'.Ns1 d (fun y => if y = "value" then some v else none)
theorem ld_loc {M : Model} {A : Around} {E : Value → Shared → Prop} {s : Shared} {env : Env} {m : Str → Option Value} {x : Str} {pos : Pos} {v : Value} {Q : Value → Shared → Prop} (hn : s.heap.Ns env.locals m) (hv : m x = some v) (h : Q v s)
    (hk : env.scope.kind = .function := by rfl) (hl : env.kindOf x = some .local := by rfl) (hd : (x == ("__debug__" : Str)) = false := by decide) : wpAny M A (eval (.Name x pos) env) Q E s :=
  wpAny_Name (wpAny_loadName_local hk hl hn hv h) hd
theorem meth_pos {o : Expr} {env : Env} {apos pos : Pos} (h : (apos.endLine == pos.line) = true) : methodCallPos true o env apos pos = pure pos := by
  unfold methodCallPos
  rw [if_pos (by rw [h]; rfl)]
theorem meth_eval {o e : Expr} {name : Str} {apos pos : Pos} {env : Env} (h : (apos.endLine == pos.line) = true) (hst : starEach [e] env = [(false, eval e env)]) : eval (.Call (.Attribute o name apos) [e] [] pos) env = (do
    let ov ← attributeBase o name env (eval o env)
    standAt apos.atName
    let (f, first) ← holding [ov] (getMethod ov name (do return (← importBound o env).getD true))
    callWith pos f first (backTo pos (starEach [e] env)) []) := by
  rw [arm_eval_Call]
  congr 1
  funext ov
  congr 1
  funext _
  unfold methodCall
  have hf : methodCallForm ([e].length + ([] : List Keyword).length) (backTo pos (starEach [e] env)) (backToKw pos (keywordEach [] env)) = true := by
    rw [hst]
    rfl
  rw [hf]
  unfold calleeOf
  rw [if_pos rfl]
  simp only [meth_pos h, pure_bind]
  rfl
section
variable {prog : Program} {w : World} {A : Around} {E : Value → Shared → Prop} {R : Result → Shared → Prop} {s : Shared} {K : Frag} {mg : Str → Option Value} {C fI : Addr}
/-- the body of __init__, behind the entry: x the new error -/
theorem err_init (T : ErrC prog K mg C fI) {h0 : Heap} {x t0 : Addr} {v : Value} (X : K.In h0) (G : Beside mg h0) (k0 : ∀ b o, h0.get? b = some o → s.heap.get? b = some o) (hx : s.heap.get? x = some (excObj C t0 none .none)) (nx : h0.get? x = none) (hz : h0.objs.size ≤ s.heap.objs.size) (hroom : A.depth < recursionLimit)
    (hq : ∀ h' tk dx t1, (∀ b o, h0.get? b = some o → h'.get? b = some o) → h'.get? x = some { cls := .ref C, dict := some dx, data := .fields #[.ref t1, .none, .none, .none, .bool false, .none] } → h0.objs.size ≤ dx → dx ≠ x → h'.Ns1 dx (fun y => if y = "value" then some v else none) → R (.ok (.ret .none)) { s with heap := h', toks := tk }) :
    codeAny (model prog w) A (.call (.ref fI) ⟨[.ref x, v], []⟩) R s := by
  obtain ⟨oc, cl, ccl, od, cdd, cld, qual, dV, kV, doc, pm, ct, an, osl, ccs, csl, cda, cc, vs, file, tf, p1, p2, p3, q1, q2, q3, q4, q5, q6, q7, q8, q9, q10, ho, hcd, hcode, hvs, hfile, hcell, hpos, Td, oT, nT, rfl, hT, hTd⟩ := T.fn
  obtain ⟨nm, q, N, bs, bm, sn, sub, ab, col, dd, k0', k1, k2, k3, k5, hC, hbm⟩ := T.ini
  have hcl : clsIn K C = some { name := nm, bases := bs, mro := .ref C :: bm, ns := N, qualname := q, hasDict := true, slotNames := sn, subclasses := sub, abstract := ab, collection := col, hasDel := false } := by unfold clsIn; rw [hC] <;> rfl
  have Xs : K.In s.heap := X.keeps k0
  have hbd : BindsTo s (ksFn "__init__" qual (eAr p1 p2 p3) (eBo q1 q2 q3 q4 q5 q6 q7 q8 q9 q10) eSc (.ref Td) kV doc pm an (.ref cda) ct cc) ⟨[.ref x, v], []⟩ [("self", .ref x), ("value", v)] := BindsTo.of_defaults (T := Td) rfl (Xs _ _ hT) hTd rfl rfl
  have hcells : ∀ y ∈ eSc.names, y.2 ≠ .cell := by decide
  have hlocs : ∀ y ∈ [(("self" : Str), Value.ref x), (("value" : Str), v)], eSc.names.lookup y.1 = some .local := fun y hy => by
    rcases List.mem_cons.mp hy with rfl | hy
    · rfl
    · obtain rfl := List.mem_singleton.mp hy
      rfl
  refine ks_codeAny_call_defAt (body := eBo q1 q2 q3 q4 q5 q6 q7 q8 q9 q10) (binds := [("self", .ref x), ("value", v)]) hroom (Xs _ _ ho) rfl (G.lim.keeps k0) (codeRec_of Xs hcd) rfl hbd hcells hlocs (fun h1 hn1 kk => ?_)
  have hxL : s.heap.objs.size ≠ x := Nat.ne_of_gt (Heap.lt_size hx)
  have F1 : Fr h0 s.heap.objs.size h1 (fun y => List.lookup y [(("value" : Str), v), (("self" : Str), .ref x)]) := ⟨hn1, fun b o e => kk b o (k0 b o e), hz⟩
  have N1 : News h0 s.heap.objs.size h1 [(x, excObj C t0 none .none)] := fun p hp => by
    obtain rfl := List.mem_singleton.mp hp
    exact ⟨kk _ _ hx, hxL.symm, nx⟩
  generalize hL : s.heap.objs.size = L at F1 N1 hxL ⊢
  show _root_.PySem.wpAt (model prog w) (A.deeper (ksEnv qual eSc L fI (.ref cda) cc)) (.func (eBo q1 q2 q3 q4 q5 q6 q7 q8 q9 q10) (ksEnv qual eSc L fI (.ref cda) cc)) (execs (eBo q1 q2 q3 q4 q5 q6 q7 q8 q9 q10) (ksEnv qual eSc L fI (.ref cda) cc)) _ _ _
  refine ks_wpAt_execs_cons (ks_wpAt_Expr_any (ks_wpAt_MethodCall (he := meth_eval hpos rfl) ?_))
  have X1 : K.In h1 := X.keeps F1.keep
  obtain ⟨mb, hb1, hb2⟩ := G.b
  obtain ⟨oD, hD1, hD2⟩ : ∃ oD, h1.get? C = some oD ∧ ∃ cd, oD.data = .cls cd := ⟨_, X1 _ _ hC, _, rfl⟩
  obtain ⟨cdD, hD2⟩ := hD2
  refine ks_wpAt_super_base (env := ksEnv qual eSc L fI (.ref cda) cc) (f := fI) (cc := cda) rfl rfl (by decide) rfl (X1 _ _ ho) rfl rfl rfl (X1 _ _ hcode) rfl hvs hfile T.top ?_
  refine ks_loadName_global rfl rfl (loadGlobal_builtin (env := ksEnv qual eSc L fI (.ref cda) cc) (G.g.keeps F1.keep) T.nsu (hb1.keeps F1.keep) ((hb2 _ (by decide +kernel)).trans (by first | boot_by_name | rfl | kernel_rfl)) ⟨rfl, ?_⟩)
  refine wpAny_loadName_free rfl rfl rfl ⟨_, X1 _ _ hcell, rfl⟩ ?_
  refine wpAny_loadName_local (v := .ref x) rfl rfl F1.ns (by first | rfl | with_unfolding_all rfl | kernel_rfl) ?_
  refine ks_wpAny_isType_cls hD1 hD2 ⟨rfl, ?_⟩
  refine ks_wpAny_call_super hD1 hD2 (N1 _ List.mem_cons_self).1 rfl (fun c e => by cases e) (looks_mroIn X1 T.mC) (fun h2 e2 k2 => ?_)
  obtain ⟨F2, N2, l2⟩ := ks_newsPush (s := ⟨h1, s.gens, s.drawn, s.toks + 2, s.os⟩) F1 N1 rfl e2 k2
  refine kxs_method kxs_ValueError F2 X N2 (D := C) (x := x) (C := C) List.mem_cons_self (InstAt.of_exc0 N2 (List.mem_cons_of_mem _ List.mem_cons_self)) T.opq T.sup T.veC (by decide) (fun u h3 F3 N3 l3 => ?_)
  refine kxs_callWith1 (i := "ValueError.__init__") (x := x) N3 List.mem_cons_self ?_
  refine spliced_cons (ld_loc (v := v) F3.ns (by first | rfl | with_unfolding_all rfl | kernel_rfl) (spliced_nil ⟨kxs_at N3 List.mem_cons_self, ?_⟩))
  have ux : u ≠ x := fun z => by
    have := l3 (x, excObj C t0 none .none) (List.mem_cons_of_mem _ List.mem_cons_self)
    rw [z] at this
    exact absurd this (Nat.lt_irrefl _)
  have sx : h1.objs.size ≠ x := Nat.ne_of_gt (Heap.lt_size (N1 _ List.mem_cons_self).1)
  refine kxs_call (dv := none) (c2 := .none) F3 X N3 PySem.F.excBase_ValueError T.eI List.mem_cons_self (.tail ux (.tail sx (.head fun _ z => (nomatch z)))) (by show 1 ≤ sizeLine; decide) (fun t1 h4 F4 N4 l4 => ?_)
  show _root_.PySem.wpAt _ _ _ (execs _ _) _ _ _
  refine wpAt_of_wpAny (wpAny_execs_cons (plainObj_wpAny_Assign_Attribute ?_))
  refine ld_loc (v := v) F4.ns (by first | rfl | with_unfolding_all rfl | kernel_rfl) (ld_loc (v := .ref x) F4.ns (by first | rfl | with_unfolding_all rfl | kernel_rfl) ?_)
  have hx4 : h4.get? x = some (excObj C t1 none .none) := (N4 (x, excObj C t1 none .none) (.tail _ (.tail _ (.tail _ (.head _))))).1
  have X4 : K.In h4 := X.keeps F4.keep
  refine set_plain X4 (ox := excObj C t1 none .none) (od := none) ⟨hx4, rfl, rfl, trivial⟩ T.sa ?_
  refine HandSPX.exc_osa X4 hx4 hcl (show HandSPX.refsVE (.ref C :: bm) = true from hbm) rfl T.no (fun h5 tk5 dx k5 dn dne hx5 hn5 => ?_)
  show wpAny _ _ (execs _ _) _ _ _
  have z : L < h4.objs.size := F4.ns.lt
  have hz' : h0.objs.size ≤ dx := Nat.le_trans F4.above (Nat.le_trans (Nat.le_of_lt z) dn)
  exact wpAny_execs_nil (hq h5 tk5 dx t1 (fun b o e => k5 b o (fun y => by rw [y, nx] at e; cases e) (F4.keep b o e)) hx5 hz' dne hn5)
/-- X(v): the error made -/
theorem err_made (T : ErrC prog K mg C fI) {v : Value} (X : K.In s.heap) (G : Beside mg s.heap) (hroom : A.depth + 1 < recursionLimit)
    (hq : ∀ h' tk e d, ErrMade s.heap h' e C d v → R (.ok (.ret (.ref e))) { s with heap := h', toks := tk }) :
    codeAny (model prog w) A (.call (.ref C) ⟨[v], []⟩) R s := by
  obtain ⟨nm, q, N, bs, bm, sn, sub, ab, col, dd, k0, k1, k2, k3, k5, hC, hbm⟩ := T.ini
  obtain ⟨hp, g, dr, tk, os⟩ := s
  have k : ∀ b o, hp.get? b = some o → ((hp.push (kdv_tup [v])).push (HandSPX.excO C hp.objs.size)).get? b = some o := fun b o e => Heap.get?_push_of_some _ (Heap.get?_push_of_some _ e)
  have hget : ((hp.push (kdv_tup [v])).push (HandSPX.excO C hp.objs.size)).get? (hp.objs.size + 1) = some (HandSPX.excO C hp.objs.size) := by heap_get
  have hnx : hp.get? (hp.objs.size + 1) = none := by
    cases e : hp.get? (hp.objs.size + 1) with
    | none => rfl
    | some o => exact absurd (Nat.lt_of_succ_lt (Heap.lt_size e)) (Nat.lt_irrefl _)
  refine HandSPX.call_own F.excBase_ValueError (fun Y => HandSPX.refsVE_contains Y bm hbm) (X _ _ hC) (looks_findIn X T.iC) (fun self => bind_fn X self T.tI) (by show 1 ≤ sizeLine; decide) ?_
  refine err_init (s := ⟨(hp.push (kdv_tup [v])).push (HandSPX.excO C hp.objs.size), g, dr, tk, os⟩) (h0 := hp) T X G k hget hnx (by rw [Heap.size_push, Heap.size_push]; omega) (by show A.depth + 1 < recursionLimit; exact hroom) fun h' tk' dx t1 k' hx dn dne hns => ?_
  exact ⟨rfl, hq h' tk' (hp.objs.size + 1) dx ⟨k', Nat.le_succ _, ⟨_, _, hx, rfl, rfl, rfl, rfl⟩, dn, dne, hns⟩⟩
end
end RC
/-! ## Errors raised, caught, kept under another name; their field; isinstance of them -/
namespace RC
open PySem PySem.Spec PyProof.Rows L2
open PySem.W (Frag)
abbrev valS : Str := "value"
theorem rel_val {v : V} {v' : Value} (r : RelV v v') (f : Str) : RelO (List.lookup f [(valS, v)]) (if f = "value" then some v' else none) := by
  by_cases hw : f = "value"
  · subst hw
    rw [if_pos rfl]
    have q : List.lookup valS [(valS, v)] = some v := by simp [List.lookup]
    rw [q]
    exact r
  · rw [if_neg hw]
    have qw : (f == valS) = false := by simpa using hw
    have q2 : List.lookup f [(valS, v)] = none := by simp [List.lookup, qw]
    rw [q2]
    trivial
theorem Beside.of {X : Cx} {pins : List (Addr × Obj)} {σ : L2.St} {H : Hp} {s : Shared} (I : Inv X pins σ H s) : Beside X.mg s.heap := by
  obtain ⟨mb, h1, h2⟩ := I.ok.mod.blt
  exact ⟨I.ok.mod.glob.keeps I.bk, ⟨mb, h1.keeps I.bk, h2⟩, I.nolimit⟩
section
variable {X : Cx} {C fI : Addr}
/-- X(e), to be raised -/
def tMkErr (C : Addr) (ta : TA) : L2.St → Hp → XK → Prop := fun σ H Q => ta σ H fun vs H1 => ∃ v, vs = [v] ∧ ∀ d, H1 d = none → Q (.ref C) (some d) (upd H1 d (.xd [(valS, v)]))
theorem pmk_err {x : Str} {a : Expr} {ta : TA} {p pos : Pos} {k : Nat} (T : ErrC X.prog X.K X.mg C fI) (hm : X.mg x = some (.ref C)) (hr : Room k X.A) (ha : PA X [a] ta) (hg : Gl X x := by rfl) (hdb : (x == ("__debug__" : Str)) = false := by decide)
    (he : starEach (a :: []) X.env = (false, eval a X.env) :: starEach [] X.env := by rfl) (hpl : (backTo pos (starEach [] X.env)).any (·.1) = false := by rfl) : PMk X (.Call (.Name x p) [a] [] pos) (tMkErr C ta) := by
  intro pins s σ H Q I h
  refine wpAny_Call_Name_kw (ld_glob I hg hm ?_ hdb)
  refine PySem.W.callWith_K (h₀ := X.base) I.ok.mod.kin T.kC (thn (ha.run pos pins s σ H _ I h) fun us s1 hh => ?_) he hpl
  obtain ⟨vs, H1, I1, r1, v, ev, q1⟩ := hh
  subst ev
  refine ⟨I1.kIn, ?_⟩
  cases r1 with
  | cons rv rn =>
    rename_i v' us'
    cases rn
    show wpAny _ _ (call (.ref C) [v']) _ _ _
    have B1 := Beside.of I1
    obtain ⟨hp, g, dr, tk, os⟩ := s1
    refine wpAny_call (err_made T I1.kIn B1 (by have := hr.dp; omega) fun h' tk' e d M => ?_)
    show MkP X pins σ Q (.ref e) ⟨h', g, dr, tk', os⟩
    obtain ⟨oe, fv, hoe, hc, hd, hdat, h1⟩ := M.obj
    have hns := M.ns
    obtain ⟨G', g1, g2⟩ := restrict h' fun b => decide (b ≠ e)
    have gk : ∀ b, b ≠ e → G'.get? b = h'.get? b := fun b hb => g1 b (decide_eq_true hb)
    have ge : G'.get? e = none := g2 e (by simp)
    have old : ∀ b o, hp.get? b = some o → G'.get? b = some o := fun b o q => (gk b (Nat.ne_of_lt (Nat.lt_of_lt_of_le (Heap.lt_size q) M.new))).trans (M.keep b o q)
    have ob : ObjOk X.prog X.w (upd H1 d (.xd [(valS, v)])) G' d (.xd [(valS, v)]) := ⟨_, hns.at (fun o q => (gk d M.dne).trans q), fun f => rel_val rv f⟩
    have J : Inv X pins σ (upd H1 d (.xd [(valS, v)])) ⟨G', g, dr, tk', os⟩ := I1.laid (t' := tk') old M.dbig ob
    refine ⟨e, oe, fv, ⟨G', g, dr, tk', os⟩, _, .ref C, some d, rfl, J, fun b o q => ?_, ge, hoe, ⟨hc, hd⟩, hdat, h1, ?_, rfl, I1.bare, raises_own T.exC T.tyC, q1 d (I1.hok.fresh M.dbig)⟩
    · by_cases hb : b = e
      · have q' : G'.get? b = some o := q
        rw [hb, ge] at q'
        cases q'
      · exact (gk b hb).symm.trans q
    · rw [upd_ne (Ne.symm M.dne)]
      exact I1.hok.fresh M.new
def tRaiseE (C : Addr) (W : WX) (ta : TA) : TS := fun _ σ H => tMkErr C ta σ H fun cls d H' => W cls d σ H'
theorem ps_raiseE {x : Str} {a : Expr} {ta : TA} {W : WX} {p pos pos2 : Pos} {k : Nat} (hc : X.calm = true) (T : ErrC X.prog X.K X.mg C fI) (hm : X.mg x = some (.ref C)) (hr : Room k X.A) (tk : Takes X W) (ha : PA X [a] ta) (hg : Gl X x := by rfl) (hdb : (x == ("__debug__" : Str)) = false := by decide)
    (he : starEach (a :: []) X.env = (false, eval a X.env) :: starEach [] X.env := by rfl) (hpl : (backTo pos (starEach [] X.env)).any (·.1) = false := by rfl) :
    PS X (.Raise (some (.Call (.Name x p) [a] [] pos)) none pos2) (tRaiseE C W ta) := ps_raise hc tk (pmk_err T hm hr ha hg hdb he hpl)
/-! ### an error that is kept -/
/-- an exception's object of the class cls with the dict d, behind its flight, at a -/
def ErrO (cls : Value) (d : Option Addr) (a : Addr) : HO := .ext fun h => ∃ (oe : Obj) (vs : Array Value), h.get? a = some oe ∧ Zc cls d oe ∧ oe.data = .fields vs
theorem errO_ok {P : Program} {w : World} {H : Hp} {h : Heap} {a : Addr} {cls : Value} {d : Option Addr} {oe : Obj} {vs : Array Value} (e : h.get? a = some oe) (z : Zc cls d oe) (dt : oe.data = .fields vs) : ObjOk P w H h a (ErrO cls d a) :=
  ⟨⟨oe, vs, e, z, dt⟩, ⟨oe, e⟩, fun _ _ ⟨o, v, q, r⟩ k => ⟨o, v, k o q, r⟩⟩
/-- an object that isn't tracked yet, made behind the entry, is tracked from here on -/
theorem Inv.adopt {pins : List (Addr × Obj)} {σ : L2.St} {H : Hp} {s : Shared} {a : Addr} {o : HO} (I : Inv X pins σ H s) (hn : H a = none) (n0 : X.s_0.heap.get? a = none) (nL : a ≠ X.env.locals) (nC : ∀ x c, X.env.cells.lookup x = some c → c ≠ a) (nP : ∀ p ∈ X.pn ++ pins, p.1 ≠ a)
    (new : ObjOk X.prog X.w (upd H a o) s.heap a o) : Inv X pins σ (upd H a o) s := by
  have ne0 : ∀ {b : Addr} {u : Obj}, X.s_0.heap.get? b = some u → b ≠ a := fun {b u} e z => by
    rw [z, n0] at e
    cases e
  have neH : ∀ {b : Addr} {u : HO}, H b = some u → b ≠ a := fun {b u} e z => by
    rw [z, hn] at e
    cases e
  refine ⟨I.ok, I.os, I.bare, ⟨I.base.keep, I.base.slot, fun b u e n x => ?_, I.base.there, fun b xs e => ?_, fun b u v e => ?_, fun b ps e => ?_⟩, I.loc, I.cell, ?_, fun x c e => ?_, fun p hp => ?_, I.hok.laidN (fun _ _ q => q) hn new, I.len⟩
  · rw [upd_ne (ne0 e)]
    exact I.base.free b u e n x
  · have q := I.base.tups b xs e
    rw [upd_ne (neH q)]
    exact q
  · have q := I.base.frzs b u v e
    rw [upd_ne (neH q)]
    exact q
  · obtain ⟨m, q⟩ := I.base.tbls b ps e
    exact ⟨m, by rw [upd_ne (neH q)]; exact q⟩
  · rw [upd_ne nL.symm]
    exact I.free
  · rw [upd_ne (nC x c e)]
    exact I.freeC x c e
  · obtain ⟨q1, q2, q3⟩ := I.pin p hp
    exact ⟨q1, by rw [upd_ne (nP p hp)]; exact q2, q3⟩
/-- the wish: what is caught is of the clause's class, and kept in the slot j -/
def wKeep (K : Frag) (c : Value) (i j : Nat) (D : Ends) : WX := fun cls d σ H => PySem.W.exmOne K cls c = some true ∧ ∀ a, H a = none → D.nx (((σ.set i (some (.ref a))).set j (some (.ref a))).set i none) (upd H a (ErrO cls d a))
/-- try: body, except x as n: y = n -/
theorem ps_keep {x n y : Str} {c : Value} {i j : Nat} {body : List Stmt} {np p1 p2 p3 pos pos' : Pos} {tb : WX → TS} (hs : X.stack = X.env :: X.outer) (hf : X.env.frame = some X.env.locals) (hx : X.ex = []) (hN : X.N.Nodup) (hi : X.N[i]? = some n) (hj : X.N[j]? = some y) (hij : i ≠ j) (hln : X.env.kindOf n = some .local) (hly : X.env.kindOf y = some .local)
    (hc : Names X x c) (hd1 : (n == ("__debug__" : Str)) = false) (hd2 : (n == ("__classdict__" : Str)) = false) (hsw : swapsWith (.Name n p2) (some (.Name y p1)) p3.line X.env = pure false)
    (hb : ∀ (W : WX) (pn : List (Addr × Obj)) (xe : Value → Shared → Prop), Takes (X.tr pn xe) W → PassesOwn (model X.prog X.w) X.A X.env xe → PSs (X.tr pn xe) body (tb W)) :
    PS X (.Try body [.ExceptHandler (some (.Name x np)) (some n) [.Assign [.Name y p1] (.Name n p2) p3] pos'] [] [] pos) (fun D σ H => tb (wKeep X.K c i j D) D σ H) := by
  refine ⟨fun pins s σ H D I h => wpAny_Try_except ?_⟩
  have ok := I.ok
  have fr : X.A.frames = some (X.env :: X.outer) := by rw [ok.frames, hs]
  -- the body, its ways out
  refine wpAny_mono ((hb (wKeep X.K c i j D) (X.pn ++ pins) _ (fun u st air => ?_) PassesOwn.looking).run [] s σ H D (I.toTry _) h) (fun fl st hfl => ?_) (fun _ _ z => z)
  · obtain ⟨a, B, sA, ps, σA, HA, cls, d, rfl, JA, gB, upA, sky, nA, osA, bareA, hm, hk⟩ := air
    have JB : Inv X pins σA HA sA := JA.ofTry ok
    rw [hs] at sky
    refine Sky.land Zc.steady fr hf sky fun hL fly upL => ?_
    obtain ⟨oL, vL, eL, zL, dL⟩ := fly.there
    have away : a ∉ frs (X.env :: X.outer) := fun q => by
      obtain ⟨_, o', e', nd⟩ := fly.2.2.1.mem q
      rw [eL] at e'
      cases e'
      exact nd _ dL
    have nL : a ≠ X.env.locals := fun z => away (List.mem_filterMap.mpr ⟨X.env, List.mem_cons_self, by rw [hf, z]⟩)
    have nF : a ∉ X.fs := fun q => by
      obtain ⟨e, he, q⟩ := List.mem_filterMap.mp q
      exact away (List.mem_filterMap.mpr ⟨e, List.mem_cons_of_mem _ he, q⟩)
    have gone : sA.heap.get? a = none := by
      cases e : sA.heap.get? a with
      | none => rfl
      | some o =>
        have z := gB a o e (by rw [hs]; exact away)
        rw [fly.2.1] at z
        cases z
    have n0 : X.s_0.heap.get? a = none := by
      cases e : X.s_0.heap.get? a with
      | none => rfl
      | some o =>
        obtain ⟨o', z⟩ := JB.base.there a o e (by rw [hx]; exact fun z => nomatch z)
        rw [gone] at z
        cases z
    have nC : ∀ x c, X.env.cells.lookup x = some c → c ≠ a := fun x c e z => by
      obtain ⟨v, o, q, _⟩ := JB.cell x c e
      rw [z, gone] at q
      cases q
    have nP : ∀ p ∈ X.pn ++ pins, p.1 ≠ a := fun p hp z => by
      have q := (JB.pin p hp).1
      rw [z, gone] at q
      cases q
    have JL : Inv X pins σA HA { st with heap := hL } := JB.landed gB fly.1 (upA.trans upL) osA bareA
    have SL := JL.suite eL dL nA nL nF
    refine wpAny_handleBy_cons (codeAny_handlers_test ?_) (by intro q; cases q)
    have ask : ∀ {Q : Value → Shared → Prop} {E : Value → Shared → Prop}, Q c { st with heap := hL } → wpAny (model X.prog X.w) (X.A.mark (some (.ref a))) (eval (.Name x np) X.env) Q E { st with heap := hL } := fun {Q E} q => by
      obtain ⟨hg, hdb, e | ⟨e, hv, hne⟩⟩ := hc
      · exact ld_glob (X := X.suite a ((a, oL) :: (X.pn ++ pins))) SL hg e q hdb
      · exact ld_blt (X := X.suite a ((a, oL) :: (X.pn ++ pins))) SL hg e hv q hne hdb
    have isC : PySem.W.Looks (model X.prog X.w) hL (typeOf (.ref a)) cls := fun A Q E s k q => wpAny_typeOf_ref (k _ _ eL) (by rw [zL.1]; exact q)
    refine ask ((PySem.W.exm_one (M := model X.prog X.w) JL.kIn isC hm).here ?_)
    refine codeAny_handlers_suite_as ?_
    refine HandSPX.lands_againZ fly fun hM flyM upM => ?_
    have JM : Inv X pins σA HA { st with heap := hM } := JB.landed gB flyM.1 ((upA.trans upL).trans upM) osA bareA
    obtain ⟨oM, vM, eM, zM, dM⟩ := flyM.there
    refine store_ok (X := X.suite a ((a, oM) :: (X.pn ++ pins))) (v := .ref a) (JM.suite eM dM nA nL nF) hN hi (.inl hln) rfl (fun s5 S5 => ?_) (.inr hln)
    have one : PSs (X.suite a ((a, oM) :: (X.pn ++ pins))) [.Assign [.Name y p1] (.Name n p2) p3] (tAsg (tVar i) (gName j)) := pss_one (ps_set (X := X.suite a ((a, oM) :: (X.pn ++ pins))) hN hj (.inl hly) (pe_var hi (.inl hln) hd1 hd2) hsw (.inr hly))
    have li : i < σA.length := by
      rw [JM.len]
      exact (List.getElem?_eq_some_iff.mp hi).1
    refine wpAny_mono (one.run [] s5 _ HA { nx := fun σ' H' => σ' = (σA.set i (some (.ref a))).set j (some (.ref a)) ∧ H' = HA, rt := fun _ _ => False } S5 ⟨.ref a, by rw [List.getElem?_set_self li], rfl, rfl⟩) (fun fl s6 hfl => ?_) fun _ _ z => False.elim z
    cases fl with
    | next =>
      obtain ⟨σ6, H6, S6, e1, e2⟩ := hfl
      subst e1 e2
      obtain ⟨q1, _⟩ := S6.pin (a, oM) (List.mem_append_left _ List.mem_cons_self)
      have K6 : Inv X pins _ (upd H6 a (ErrO cls d a)) s6 := Inv.adopt (S6.unsuite ok) nA n0 nL nC nP (errO_ok q1 zM dM)
      exact gone_ok K6 hN hi hln fun s7 J7 => ⟨_, _, J7, hk a nA⟩
    | brk =>
      obtain ⟨_, _, _, z⟩ := hfl
      exact z.elim
    | cont =>
      obtain ⟨_, _, _, z⟩ := hfl
      exact z.elim
    | ret u =>
      obtain ⟨_, _, _, _, _, z⟩ := hfl
      exact z.elim
  · cases fl with
    | next =>
      obtain ⟨σ', H', J', q⟩ := hfl
      exact wpAny_execs_nil ⟨σ', H', J'.ofTry ok, q⟩
    | brk =>
      obtain ⟨σ', H', J', q⟩ := hfl
      exact ⟨σ', H', J'.ofTry ok, q⟩
    | cont =>
      obtain ⟨σ', H', J', q⟩ := hfl
      exact ⟨σ', H', J'.ofTry ok, q⟩
    | ret u =>
      obtain ⟨v, σ', H', J', r, q⟩ := hfl
      exact ⟨v, σ', H', J'.ofTry ok, r, q⟩
/-! ### err.value of a kept error -/
def FldE (P : Program) (K : Frag) (mg : Str → Option Value) (x : V) (H : Hp) (Q : VK) : Prop := ∃ (a C fI d : Addr) (v : V), x = .ref a ∧ H a = some (ErrO (.ref C) (some d) a) ∧ ErrC P K mg C fI ∧ H d = some (.xd [(valS, v)]) ∧ Q v H
def tFldE (P : Program) (K : Frag) (mg : Str → Option Value) (te : TE) : TE := fun σ H Q => te σ H fun x H1 => FldE P K mg x H1 Q
theorem r_fldE {P : Program} {K : Frag} {mg : Str → Option Value} {te : TE} {σ : L2.St} {H : Hp} {Q : VK} (h : te σ H fun x H1 => FldE P K mg x H1 Q) : tFldE P K mg te σ H Q := h
theorem pe_fldE {e : Expr} {te : TE} {pos : Pos} (he : PE X e te) (hb : attributeBase e "value" X.env (eval e X.env) = eval e X.env := by rfl) : PE X (.Attribute e "value" pos) (tFldE X.prog X.K X.mg te) := by
  refine ⟨fun pins s σ H Q I h => attr_of hb (thn (he.run pins s σ H _ I h) fun u s1 ⟨x, H1, I1, rx, a, C, fI, d, v, ex, ea, T, ed, q⟩ => ?_)⟩
  subst ex
  have eu : u = Value.ref a := rx
  subst eu
  obtain ⟨⟨oe, vs, ho, hz, hd⟩, _, _⟩ := I1.hok a _ ea
  obtain ⟨mA, hns, hr⟩ := (show ObjOk X.prog X.w H1 s1.heap d (.xd [(valS, v)]) from I1.hok d _ ed)
  obtain ⟨od, hod, hl⟩ := lookIn_ns hns
  have l : List.lookup valS [(valS, v)] = some v := by simp [List.lookup]
  obtain ⟨u, hu, ru⟩ := RelO.some_of (v := v) (o := mA valS) (by rw [← l]; exact hr valS)
  have J : PySem.W.InstAt s1.heap a oe C (some od) := ⟨ho, hz.1, by unfold PySem.W.notCls; rw [hd] <;> rfl, by rw [hz.2]; exact hod⟩
  exact HandSPX.exc_get I1.kIn J T.ga T.gg T.exC (PySem.W.findObj_own T.hdC T.no rfl (by rw [hl, hu])) (handed_of ru) ⟨v, H1, I1.tok _, ru, q⟩
end
/-! ### o.m(e, ..) in a try -/
section
variable {X : Cx} {k : Nat} {f C : Addr} {fd : FuncData} {ps : List Str} {sp : Sp} {W : WX} {m : Str} {pos apos : Pos} {e o : Expr} {es : List Expr} {ta : TE} {t : TA}
def tMethW (C : Addr) (m : Str) (sp : Sp) (W : WX) (ta : TE) (t : TA) : TE := fun σ H Q => tMeth C m sp [] (WE W σ) ta t σ H Q
theorem pe_methW {pl : Sem Bool} (he : PE X o ta) (c : Cls X.K C) (hm : Meth X.K C m f) (F : FnOk X.prog X.w X.K X.mg X.base (L2.CX X.prog X.w) k f fd ps sp) (hr : Room k X.A) (hb : Binds X.K fd ps []) (tk : Takes X W) (ha : PA X (e :: es) t)
    (hst : starEach (e :: es) X.env = (false, eval e X.env) :: starEach es X.env := by rfl) (hpl : (backTo pos (starEach es X.env)).any (·.1) = false := by rfl)
    (ht : eval (.Call (.Attribute o m apos) (e :: es) [] pos) X.env = (do
      let r ← eval o X.env
      standAt apos.atName
      let (f, first) ← holding [r] (getMethod r m pl)
      callWith pos f first (backTo pos (starEach (e :: es) X.env)) (backToKw pos (keywordEach [] X.env))) := by rfl) : PE X (.Call (.Attribute o m apos) (e :: es) [] pos) (tMethW C m sp W ta t) := by
  refine ⟨fun pins s σ H Q I h => PySem.W.methodCall_KW (pl := pl) (thn (he.run pins s σ H _ I h) fun u s1 ⟨x, H1, I1, rx, a, dx, fs, ex, ea, l, q⟩ => ?_) ht⟩
  subst ex
  have eu : u = Value.ref a := rx
  subst eu
  refine getmeth_ok I1 ea c hm l (PySem.W.callWith_K (first := [.ref a]) (h₀ := X.base) I.ok.mod.kin hm.kp (thn (ha.run pos pins s1 σ H1 _ I1 q) fun us s2 ⟨vs, H2, I2, r, q2⟩ => ⟨I2.kIn, ?_⟩) hst hpl)
  exact run_fnS (us := .ref a :: us) (vs := .ref a :: vs) F hr hb (passAt tk σ) I2 (.cons rfl r) (by simpa using q2)
end
theorem exm_self {P : Program} {K : Frag} {mg : Str → Option Value} {C fI : Addr} (T : ErrC P K mg C fI) (h : PySem.W.subIn K (.ref C) (.ref C) = some true) : PySem.W.exmOne K (.ref C) (.ref C) = some true := PySem.W.exm_ref T.exC T.hdC T.tyC h
end RC
/-! ## Defs that may say repr(..): promised where no repr is under way -/
namespace RC
open PySem PySem.Spec PyProof.Rows L2
open PySem.W (Frag)
/-- as FnOk, in surroundings in which no repr is under way -/
structure FnOkG (P : Program) (w : World) (K : Frag) (mg : Str → Option Value) (base : Heap) (CX : CXT) (k : Nat) (f : Addr) (fd : FuncData) (ps : List Str) (sp : Sp) : Prop where
  len : ∀ vs H Q E, sp vs H Q E → vs.length = ps.length
  run : ∀ (A : Around) (outer : List Env) (s : Shared) (H : Hp) (args : Args) (us : List Value) (vs : List V) (Q : VK) (E : XK), A.guards = some [] → Room k A → Env0 P w K mg base A outer s H → BindsTo s fd args (ps.zip us) → Vals vs us → sp vs H Q E →
    codeAny (model P w) A (.call (.ref f) args) (CR CX outer P w H s Q E) s
section
variable {P : Program} {w : World} {K : Frag} {mg : Str → Option Value} {base : Heap} {x qual : Str} {params : Arguments} {body : List Stmt} {scope : Scope} {dvs : List V} {kws : List (Str × V)} {f : Addr} {fd : FuncData}
theorem okG {CX : CXT} {N ps : List Str} {k : Nat} {sp : Sp} (F : FunD K x qual params body scope dvs kws f fd) (S : FnScope N ps scope) (len : ∀ vs H Q E, sp vs H Q E → vs.length = ps.length)
    (hbody : ∀ (cdv : Value) (A : Around) (outer : List Env) (s : Shared) (H : Hp) (vs : List V) (Q : VK) (E : XK), (A.deeper (envOfC qual scope s.heap.objs.size f cdv)).guards = some [] → Room k (A.deeper (envOfC qual scope s.heap.objs.size f cdv)) → sp vs H Q E →
      ∃ t, PSs (cxOf CX P w K mg base N qual scope f cdv A outer s H E) body t ∧ t { nx := fun _ H' => Q .non H', rt := Q } (start N vs) H) : FnOkG P w K mg base CX (k + 1) f fd ps sp := by
  obtain ⟨oc, od, dV, kV, doc, pm, an, cdv, ct, osl, rfl, lk, hcd, _, _⟩ := F.ex
  refine ⟨len, fun A outer s H args us vs Q E hg hr e0 hb r hsp => ?_⟩
  have Kin : K.In s.heap := e0.mod.kin.keeps fun b o e => (e0.bs b o e).1
  have names : ∀ y ∈ ps.zip us, scope.names.lookup y.1 = some .local ∨ (scope.names.lookup y.1 = some .cell ∧ ((cellsFrom (s.heap.objs.size + 1) scope.names []).lookup y.1).isSome = true) := fun ⟨n, v⟩ hy =>
    (S.par n (List.of_mem_zip hy).1).elim .inl fun q => .inr ⟨q, PySem.W.cellsFrom_some _ _ _ (.inl q)⟩
  refine codeAny_call_function hr.depth (Kin _ _ lk) rfl S.co S.gen rfl (PySem.W.codeRec_of Kin hcd) (hb _ _ _ _ (wpAny_newFunctionEnv_cells S.kind names fun env he s1 y => ?_))
  subst he
  refine ⟨(e0.mod.nolimit.keeps fun b o e => (e0.bs b o e).1).keeps y.toInCall.keep, codeAny_func ?_⟩
  obtain ⟨t, ht, hq⟩ := hbody cdv A outer s H vs Q E hg (hr.deeper _) hsp
  refine wpAny_mono (ht.run [] s1 (start N vs) H _ (inv_start S hr.hd e0 (len _ _ _ _ hsp) r y) hq) (fun fl s' hs => ?_) fun _ _ z => z
  match fl, hs with
  | .ret u, ⟨v, σ', H', J, rv, q⟩ => exact ⟨v, H', J.os, J.bare, J.base, J.hok, rv, q⟩
  | .next, ⟨σ', H', J, q⟩ => exact ⟨V.non, H', J.os, J.bare, J.base, J.hok, rfl, q⟩
  | .brk, ⟨_, _, _, q⟩ => exact q.elim
  | .cont, ⟨_, _, _, q⟩ => exact q.elim
end
section
variable {X : Cx} {CX : CXT} {k : Nat} {f : Addr} {fd : FuncData} {ps : List Str} {sp : Sp} {E : XK} {x : Str} {p pos : Pos} {e : Expr} {es : List Expr} {t : TA} {ds : List Value} {dvs : List V}
theorem runG {pins : List (Addr × Obj)} {σ : L2.St} {H : Hp} {s : Shared} {Q : VK} {us : List Value} {vs : List V} (F : FnOkG X.prog X.w X.K X.mg X.base CX k f fd ps sp) (hg : X.A.guards = some []) (hr : Room k X.A) (hb : Binds X.K fd ps ds) (hd : Vals dvs ds) (hx : Passes CX X E)
    (I : Inv X pins σ H s) (r : Vals vs us) (h : sp (vs ++ dvs) H Q E) : wpAny (model X.prog X.w) X.A (call (.ref f) us) (EP X pins σ Q) X.xe s := by
  have r2 := r.append hd
  have hl : (us ++ ds).length = ps.length := r2.length.symm.trans (F.len _ _ _ _ h)
  refine wpAny_call (codeAny_mono (F.run X.A X.stack s H ⟨us, []⟩ (us ++ ds) (vs ++ dvs) Q E hg hr I.env0 (hb s us I.kIn hl) r2 h) fun r s' hq => ?_)
  match r, hq with
  | .error e, hq => exact hx _ _ _ _ e s' I hq
  | .ok (.ret u), hq => exact I.after hq
theorem pe_callG (F : FnOkG X.prog X.w X.K X.mg X.base CX k f fd ps sp) (hgu : X.A.guards = some []) (hr : Room k X.A) (hg : Gl X x) (hm : X.mg x = some (.ref f)) (hk : PySem.W.keepIn X.K (.ref f) = true) (hb : Binds X.K fd ps ds) (hd : Vals dvs ds) (hx : Passes CX X E)
    (ha : PA X (e :: es) t) (hdb : (x == ("__debug__" : Str)) = false := by decide) (he : starEach (e :: es) X.env = (false, eval e X.env) :: starEach es X.env := by rfl) (hpl : (backTo pos (starEach es X.env)).any (·.1) = false := by rfl) :
    PE X (.Call (.Name x p) (e :: es) [] pos) (tCall sp dvs E t) :=
  ⟨fun pins s σ H Q I h => wpAny_Call_Name_kw (ld_glob I hg hm (PySem.W.callWith_K (h₀ := X.base) I.ok.mod.kin hk (thn (ha.run pos pins s σ H _ I h) fun us s1 ⟨vs, H1, I1, r, q⟩ => ⟨I1.kIn, runG F hgu hr hb hd hx I1 r q⟩) he hpl) hdb)⟩
theorem pe_callG0 (F : FnOkG X.prog X.w X.K X.mg X.base CX k f fd ps sp) (hgu : X.A.guards = some []) (hr : Room k X.A) (hg : Gl X x) (hm : X.mg x = some (.ref f)) (hk : PySem.W.keepIn X.K (.ref f) = true) (hb : Binds X.K fd ps ds) (hd : Vals dvs ds) (hx : Passes CX X E)
    (hdb : (x == ("__debug__" : Str)) = false := by decide) : PE X (.Call (.Name x p) [] [] pos) (tCall sp dvs E tNil) :=
  ⟨fun pins s σ H Q I h => wpAny_Call_Name_kw (ld_glob I hg hm (PySem.W.callWith_K0 I.kIn hk (runG (us := []) F hgu hr hb hd hx I .nil h)) hdb)⟩
/-! ### repr of data -/
def rReprD (K : Frag) : List V → Hp → VK → Prop := fun xs H Q => ∃ v d, xs = [v] ∧ Dp K H v d ∧ d.showable = true ∧ d.canLay0 = true ∧ d.depth ≤ 40 ∧ d.shown.length ≤ sizeLine ∧ Q (.str d.shown) H
theorem call_reprD (hg : X.A.guards = some []) (hr : Room 0 X.A) : CallR X (.builtin "repr") (rReprD X.K) := by
  intro pins s σ H xs us Q I r h
  obtain ⟨v, d, rfl, hd, hs, hcl, hdep, hlen, q⟩ := h
  obtain ⟨u, rfl, ru⟩ := vals1 r
  have hu := hr.units
  cases hd with
  | non =>
    cases ru
    exact PySem.P.repr_of_none ⟨.str _, H, I.tok _, ⟨_, rfl⟩, q⟩
  | bl b =>
    cases ru
    exact PySem.P.repr_of_bool ⟨.str _, H, I.tok _, ⟨_, rfl⟩, q⟩
  | int i =>
    obtain ⟨t, rfl⟩ := ru
    exact PySem.P.repr_of_int (of_decide_eq_true (by simpa [PyData.showable] using hs)) ⟨.str _, H, I.tok _, ⟨_, rfl⟩, q⟩
  | str x =>
    obtain ⟨t, rfl⟩ := ru
    exact PySem.P.repr_of_str ⟨.str _, H, I.tok _, ⟨_, rfl⟩, q⟩ hlen
  | lst hx ha =>
    obtain ⟨as, rd⟩ := Dp.reads I _ _ u (.lst hx ha) ru
    cases ru
    exact repr_of_reads' rd hs (PyData.noDict_hsm (PyData.hasDict_of_canLay _ hcl)) hg (by omega) (fun _ _ z => z) (fun h' t tk k => ⟨.str _, H, I.kept k, ⟨_, rfl⟩, q⟩) hlen
  | tup hx ha =>
    obtain ⟨as, rd⟩ := Dp.reads I _ _ u (.tup hx ha) ru
    cases ru
    exact repr_of_reads' rd hs (PyData.noDict_hsm (PyData.hasDict_of_canLay _ hcl)) hg (by omega) (fun _ _ z => z) (fun h' t tk k => ⟨.str _, H, I.kept k, ⟨_, rfl⟩, q⟩) hlen
/-- v's repr is t -/
inductive ShowV (K : Frag) (H : Hp) : V → Str → Prop where
  | data {v : V} {d : PyData} (h : Dp K H v d) (s : d.showable = true) (c : d.canLay0 = true) (dp : d.depth ≤ 40) (l : d.shown.length ≤ sizeLine) : ShowV K H v d.shown
  | edict {a : Addr} (h : Rd H a (.dK [])) : ShowV K H (.ref a) (PyData.dict []).shown
def rReprX (K : Frag) : List V → Hp → VK → Prop := fun xs H Q => ∃ v t, xs = [v] ∧ ShowV K H v t ∧ Q (.str t) H
theorem call_reprX (hg : X.A.guards = some []) (hr : Room 0 X.A) : CallR X (.builtin "repr") (rReprX X.K) := by
  intro pins s σ H xs us Q I r h
  obtain ⟨v, t, rfl, hv, q⟩ := h
  cases hv with
  | data h1 h2 h3 h4 h5 => exact call_reprD hg hr pins s σ H [v] us Q I r ⟨v, _, rfl, h1, h2, h3, h4, h5, q⟩
  | @edict a ha =>
    obtain ⟨u, rfl, ru⟩ := vals1 r
    have eu : u = Value.ref a := ru
    subst eu
    have hu := hr.units
    obtain ⟨_, ns, vs, kv, ob, es, ep, e1, e2, e3, _, e5, _⟩ := (show ObjOk X.prog X.w H s.heap a (.dK []) from ha.elim (fun q => I.hok a _ q) fun ⟨o, q⟩ => (I.hok a _ q).2)
    have z : vs = [] := by
      cases kv
      rfl
    subst z
    have ez : es.toList = [] := by
      generalize es.toList = l at e5
      cases e5
      rfl
    have rd : Reads s.heap (.ref a) (.dict []) ((a :: []) ++ []) := Reads.dict e1 e2.1 e3 (by rw [ez]; exact .nil) (by rw [ez]; exact .nil)
    refine repr_of_reads' rd (by simp [PyData.showable, PyData.showableKv]) (fun _ hm => ?_) hg ?_ (fun _ _ z => z) (fun h' t tk k => ⟨.str _, H, I.kept k, ⟨_, rfl⟩, q⟩) (by decide +kernel)
    · have hm' : sysModules ∈ [a] := by simpa using hm
      rw [List.mem_singleton.mp hm'] at ns
      simp at ns
    · simp only [PyData.depth, PyData.depthKv]
      omega
end
/-! ### the law's end -/
theorem law_callG {P : Program} {w : World} {K : Frag} {mg mb : Str → Option Value} {k : Nat} {fa a : Addr} {fd : FuncData} {x : Str} {sp : Sp} {s1 : Shared} {vs : List Value} {ns : List Int}
    (KX : K.In s1.heap) (hns : s1.heap.Ns mainGlobals mg) (hb : s1.heap.Ns builtinsNs mb) (hbb : ∀ x : Str, x ≠ "__name__" → mb x = bootBuiltins x) (hlim : s1.heap.NoLimit) (hg : s1.gens = #[])
    (ha : s1.heap.get? a = some { cls := .type "list", data := .seq vs.toArray }) (hi : IntsAre vs ns) (hl : ns.length ≤ sizeLine) (hr : Room k callerA)
    (F : ∀ base : Heap, K.In base → base.Ns mainGlobals mg → FnOkG P w K mg base CX0 k fa fd [x] sp) (hbind : ∀ (s : Shared) (u : Value), BindsTo s fd ⟨[u], []⟩ [(x, u)])
    (hsp : ∀ H : Hp, Only H → SqL K H a (ns.map V.int) → sp [.ref a] H (fun v _ => v = .bl true) fun _ _ _ => False) :
    codeAny (model P w) callerA (.call (.ref fa) ⟨[.ref a], []⟩) (fun r s' => r = .ok (.ret (.bool true)) ∧ OldK s1.heap s'.heap ∧ s'.os = s1.os ∧ AllBare s'.gens) s1 := by
  have rv := vals_ints hi
  have go : ∀ H : Hp, Only H → SqL K H a (ns.map V.int) → HOk P w H s1.heap → (∀ b, H b ≠ none → b = a) → (H a ≠ none → K.lookup a = none) →
      codeAny (model P w) callerA (.call (.ref fa) ⟨[.ref a], []⟩) (fun r s' => r = .ok (.ret (.bool true)) ∧ OldK s1.heap s'.heap ∧ s'.os = s1.os ∧ AllBare s'.gens) s1 := by
    intro H only hS ok own lacks
    have other : ∀ {b : Addr}, b ≠ a → H b = none := fun {b} h => by
      cases q : H b with
      | none => rfl
      | some u => exact absurd (own b (by rw [q]; simp)) h
    have below : ∀ {b : Addr} {m : Str → Option Value}, s1.heap.Ns b m → (hidT s1.heap H).Ns b m := fun {b m} ⟨o, es, ep, e, d, r⟩ => by
      refine ⟨o, es, ep, hidT_get e (other fun z => ?_), d, r⟩
      rw [z, ha] at e
      cases e
      cases d
    have kin : K.In (hidT s1.heap H) := fun b o e => by
      refine hidT_get (KX b o e) ?_
      cases q : H b with
      | none => rfl
      | some u =>
        have z := own b (by rw [q]; simp)
        subst z
        rw [lacks (by rw [q]; simp)] at e
        cases e
    have md : Mod K mg (hidT s1.heap H) := ⟨kin, below hns, ⟨mb, below hb, hbb⟩, by
      obtain ⟨mc, h1, h2⟩ := hlim
      exact ⟨mc, below h1, h2⟩⟩
    have e0 : Env0 P w K mg (hidT s1.heap H) callerA [] s1 H := ⟨rfl, md, fun b o e => of_hidT e, Nat.le_of_eq (hidT_size _ _), trivial, fun b z => absurd (show b ∈ ([] : List Addr) from z) List.not_mem_nil, ok, .of_eq hg⟩
    refine codeAny_mono ((F _ kin (below hns)).run callerA [] s1 H ⟨[.ref a], []⟩ [.ref a] [.ref a] _ _ rfl hr e0 (hbind s1 (.ref a)) (.cons rfl .nil) (hsp H only hS)) fun r s' h => ?_
    match r, h with
    | .ok (.ret u), ⟨v, H', os, bare, un, ok', r', q⟩ =>
      have q' : v = .bl true := q
      subst q'
      have r2 : u = Value.bool true := r'
      subst r2
      refine ⟨rfl, OldK.of_keep fun b o e => ?_, os, bare⟩
      rcases only b with z | ⟨ob, xs, z⟩
      · exact un.keep b o e z (fun y => absurd (show b ∈ ([] : List Addr) from y) List.not_mem_nil) List.not_mem_nil
      · have z2 := un.frzs b ob _ z
        obtain ⟨e1, _⟩ := ok b _ z
        obtain ⟨e2, _⟩ := ok' b _ z2
        rw [e] at e1
        cases e1
        exact e2
  cases hk : K.lookup a with
  | some o =>
    have e := KX a o hk
    rw [ha] at e
    cases e
    exact go (fun _ => none) (fun _ => .inl rfl) (.inr ⟨_, vs.toArray, _, hk, rfl, rfl, rfl, by rw [List.size_toArray, hi.length]; exact hl, by simpa using rv⟩) (fun b u z => by cases z) (fun b z => absurd rfl z) fun z => absurd rfl z
  | none =>
    have at_ : ∀ b, (b = a ∧ (fun b => if b = a then some (HO.frz { cls := .type "list", data := .seq vs.toArray } (.lst (ns.map V.int))) else none) b = some (HO.frz { cls := .type "list", data := .seq vs.toArray } (.lst (ns.map V.int)))) ∨ (b ≠ a ∧ (fun b => if b = a then some (HO.frz { cls := .type "list", data := .seq vs.toArray } (.lst (ns.map V.int))) else none) b = none) := fun b => by
      by_cases hb : b = a
      · exact .inl ⟨hb, if_pos hb⟩
      · exact .inr ⟨hb, if_neg hb⟩
    refine go (fun b => if b = a then some (.frz { cls := .type "list", data := .seq vs.toArray } (.lst (ns.map V.int))) else none) (fun b => ?_) (.inl (.inr ⟨{ cls := .type "list", data := .seq vs.toArray }, if_pos rfl⟩)) (fun b u z => ?_) (fun b z => ?_) fun _ => hk
    · rcases at_ b with ⟨_, e⟩ | ⟨_, e⟩
      · exact .inr ⟨_, _, e⟩
      · exact .inl e
    · rcases at_ b with ⟨e1, e⟩ | ⟨_, e⟩
      · rw [e] at z
        cases z
        subst e1
        exact ⟨ha, by rw [List.length_map]; exact hl, vs, _, rv, ha⟩
      · rw [e] at z
        cases z
    · rcases at_ b with ⟨e1, _⟩ | ⟨_, e⟩
      · exact e1
      · exact absurd e z
theorem walk_ofG {l : PySem.W.OpenLaw} {n k : Nat} {q : Program} {loose : List Str} {XP : (Str → Option Value) → Heap → Prop} {YP : World → Heap → Prop} {d : DefRec} {x : Str}
    (hn : l.most = some n) (hn2 : n ≤ sizeLine) (hdf : d.params.defaults = []) (hr : Room k callerA)
    (F : ∀ (w : World) (mg : Str → Option Value) (fa : Addr) (h : Heap), YP w h → h.Ns mainGlobals mg → mg d.name = some (.ref fa) →
      ∃ (K : Frag) (fd : FuncData) (sp : Sp), K.In h ∧ (∀ (s : Shared) (u : Value), BindsTo s fd ⟨[u], []⟩ [(x, u)]) ∧ (∀ (H : Hp) (a : Addr) (ns : List Int), ns.length ≤ n → Only H → SqL K H a (ns.map V.int) → sp [.ref a] H (fun v _ => v = .bl true) fun _ _ _ => False) ∧
        ∀ base : Heap, K.In base → base.Ns mainGlobals mg → FnOkG l.prog w K mg base CX0 k fa fd [x] sp) : PySem.W.WalkO q loose XP YP l.row.toRowW d [] (fun f vs => PySem.call f vs) := by
  refine Att.attach_call hn hdf fun w s0 s1 mg mb fa o pm cd doc a vs ns G Y ho hd hcd hmg hobj hints hlen hg => ?_
  obtain ⟨K, fd, sp, KX, hb, hsp, hF⟩ := F w mg fa _ Y G.T.g hmg
  exact law_callG KX G.T.g G.T.b G.T.builtins G.T.nolimit hg hobj hints (Nat.le_trans hlen hn2) hr hF hb fun H hO hS => hsp H a ns hlen hO hS
end RC
/-! ## The head's facts of own errors besides -/
namespace RC
open PySem PySem.Spec PyProof.Rows L2 He
open PySem.W (Frag findIn keepIn subIn typeIn hasDictIn mroIn nsIn codeIn)
/-- an error class, its __init__ as the text has it -/
structure ErrD where
  x : Str
  st : Stmt
abbrev EfW : Type := Option (Str × Arguments × FuncBody × Scope × Addr × List Str × Addr)
def efW (K : Frag) (e : ErrD) : EfW := match K.lookup (ma K (ga K e.x) "__init__") with
  | some ⟨_, _, .func fd, _⟩ => some (fd.name, fd.params, fd.body, fd.scope, fd.globals, fd.closure.map (·.1), fd.builtins)
  | _ => none
def ErrD.val (e : ErrD) : EfW := some ("__init__", defArgs e.st, .stmts (defBody e.st), defScope e.st, mainGlobals, ["__class__"], builtinsNs)
/-- the class's object -/
def eClsB (K : Frag) (C : Addr) : Bool := match K.lookup C with
  | some ⟨.type t, _, .cls cd, sl⟩ => t == "type" && (match cd.mro, sl.toList with
    | .ref C' :: bm, [_, _, _, _, some (.builtin n), _] => C' == C && (n == "ValueError.__new__" && (!cd.hasDel && (cd.hasDict && HandSPX.refsVE bm)))
    | _, _ => false)
  | _ => false
theorem eClsB_ok {K : Frag} {C : Addr} (h : eClsB K C = true) : ∃ nm q N bs bm sn sub ab col dd k0 k1 k2 k3 k5, K.lookup C = some (excClassObj nm q C N bs bm true sn sub ab col dd k0 k1 k2 k3 k5 "ValueError.__new__") ∧ HandSPX.refsVE bm = true := by
  unfold eClsB at h
  split at h
  · rename_i t dd cd sl ho
    obtain ⟨h0, h⟩ := ba h
    split at h
    · rename_i C' bm k0 k1 k2 k3 n k5 hm hs
      obtain ⟨h1, h⟩ := ba h
      obtain ⟨h2, h⟩ := ba h
      obtain ⟨h3, h⟩ := ba h
      obtain ⟨h4, h5⟩ := ba h
      have e0 := beq_iff_eq.mp h0
      have e1 := beq_iff_eq.mp h1
      have e2 := beq_iff_eq.mp h2
      have e3 : cd.hasDel = false := by simpa using h3
      subst e0 e1 e2
      obtain ⟨nm, bs, mro, ns, qn, hd, sn, sub, ab, col, del⟩ := cd
      dsimp only at hm e3 h4
      subst hm e3 h4
      have hsl : sl = #[k0, k1, k2, k3, some (.builtin "ValueError.__new__"), k5] := by
        obtain ⟨l⟩ := sl
        have z : l = [k0, k1, k2, k3, some (.builtin "ValueError.__new__"), k5] := hs
        rw [z]
      subst hsl
      exact ⟨nm, qn, ns, bs, bm, sn, sub, ab, col, dd, k0, k1, k2, k3, k5, ho, h5⟩
    · cases h
  · cases h
/-- the cell of __class__ -/
def celB (K : Frag) (cl : List (Str × Addr)) (C : Addr) : Bool := match cl with
  | [(_, cc)] => (match K.lookup cc with
    | some ⟨_, _, .cell (some (.ref D)), _⟩ => D == C
    | _ => false)
  | _ => false
theorem celB_ok {K : Frag} {cl : List (Str × Addr)} {C : Addr} (h : celB K cl C = true) : ∃ y cc v d s, cl = [(y, cc)] ∧ K.lookup cc = some ⟨v, d, .cell (some (.ref C)), s⟩ := by
  unfold celB at h
  split at h
  · split at h
    · rename_i cc _ v d D s q
      have e := beq_iff_eq.mp h
      subst e
      exact ⟨_, _, _, _, _, rfl, q⟩
    · cases h
  · cases h
/-- the code's file -/
def filB (K : Frag) (cd : Value) (file : Str) : Bool := match cd with
  | .ref c => (match K.lookup c with
    | some ⟨_, _, .fields vs, _⟩ => (match (vs[2]? : Option Value) with
      | some (Value.str f _) => file == f
      | _ => false)
    | _ => false)
  | _ => false
theorem filB_ok {K : Frag} {cd : Value} {file : Str} (h : filB K cd file = true) : ∃ c v d vs s f t, cd = .ref c ∧ K.lookup c = some ⟨v, d, .fields vs, s⟩ ∧ vs[2]? = some (.str f t) ∧ (file == f) = true := by
  unfold filB at h
  split at h
  · split at h
    · rename_i q
      split at h
      · rename_i q2
        exact ⟨_, _, _, _, _, _, _, rfl, q, q2, h⟩
      · cases h
    · cases h
  · cases h
/-- the defaults: None -/
def dnoB (K : Frag) (d : Value) : Bool := match d with
  | .ref t => (match K.lookup t with
    | some ⟨_, _, .seq its _, _⟩ => its.toList.length == 1 && its.toList.all fun v => v == Value.none
    | _ => false)
  | _ => false
theorem one_none {its : Array Value} (h1 : (its.toList.length == 1) = true) (h2 : (its.toList.all fun v => v == Value.none) = true) : its = #[.none] := by
  obtain ⟨l⟩ := its
  match l, h1, h2 with
  | [v], _, h2 =>
    have e : v = .none := by simpa using h2
    rw [e]
theorem dnoB_ok {K : Frag} {d : Value} (h : dnoB K d = true) : ∃ (t : Addr) (o : Obj) (n : Nat), d = .ref t ∧ K.lookup t = some o ∧ o.data = .seq #[.none] n := by
  unfold dnoB at h
  split at h
  · split at h
    · rename_i its n _ q
      obtain ⟨h1, h2⟩ := ba h
      have e := one_none h1 h2
      subst e
      exact ⟨_, _, _, rfl, q, rfl⟩
    · cases h
  · cases h
def eFnB (K : Frag) (C f : Addr) (file : Str) : Bool := match K.lookup f with
  | some ⟨_, _, .func fd, _⟩ => codeIn K fd.code fd.qualname && (celB K fd.closure C && (filB K fd.code file && dnoB K fd.defaults))
  | _ => false
/-- the class's facts; file: the program's -/
def eFacB (K : Frag) (file : Str) (x : Str) : Bool :=
  eClsB K (ga K x) && (decide (findIn K (.ref (ga K x)) "__setattr__" = some (some (.builtin "object.__setattr__"))) && (decide (findIn K (.ref (ga K x)) "__getattribute__" = some (some (.builtin "BaseException.__getattribute__"))) && (decide (findIn K (.ref (ga K x)) "__getattr__" = some none) &&
    (decide (findIn K (.ref (ga K x)) "value" = some none) && (decide (findIn K (.ref (ga K x)) "__init__" = some (some (.ref (ma K (ga K x) "__init__")))) && (decide (typeIn K (.ref (ma K (ga K x) "__init__")) = some (.type "function")) && (keepIn K (.ref (ga K x)) &&
      (decide (subIn K (.ref (ga K x)) (.type "BaseException") = some true) && (decide (subIn K (.ref (ga K x)) (.type "ValueError") = some true) && (decide (typeIn K (.ref (ga K x)) = some (.type "type")) && (hasDictIn K (ga K x) && (decide (mroIn K (ga K x) (.ref (ga K x)) = some true) &&
        (PySem.W.excInitIn K (ga K x) vB "ValueError.__new__" && (decide (PySem.W.ks_superIn K (ga K x) (ga K x) "__init__" = some (some (.builtin "ValueError.__init__"))) && (decide (nsIn K cStatics "thirdparty.any" = some none) && (decide (subIn K (.ref (ga K x)) (.ref (ga K x)) = some true) &&
          eFnB K (ga K x) (ma K (ga K x) "__init__") file))))))))))))))))
/-- together: what the rules for the error ask -/
theorem err_of {P : Program} {K : Frag} {mg : Str → Option Value} {e : ErrD} {file : Str} (nsu : mg "super" = none) (top : (P.main.scope.names.lookup ("super" : Str)).isSome = false) (hfile : (P.main.file : Str) = file)
    (ha : ∃ p1 p2 p3, defArgs e.st = eAr p1 p2 p3) (hbo : ∃ q1 q2 q3 q4 q5 q6 q7 q8 q9 q10, defBody e.st = eBo q1 q2 q3 q4 q5 q6 q7 q8 q9 q10 ∧ (q3.endLine == q5.line) = true) (hsc : defScope e.st = eSc)
    (c : efW K e = e.val) (b : eFacB K file e.x = true) : ErrC P K mg (ga K e.x) (ma K (ga K e.x) "__init__") := by
  obtain ⟨b1, b⟩ := ba b
  obtain ⟨b2, b⟩ := ba b
  obtain ⟨b3, b⟩ := ba b
  obtain ⟨b4, b⟩ := ba b
  obtain ⟨b5, b⟩ := ba b
  obtain ⟨b6, b⟩ := ba b
  obtain ⟨b7, b⟩ := ba b
  obtain ⟨b8, b⟩ := ba b
  obtain ⟨b9, b⟩ := ba b
  obtain ⟨b10, b⟩ := ba b
  obtain ⟨b11, b⟩ := ba b
  obtain ⟨b12, b⟩ := ba b
  obtain ⟨b13, b⟩ := ba b
  obtain ⟨b14, b⟩ := ba b
  obtain ⟨b15, b⟩ := ba b
  obtain ⟨b16, b⟩ := ba b
  obtain ⟨b17, b18⟩ := ba b
  refine ⟨eClsB_ok b1, of_decide_eq_true b2, of_decide_eq_true b3, of_decide_eq_true b4, of_decide_eq_true b5, of_decide_eq_true b6, of_decide_eq_true b7, b8, of_decide_eq_true b9, of_decide_eq_true b10, of_decide_eq_true b11, b12, of_decide_eq_true b13, b14, of_decide_eq_true b15, of_decide_eq_true b16, nsu, top, ?_⟩
  clear b1 b2 b3 b4 b5 b6 b7 b8 b9 b10 b11 b12 b13 b14 b15 b16 b17
  obtain ⟨p1, p2, p3, ea⟩ := ha
  obtain ⟨q1, q2, q3, q4, q5, q6, q7, q8, q9, q10, eb, hpos⟩ := hbo
  unfold efW at c
  unfold eFnB at b18
  cases q : K.lookup (ma K (ga K e.x) "__init__") with
  | none =>
    rw [q] at b18
    cases b18
  | some o =>
    obtain ⟨oc, od, dt, osl⟩ := o
    rw [q] at b18 c
    cases dt with
    | func fd =>
      obtain ⟨n1, n2, n3, n4, n5, n6, n7, n8, n9, n10, n11, n12, n13, n14, n15⟩ := fd
      have c2 : (some (n1, n3, n4, n5, n6, n7.map (·.1), n15) : EfW) = some (("__init__" : Str), defArgs e.st, FuncBody.stmts (defBody e.st), defScope e.st, mainGlobals, [("__class__" : Str)], builtinsNs) := c
      rw [ea, eb, hsc] at c2
      simp only [Option.some.injEq, Prod.mk.injEq] at c2
      obtain ⟨h1, h3, h4, h5, h6, h7, h8⟩ := c2
      subst h1 h3 h4 h5 h6 h8
      have b19 : (codeIn K n13 n2 && (celB K n7 (ga K e.x) && (filB K n13 file && dnoB K n8))) = true := b18
      obtain ⟨d1, d⟩ := ba b19
      obtain ⟨d2, d⟩ := ba d
      obtain ⟨d3, d4⟩ := ba d
      obtain ⟨y, cc, cl, cld, csl, rfl, k1⟩ := celB_ok d2
      obtain ⟨cda, ccl, cdd, vs, ccs, f, tf, rfl, k2, k3, k4⟩ := filB_ok d3
      obtain ⟨Td, oT, nT, rfl, k5, k6⟩ := dnoB_ok d4
      have ey : y = "__class__" := by simpa using h7
      subst ey
      exact ⟨_, _, _, _, _, _, _, _, _, _, _, _, _, _, _, _, cda, cc, vs, f, tf, p1, p2, p3, q1, q2, q3, q4, q5, q6, q7, q8, q9, q10, rfl, d1, k2, k3, by rw [hfile]; exact k4, k1, hpos, Td, oT, nT, rfl, k5, k6⟩
    | _ => cases b18
/-! ### the hook: HookR's and the errors' -/
abbrev AlE : Type := AlR × (List EfW × Bool)
def obsE (fa : List Fa) (fn : List DefD) (cs : List Str) (ks : List Kq) (ns : List Nf) (es : List ErrD) (file : Str) (K : Frag) : AlE := (obsR fa fn cs ks ns K, (es.map (efW K), es.all fun e => eFacB K file e.x))
def valE (fn : List DefD) (es : List ErrD) : AlE := (valR fn, (es.map ErrD.val, true))
def SaysE (fa : List Fa) (fn : List DefD) (cs : List Str) (ks : List Kq) (ns : List Nf) (es : List ErrD) (file : Str) (K : Frag) : Prop := obsE fa fn cs ks ns es file K = valE fn es
def obsEG (n : Nat) (fa : List Fa) (fn : List DefD) (cs : List Str) (ks : List Kq) (ns : List Nf) (es : List ErrD) (file : Str) (g : Addr → Option Obj) : AlE := obsE fa fn cs ks ns es file (frG g (cStatics :: asD g n))
def hookE (n : Nat) (fa : List Fa) (fn : List DefD) (cs : List Str) (ks : List Kq) (ns : List Nf) (es : List ErrD) (file : Str) : PySem.W.Hook where
  α := AlE
  obs := fun s => obsEG n fa fn cs ks ns es file s.heap.get?
  val := fun _ => valE fn es
  says := fun _ h => ∃ K : Frag, K.In h ∧ SaysE fa fn cs ks ns es file K
  of := fun _ _ e => ⟨_, frG_in, e⟩
  keeps := fun _ _ _ ⟨K, hK, c⟩ k => ⟨K, PySem.W.Frag.In.keeps hK k, c⟩
theorem obsEG_eq {n : Nat} {fa : List Fa} {fn : List DefD} {cs : List Str} {ks : List Kq} {ns : List Nf} {es : List ErrD} {file : Str} {g : Addr → Option Obj} {s : Shared} (h : ∀ a, g a = s.heap.get? a) : obsEG n fa fn cs ks ns es file g = (hookE n fa fn cs ks ns es file).obs s := by
  have e : g = s.heap.get? := funext h
  rw [e] <;> rfl
section
variable {fa : List Fa} {fn : List DefD} {cs : List Str} {ks : List Kq} {ns : List Nf} {es : List ErrD} {file : Str} {K : Frag}
theorem SaysE.r (c : SaysE fa fn cs ks ns es file K) : SaysR fa fn cs ks ns K := congrArg (fun z : AlE => z.1) c
theorem SaysE.err (c : SaysE fa fn cs ks ns es file K) (i : Nat) {e : ErrD} (h : es[i]? = some e := by rfl) : efW K e = e.val ∧ eFacB K file e.x = true := by
  have c1 : es.map (efW K) = es.map ErrD.val := congrArg (fun z : AlE => z.2.1) c
  have c2 : (es.all fun e => eFacB K file e.x) = true := congrArg (fun z : AlE => z.2.2) c
  refine ⟨?_, List.all_eq_true.mp c2 e (List.mem_of_getElem? h)⟩
  have z : (es.map (efW K))[i]? = (es.map ErrD.val)[i]? := by rw [c1]
  rw [List.getElem?_map, List.getElem?_map, h] at z
  exact Option.some.inj z
theorem sub_self {x : Str} (b : eFacB K file x = true) : subIn K (.ref (ga K x)) (.ref (ga K x)) = some true := by
  unfold eFacB at b
  exact of_decide_eq_true (ba (ba (ba (ba (ba (ba (ba (ba (ba (ba (ba (ba (ba (ba (ba (ba (ba b).2).2).2).2).2).2).2).2).2).2).2).2).2).2).2).2).1
end
end RC
/-! ## for i in range(a, b), a and b of any size -/
namespace RC
open PySem PySem.Spec PyProof.Rows L2
theorem turn_long {P : Program} {w : World} {K : PySem.W.Frag} {tg : Expr} (it : Addr) (lo : Int) (n : Nat) : Turn P w K tg (Itr lo n) [it] it (fun i h => IsLongIter h it (lo + (i : Nat) * 1) ((n : Int) - (i : Nat)) 1) where
  mem := List.mem_cons_self
  obj := fun i h st b hb => by
    obtain rfl := List.mem_singleton.mp hb
    exact ⟨_, st, fun v z => by
      have z2 : Data.fields _ = Data.cell v := z
      cases z2⟩
  keep := fun i h h' st k => k it List.mem_cons_self _ st
  item := fun X hP hw hK hc i pins s σ H E I hf st hg => by
    subst hP hw hK
    obtain ⟨f0, f1, f2, f3, f4, f5⟩ := hf it List.mem_cons_self
    refine (Walks.longrange (prog := X.prog) (w := X.w) (A := X.A) (I.ok.hd hc) it lo 1 n).item i s _ _ hg st fun v h' tk ⟨t, e⟩ st' kk => ?_
    subst e
    have I1 : Inv X pins σ H { s with heap := h', toks := tk } := I.turned (fun b o hb e => kk b o (fun z => hb (List.mem_singleton.mp z)) e) f0 f1 f3 f4 f5
    exact ⟨_, rfl, go_of (s := { s with heap := h', toks := tk }) (n := "longrange_iterator") st' rfl rfl (by decide) ⟨.int (lo + i), H, I1, ⟨t, by rw [Int.mul_one]⟩, ⟨rfl, rfl⟩, st', fun b hb => (hf b hb).1⟩⟩
  done := fun X hP hw hK hc i pins s σ H E I hf st hg => by
    subst hP hw hK
    obtain ⟨f0, f1, f2, f3, f4, f5⟩ := hf it List.mem_cons_self
    have le : n ≤ i := hg
    exact wpAny_pyNext_long_end (I.ok.hd hc) st (by omega) fun h' eb => ⟨rfl, I.turned (t' := s.toks) (fun b o hb e => eb b o hb e) f0 f1 f3 f4 f5⟩
  self := fun _ _ _ _ _ st h => wpAny_pyIter_longiter st h
section
variable {X : Cx} {tg : Expr}
def iRngL (ta : TA) : TI := fun σ H R => ta σ H fun vs H1 => ∃ i j : Int, vs = [.int i, .int j] ∧ R (Itr i (j - i).toNat) H1
theorem pi_rangeL {a b : Expr} {ta : TA} {p pos : Pos} (hg : Gl X "range") (hm : X.mg "range" = none) (ha : PA X [a, b] ta) (hs : starEach [a, b] X.env = [(false, eval a X.env), (false, eval b X.env)] := by rfl) (hs2 : starEach [b] X.env = [(false, eval b X.env)] := by rfl) : PI X tg (.Call (.Name "range" p) [a, b] [] pos) (iRngL ta) := by
  refine ⟨fun pins s σ H R I h => Call_ (ld_blt I hg hm boot_range (PyProof.Rows.callWith_type1 (thn (ha.run pos pins s σ H _ I h) fun us s1 ⟨vs, H1, I1, r1, i, j, e, q⟩ => ?_) (by rw [hs, hs2]) (by rw [hs2]; rfl)))⟩
  subst e
  cases r1 with
  | cons r rr =>
    cases rr with
    | cons r' rr =>
      cases rr
      obtain ⟨t, rfl⟩ := r
      obtain ⟨t', rfl⟩ := r'
      refine call_range_2 ?_
      have size : (((j - i).toNat : Nat) : Int) - ((0 : Nat) : Int) = Builtin.Range.rangeSize i j 1 := by
        rw [rangeSize_one]
        split <;> omega
      have first : i + ((0 : Nat) : Int) * 1 = i := by simp
      have new : ∀ {o o' : Obj} {tk : Nat}, Inv X pins σ H1 { s1 with heap := (s1.heap.push o).push o', toks := tk } := fun {o o' tk} => I1.kept fun b u e => Heap.get?_push_of_some _ (Heap.get?_push_of_some _ e)
      have fp : ∀ {o : Obj} {tk : Nat} {b : Addr}, b ∈ [(s1.heap.push o).objs.size] → FpOk X pins H1 b := fun {o tk b} hb => by
        obtain rfl := List.mem_singleton.mp hb
        have J : Inv X pins σ H1 { s1 with heap := s1.heap.push o, toks := tk } := I1.kept fun b u e => Heap.get?_push_of_some _ e
        exact J.fpOk (Nat.le_refl _) (J.hok.fresh (Nat.le_refl _))
      cases hb : Builtin.Range.small i j 1 with
      | true =>
        refine wpAny_pyIter_range (IsRange.new ..) hb ⟨_, [_], _, _, H1, rfl, new, turn_range _ i (j - i).toNat, ?_, fun b hb => fp (tk := 0) hb, q⟩
        show IsRangeIter _ _ (i + ((0 : Nat) : Int) * 1) ((((j - i).toNat : Nat) : Int) - ((0 : Nat) : Int)) 1
        rw [first, size]
        exact Heap.get?_push_size _ rfl
      | false =>
        refine wpAny_pyIter_longrange (IsRange.new ..) hb ⟨_, [_], _, _, H1, rfl, new, turn_long _ i (j - i).toNat, ?_, fun b hb => fp (tk := 0) hb, q⟩
        show IsLongIter _ _ (i + ((0 : Nat) : Int) * 1) ((((j - i).toNat : Nat) : Int) - ((0 : Nat) : Int)) 1
        rw [first, size]
        exact Heap.get?_push_size _ rfl
def RnL (vs : List V) (H : Hp) (R : It → Hp → Prop) : Prop := ∃ i j : Int, vs = [.int i, .int j] ∧ R (Itr i (j - i).toNat) H
theorem r_rngL {tA : TA} {σ : L2.St} {H : Hp} {R : It → Hp → Prop} (h : tA σ H fun vs H1 => RnL vs H1 R) : iRngL tA σ H R := h
theorem r_rngL' {H : Hp} {i j : Int} {n : Nat} {R : It → Hp → Prop} (e : (j - i).toNat = n) (h : R (Itr i n) H) : RnL [.int i, .int j] H R := ⟨i, j, rfl, by rw [e]; exact h⟩
end
end RC
/-! ## isinstance of a kept error; C(e, ..) in a try -/
namespace RC
open PySem PySem.Spec PyProof.Rows L2
open PySem.W (Frag)
section
variable {X : Cx}
/-- isinstance(err, c), err a kept error -/
def rIsErr (P : Program) (K : Frag) (mg : Str → Option Value) : List V → Hp → VK → Prop := fun xs H Q => ∃ (a C fI d : Addr) (v c : V) (cv : Value) (b : Bool), xs = [.ref a, c] ∧ H a = some (ErrO (.ref C) (some d) a) ∧ H d = some (.xd [(valS, v)]) ∧ ErrC P K mg C fI ∧ ClsX K C ∧ ClsV c cv ∧ PySem.W.kitOne K (.ref C) cv = some b ∧ Q (.bl b) H
theorem call_isErr : CallR X (.builtin "isinstance") (rIsErr X.prog X.K X.mg) := by
  intro pins s σ H xs us Q I r h
  obtain ⟨a, C, fI, d, v, c, cv, b, rfl, ea, ed, T, x, k, e, q⟩ := h
  obtain ⟨u1, u2, rfl, r1, r2⟩ := vals2 r
  have e2 := k.eq r2
  subst e2
  have e1 : u1 = Value.ref a := r1
  subst e1
  obtain ⟨⟨oe, vs, ho, hz, hd⟩, _, _⟩ := I.hok a _ ea
  obtain ⟨mA, hns, hr⟩ := (show ObjOk X.prog X.w H s.heap d (.xd [(valS, v)]) from I.hok d _ ed)
  obtain ⟨od, hod, _⟩ := lookIn_ns hns
  have J : PySem.W.InstAt s.heap a oe C (some od) := ⟨ho, hz.1, by unfold PySem.W.notCls; rw [hd] <;> rfl, by rw [hz.2]; exact hod⟩
  have hcl : (PySem.W.clsIn X.K C).isSome = true := by
    obtain ⟨nm, q, N, bs, bm, sn, sub, ab, col, dd, k0, k1, k2, k3, k5, hC, _⟩ := T.ini
    unfold PySem.W.clsIn
    rw [hC]
    rfl
  exact PySem.W.kia_one (PySem.W.kitx_exc hcl T.ga T.gg T.exC x.ha x.hn x.htk x.hm) I.kIn J e (fun z => nomatch z) fun tk => ⟨.bl b, H, I.tok tk, rfl, q⟩
end
section
variable {X : Cx} {k : Nat} {f C : Addr} {fd : FuncData} {ps : List Str} {sp : Sp} {W : WX} {x : Str} {p pos : Pos} {e : Expr} {es : List Expr} {t : TA}
def tMakeW (C : Addr) (sp : Sp) (W : WX) (t : TA) : TE := fun σ H Q => tMake C sp [] (WE W σ) t σ H Q
theorem r_makeW {σ : L2.St} {H : Hp} {Q : VK} (h : t σ H fun vs H1 => MakeV C sp (vs ++ []) H1 Q (WE W σ)) : tMakeW C sp W t σ H Q := h
theorem pe_makeW (M : Mk X.K C f) (F : FnOk X.prog X.w X.K X.mg X.base (L2.CX X.prog X.w) k f fd ps sp) (hr : Room (k + 1) X.A) (hg : Gl X x) (hm : X.mg x = some (.ref C)) (hb : Binds X.K fd ps []) (tk : Takes X W)
    (ha : PA X (e :: es) t) (hdb : (x == ("__debug__" : Str)) = false := by decide) (he : starEach (e :: es) X.env = (false, eval e X.env) :: starEach es X.env := by rfl) (hpl : (backTo pos (starEach es X.env)).any (·.1) = false := by rfl) :
    PE X (.Call (.Name x p) (e :: es) [] pos) (tMakeW C sp W t) := by
  refine ⟨fun pins s σ H Q I h => wpAny_Call_Name_kw (ld_glob I hg hm (PySem.W.callWith_K (h₀ := X.base) I.ok.mod.kin M.kp (thn (ha.run pos pins s σ H _ I h) fun us s1 ⟨vs, H1, I1, r, q⟩ => ⟨I1.kIn, ?_⟩) he hpl) hdb)⟩
  have hq := q (s1.heap.objs.size + 1) s1.heap.objs.size (I1.hok.fresh (Nat.le_succ _)) (I1.hok.fresh (Nat.le_refl _)) (Nat.ne_of_lt (Nat.lt_succ_self _))
  rw [List.append_nil] at hq
  have I2 := Inv.made (C := C) I1
  have r2 : Vals (V.ref (s1.heap.objs.size + 1) :: vs) (Value.ref (s1.heap.objs.size + 1) :: us) := .cons rfl r
  have hl : (Value.ref (s1.heap.objs.size + 1) :: us ++ []).length = ps.length := by
    rw [List.append_nil, ← r2.length]
    exact F.len _ _ _ _ hq
  have bind := hb _ (Value.ref (s1.heap.objs.size + 1) :: us) I2.kIn hl
  rw [List.append_nil] at bind
  refine wpAny_call (make_map (f := f) I1.kIn M.makes M.init (beq_iff_eq.mp M.fn) (codeAny_mono (F.run _ X.stack _ _ ⟨Value.ref (s1.heap.objs.size + 1) :: us, []⟩ (Value.ref (s1.heap.objs.size + 1) :: us) _ _ (WE W σ) (hr.make C us []) (I2.env0.make C us []) bind r2 hq) fun r s' hq' => ?_))
  match r, hq' with
  | .error er, hq' => exact passAt tk σ pins _ _ er s' I2 hq'
  | .ok (.ret u), hq' =>
    obtain ⟨v, H', I3, rv, ev, q3⟩ := I2.after hq'
    subst ev
    exact ⟨rv, ⟨V.ref (s1.heap.objs.size + 1), H', I3, rfl, q3⟩⟩
end
end RC
namespace RC
open PySem PySem.Spec PyProof.Rows L2 He
abbrev PR : Program := (PySem.W.OpenLaw.row PySem.Challenge.rw_rollclerk_k37_rolls_told_back).prog
def top (i : Nat) : Stmt := PySem.Challenge.pw_rollclerk_k37_rolls_told_back.main.body.getD i (.Pass ⟨0, 0, 0, 0⟩)
abbrev s_is_whole : Stmt := (top 9)
abbrev N_is_whole : List Str := ["value"]
theorem sc_is_whole : FnScope N_is_whole ["value"] (defScope s_is_whole) := ⟨rfl, rfl, rfl, by decide +kernel, rfl, by decide +kernel, by decide +kernel⟩
abbrev s_check_number : Stmt := (top 10)
abbrev N_check_number : List Str := ["value", "least"]
theorem sc_check_number : FnScope N_check_number ["value", "least"] (defScope s_check_number) := ⟨rfl, rfl, rfl, by decide +kernel, rfl, by decide +kernel, by decide +kernel⟩
abbrev s_is_amount : Stmt := (top 11)
abbrev N_is_amount : List Str := ["value"]
theorem sc_is_amount : FnScope N_is_amount ["value"] (defScope s_is_amount) := ⟨rfl, rfl, rfl, by decide +kernel, rfl, by decide +kernel, by decide +kernel⟩
abbrev s_check_amount : Stmt := (top 12)
abbrev N_check_amount : List Str := ["value"]
theorem sc_check_amount : FnScope N_check_amount ["value"] (defScope s_check_amount) := ⟨rfl, rfl, rfl, by decide +kernel, rfl, by decide +kernel, by decide +kernel⟩
abbrev s_check_list : Stmt := (top 13)
abbrev N_check_list : List Str := ["value"]
theorem sc_check_list : FnScope N_check_list ["value"] (defScope s_check_list) := ⟨rfl, rfl, rfl, by decide +kernel, rfl, by decide +kernel, by decide +kernel⟩
abbrev s_check_amounts : Stmt := (top 14)
abbrev N_check_amounts : List Str := ["value", "amount"]
theorem sc_check_amounts : FnScope N_check_amounts ["value"] (defScope s_check_amounts) := ⟨rfl, rfl, rfl, by decide +kernel, rfl, by decide +kernel, by decide +kernel⟩
abbrev s_Roll_init : Stmt := (inClass (top 16) 0)
abbrev N_Roll_init : List Str := ["self", "worths", "worth", "firsts"]
theorem sc_Roll_init : FnScope N_Roll_init ["self", "worths"] (defScope s_Roll_init) := ⟨rfl, rfl, rfl, by decide +kernel, rfl, by decide +kernel, by decide +kernel⟩
abbrev s_Roll_worths : Stmt := (inClass (top 16) 1)
abbrev N_Roll_worths : List Str := ["self"]
theorem sc_Roll_worths : FnScope N_Roll_worths ["self"] (defScope s_Roll_worths) := ⟨rfl, rfl, rfl, by decide +kernel, rfl, by decide +kernel, by decide +kernel⟩
abbrev s_Roll_len : Stmt := (inClass (top 16) 2)
abbrev N_Roll_len : List Str := ["self"]
theorem sc_Roll_len : FnScope N_Roll_len ["self"] (defScope s_Roll_len) := ⟨rfl, rfl, rfl, by decide +kernel, rfl, by decide +kernel, by decide +kernel⟩
abbrev s_Roll_lap : Stmt := (inClass (top 16) 3)
abbrev N_Roll_lap : List Str := ["self"]
theorem sc_Roll_lap : FnScope N_Roll_lap ["self"] (defScope s_Roll_lap) := ⟨rfl, rfl, rfl, by decide +kernel, rfl, by decide +kernel, by decide +kernel⟩
abbrev s_Roll_worth : Stmt := (inClass (top 16) 4)
abbrev N_Roll_worth : List Str := ["self", "at"]
theorem sc_Roll_worth : FnScope N_Roll_worth ["self", "at"] (defScope s_Roll_worth) := ⟨rfl, rfl, rfl, by decide +kernel, rfl, by decide +kernel, by decide +kernel⟩
abbrev s_Roll_upto : Stmt := (inClass (top 16) 5)
abbrev N_Roll_upto : List Str := ["self", "many"]
theorem sc_Roll_upto : FnScope N_Roll_upto ["self", "many"] (defScope s_Roll_upto) := ⟨rfl, rfl, rfl, by decide +kernel, rfl, by decide +kernel, by decide +kernel⟩
abbrev s_Roll_total : Stmt := (inClass (top 16) 6)
abbrev N_Roll_total : List Str := ["self", "start", "length"]
theorem sc_Roll_total : FnScope N_Roll_total ["self", "start", "length"] (defScope s_Roll_total) := ⟨rfl, rfl, rfl, by decide +kernel, rfl, by decide +kernel, by decide +kernel⟩
abbrev s_Roll_mirrored : Stmt := (inClass (top 16) 8)
abbrev N_Roll_mirrored : List Str := ["self"]
theorem sc_Roll_mirrored : FnScope N_Roll_mirrored ["self"] (defScope s_Roll_mirrored) := ⟨rfl, rfl, rfl, by decide +kernel, rfl, by decide +kernel, by decide +kernel⟩
abbrev s_Roll_eq : Stmt := (inClass (top 16) 9)
abbrev N_Roll_eq : List Str := ["self", "other"]
theorem sc_Roll_eq : FnScope N_Roll_eq ["self", "other"] (defScope s_Roll_eq) := ⟨rfl, rfl, rfl, by decide +kernel, rfl, by decide +kernel, by decide +kernel⟩
abbrev s_check_roll : Stmt := (top 17)
abbrev N_check_roll : List Str := ["value"]
theorem sc_check_roll : FnScope N_check_roll ["value"] (defScope s_check_roll) := ⟨rfl, rfl, rfl, by decide +kernel, rfl, by decide +kernel, by decide +kernel⟩
abbrev s_short_strips : Stmt := (top 19)
abbrev N_short_strips : List Str := ["roll", "found", "start", "length", "worth"]
theorem sc_short_strips : FnScope N_short_strips ["roll"] (defScope s_short_strips) := ⟨rfl, rfl, rfl, by decide +kernel, rfl, by decide +kernel, by decide +kernel⟩
abbrev s_rests_of : Stmt := (top 20)
abbrev N_rests_of : List Str := ["roll", "worth"]
theorem sc_rests_of : FnScope N_rests_of ["roll"] (defScope s_rests_of) := ⟨rfl, rfl, rfl, by decide +kernel, rfl, by decide +kernel, by decide +kernel⟩
abbrev s_rests : Stmt := (top 21)
abbrev N_rests : List Str := ["roll"]
theorem sc_rests : FnScope N_rests ["roll"] (defScope s_rests) := ⟨rfl, rfl, rfl, by decide +kernel, rfl, by decide +kernel, by decide +kernel⟩
abbrev s_least_form : Stmt := (top 22)
abbrev N_least_form : List Str := ["row", "found", "some", "at"]
theorem sc_least_form : FnScope N_least_form ["row"] (defScope s_least_form) := ⟨rfl, rfl, rfl, by decide +kernel, rfl, by decide +kernel, by decide +kernel⟩
abbrev s_first_form : Stmt := (top 23)
abbrev N_first_form : List Str := ["roll"]
theorem sc_first_form : FnScope N_first_form ["roll"] (defScope s_first_form) := ⟨rfl, rfl, rfl, by decide +kernel, rfl, by decide +kernel, by decide +kernel⟩
abbrev s_rows_of : Stmt := (top 24)
abbrev N_rows_of : List Str := ["many", "lap", "found", "first", "rest"]
theorem sc_rows_of : FnScope N_rows_of ["many", "lap"] (defScope s_rows_of) := ⟨rfl, rfl, rfl, by decide +kernel, rfl, by decide +kernel, by decide +kernel⟩
abbrev s_forms_of : Stmt := (top 25)
abbrev N_forms_of : List Str := ["many", "lap", "row"]
theorem sc_forms_of : FnScope N_forms_of ["many", "lap"] (defScope s_forms_of) := ⟨rfl, rfl, rfl, by decide +kernel, rfl, by decide +kernel, by decide +kernel⟩
abbrev s_told_back : Stmt := (top 27)
abbrev N_told_back : List Str := ["many", "lap", "goes", "lacks", "found", "row", "some", "bad", "amount"]
theorem sc_told_back : FnScope N_told_back ["many", "lap", "goes", "lacks"] (defScope s_told_back) := ⟨rfl, rfl, rfl, by decide +kernel, rfl, by decide +kernel, by decide +kernel⟩
abbrev s_l_mixed : Stmt := (top 29)
abbrev N_l_mixed : List Str := ["_law_cell", "_law_k", "_law_number"]
theorem sc_l_mixed : FnScope N_l_mixed ["_law_cell", "_law_k"] (defScope s_l_mixed) := ⟨rfl, rfl, rfl, by decide +kernel, rfl, by decide +kernel, by decide +kernel⟩
abbrev s_l_purse : Stmt := (top 30)
abbrev N_l_purse : List Str := ["_law_script", "_law_at", "_law_cell"]
theorem sc_l_purse : FnScope N_l_purse ["_law_script", "_law_at"] (defScope s_l_purse) := ⟨rfl, rfl, rfl, by decide +kernel, rfl, by decide +kernel, by decide +kernel⟩
abbrev s_l_draw : Stmt := (top 31)
abbrev N_l_draw : List Str := ["_law_purse_here", "_law_out_of", "_law_drawn", "_law_number", "_law_k"]
theorem sc_l_draw : FnScope N_l_draw ["_law_purse_here", "_law_out_of"] (defScope s_l_draw) := ⟨rfl, rfl, rfl, by decide +kernel, rfl, by decide +kernel, by decide +kernel⟩
abbrev s_l_worths_drawn : Stmt := (top 32)
abbrev N_l_worths_drawn : List Str := ["_law_purse_here", "_law_most", "_law_greatest", "_law_some", "_law_turn"]
theorem sc_l_worths_drawn : FnScope N_l_worths_drawn ["_law_purse_here", "_law_most", "_law_greatest"] (defScope s_l_worths_drawn) := ⟨rfl, rfl, rfl, by decide +kernel, rfl, by decide +kernel, by decide +kernel⟩
abbrev s_l_sum : Stmt := (top 33)
abbrev N_l_sum : List Str := ["_law_some", "_law_start", "_law_length", "_law_laps", "_law_rest", "_law_total", "_law_at"]
theorem sc_l_sum : FnScope N_l_sum ["_law_some", "_law_start", "_law_length"] (defScope s_l_sum) := ⟨rfl, rfl, rfl, by decide +kernel, rfl, by decide +kernel, by decide +kernel⟩
abbrev s_l_forms : Stmt := (top 34)
abbrev N_l_forms : List Str := ["_law_row", "_law_found", "_law_some", "_law_at"]
theorem sc_l_forms : FnScope N_l_forms ["_law_row"] (defScope s_l_forms) := ⟨rfl, rfl, rfl, by decide +kernel, rfl, by decide +kernel, by decide +kernel⟩
abbrev s_l_rests : Stmt := (top 35)
abbrev N_l_rests : List Str := ["_law_some", "_law_lap", "_law_found", "_law_start", "_law_length"]
theorem sc_l_rests : FnScope N_l_rests ["_law_some"] (defScope s_l_rests) := ⟨rfl, rfl, rfl, by decide +kernel, rfl, by decide +kernel, by decide +kernel⟩
abbrev s_l_rows : Stmt := (top 36)
abbrev N_l_rows : List Str := ["_law_many", "_law_lap", "_law_rows_here", "_law_turn", "_law_longer", "_law_row", "_law_found", "_law_worth"]
theorem sc_l_rows : FnScope N_l_rows ["_law_many", "_law_lap"] (defScope s_l_rows) := ⟨rfl, rfl, rfl, by decide +kernel, rfl, by decide +kernel, by decide +kernel⟩
abbrev s_l_due : Stmt := (top 37)
abbrev N_l_due : List Str := ["_law_many", "_law_lap", "_law_there", "_law_lacks", "_law_found", "_law_row", "_law_some", "_law_bad", "_law_amount"]
theorem sc_l_due : FnScope N_l_due ["_law_many", "_law_lap", "_law_there", "_law_lacks"] (defScope s_l_due) := ⟨rfl, rfl, rfl, by decide +kernel, rfl, by decide +kernel, by decide +kernel⟩
abbrev s_l_caught : Stmt := (top 38)
abbrev N_l_caught : List Str := ["_law_many", "_law_lap", "_law_there", "_law_lacks", "_law_caught_here", "e", "_law_kinds"]
theorem sc_l_caught : FnScope N_l_caught ["_law_many", "_law_lap", "_law_there", "_law_lacks"] (defScope s_l_caught) := ⟨rfl, rfl, rfl, by decide +kernel, rfl, by decide +kernel, by decide +kernel⟩
abbrev s_l_refused : Stmt := (top 39)
abbrev N_l_refused : List Str := ["_law_odd"]
theorem sc_l_refused : FnScope N_l_refused [] (defScope s_l_refused) := ⟨rfl, rfl, rfl, by decide +kernel, rfl, by decide +kernel, by decide +kernel⟩
abbrev s_law : Stmt := (top 40)
abbrev N_law : List Str := ["_law_script", "_law_cell", "_law_purse_here", "_law_some", "_law_lap", "_law_there", "_law_lacks", "_law_turn", "_law_amount", "_law_given", "_law_due_here", "_law_told", "_law_row"]
theorem sc_law : FnScope N_law ["_law_script"] (defScope s_law) := ⟨rfl, rfl, rfl, by decide +kernel, rfl, by decide +kernel, by decide +kernel⟩
def e_InvalidNumberD : ErrD := ⟨"InvalidNumber", inClass (top 3) 0⟩
def e_InvalidListD : ErrD := ⟨"InvalidList", inClass (top 5) 0⟩
def e_InvalidAmountD : ErrD := ⟨"InvalidAmount", inClass (top 4) 0⟩
abbrev FnP (K : PySem.W.Frag) (x q : Str) (st : Stmt) (dv : List V) (f : Addr) (fd : FuncData) : Prop := FunD K x q (defArgs st) (defBody st) (defScope st) dv [] f fd
/-- what the walk asks of the top -/
structure Txt (K : PySem.W.Frag) (mg : Str → Option Value) : Type where
  g_is_whole : mg "is_whole" = some (.ref (ga K "is_whole"))
  g_check_number : mg "check_number" = some (.ref (ga K "check_number"))
  g_is_amount : mg "is_amount" = some (.ref (ga K "is_amount"))
  g_check_amount : mg "check_amount" = some (.ref (ga K "check_amount"))
  g_check_list : mg "check_list" = some (.ref (ga K "check_list"))
  g_check_amounts : mg "check_amounts" = some (.ref (ga K "check_amounts"))
  g_check_roll : mg "check_roll" = some (.ref (ga K "check_roll"))
  g_short_strips : mg "short_strips" = some (.ref (ga K "short_strips"))
  g_rests_of : mg "rests_of" = some (.ref (ga K "rests_of"))
  g_rests : mg "rests" = some (.ref (ga K "rests"))
  g_least_form : mg "least_form" = some (.ref (ga K "least_form"))
  g_first_form : mg "first_form" = some (.ref (ga K "first_form"))
  g_rows_of : mg "rows_of" = some (.ref (ga K "rows_of"))
  g_forms_of : mg "forms_of" = some (.ref (ga K "forms_of"))
  g_told_back : mg "told_back" = some (.ref (ga K "told_back"))
  g_l_mixed : mg "_law_mixed" = some (.ref (ga K "_law_mixed"))
  g_l_purse : mg "_law_purse" = some (.ref (ga K "_law_purse"))
  g_l_draw : mg "_law_draw" = some (.ref (ga K "_law_draw"))
  g_l_worths_drawn : mg "_law_worths_drawn" = some (.ref (ga K "_law_worths_drawn"))
  g_l_sum : mg "_law_sum" = some (.ref (ga K "_law_sum"))
  g_l_forms : mg "_law_forms" = some (.ref (ga K "_law_forms"))
  g_l_rests : mg "_law_rests" = some (.ref (ga K "_law_rests"))
  g_l_rows : mg "_law_rows" = some (.ref (ga K "_law_rows"))
  g_l_due : mg "_law_due" = some (.ref (ga K "_law_due"))
  g_l_caught : mg "_law_caught" = some (.ref (ga K "_law_caught"))
  g_l_refused : mg "_law_refused" = some (.ref (ga K "_law_refused"))
  g_law : mg "law" = some (.ref (ga K "law"))
  g_ClerkError : mg "ClerkError" = some (.ref (ga K "ClerkError"))
  g_InvalidNumber : mg "InvalidNumber" = some (.ref (ga K "InvalidNumber"))
  g_InvalidAmount : mg "InvalidAmount" = some (.ref (ga K "InvalidAmount"))
  g_InvalidList : mg "InvalidList" = some (.ref (ga K "InvalidList"))
  g_InvalidWorth : mg "InvalidWorth" = some (.ref (ga K "InvalidWorth"))
  g_InvalidRoll : mg "InvalidRoll" = some (.ref (ga K "InvalidRoll"))
  g_Roll : mg "Roll" = some (.ref (ga K "Roll"))
  fr_bool : mg "bool" = none
  fr_int : mg "int" = none
  fr_isinstance : mg "isinstance" = none
  fr_len : mg "len" = none
  fr_list : mg "list" = none
  fr_max : mg "max" = none
  fr_min : mg "min" = none
  fr_range : mg "range" = none
  fr_repr : mg "repr" = none
  fr_set : mg "set" = none
  fr_sorted : mg "sorted" = none
  fr_sum : mg "sum" = none
  fr_tuple : mg "tuple" = none
  cl_Roll : Cls K (ga K "Roll")
  mk_Roll : Mk K (ga K "Roll") (ma K (ga K "Roll") "__init__")
  m_Roll_init : Meth K (ga K "Roll") "__init__" (ma K (ga K "Roll") "__init__")
  m_Roll_worths : Meth K (ga K "Roll") "worths" (ma K (ga K "Roll") "worths")
  m_Roll_len : Meth K (ga K "Roll") "__len__" (ma K (ga K "Roll") "__len__")
  m_Roll_lap : Meth K (ga K "Roll") "lap" (ma K (ga K "Roll") "lap")
  m_Roll_worth : Meth K (ga K "Roll") "worth" (ma K (ga K "Roll") "worth")
  m_Roll_upto : Meth K (ga K "Roll") "upto" (ma K (ga K "Roll") "upto")
  m_Roll_total : Meth K (ga K "Roll") "total" (ma K (ga K "Roll") "total")
  m_Roll_mirrored : Meth K (ga K "Roll") "mirrored" (ma K (ga K "Roll") "mirrored")
  m_Roll_eq : Meth K (ga K "Roll") "__eq__" (ma K (ga K "Roll") "__eq__")
  na_Roll_row : NoAttr K (ga K "Roll") "row"
  na_Roll_firsts : NoAttr K (ga K "Roll") "firsts"
  xm_InvalidNumber : PySem.W.exmOne K (.ref (ga K "InvalidNumber")) (.ref (ga K "ClerkError")) = some true
  xm_InvalidList : PySem.W.exmOne K (.ref (ga K "InvalidList")) (.ref (ga K "ClerkError")) = some true
  xm_InvalidAmount : PySem.W.exmOne K (.ref (ga K "InvalidAmount")) (.ref (ga K "ClerkError")) = some true
  fr_super : mg "super" = none
  x_Roll : ClsX K (ga K "Roll")
  k_int_Roll : PySem.W.kitOne K (.type "int") (.ref (ga K "Roll")) = some false
  n_Roll_int : PySem.W.notFirst K (ga K "Roll") (.type "int") = true
  k_Roll_int : PySem.W.kitOne K (.ref (ga K "Roll")) (.type "int") = some false
  k_bool_Roll : PySem.W.kitOne K (.type "bool") (.ref (ga K "Roll")) = some false
  n_Roll_bool : PySem.W.notFirst K (ga K "Roll") (.type "bool") = true
  k_Roll_bool : PySem.W.kitOne K (.ref (ga K "Roll")) (.type "bool") = some false
  k_str_Roll : PySem.W.kitOne K (.type "str") (.ref (ga K "Roll")) = some false
  n_Roll_str : PySem.W.notFirst K (ga K "Roll") (.type "str") = true
  k_Roll_str : PySem.W.kitOne K (.ref (ga K "Roll")) (.type "str") = some false
  k_NoneType_Roll : PySem.W.kitOne K (.type "NoneType") (.ref (ga K "Roll")) = some false
  n_Roll_NoneType : PySem.W.notFirst K (ga K "Roll") (.type "NoneType") = true
  k_list_Roll : PySem.W.kitOne K (.type "list") (.ref (ga K "Roll")) = some false
  n_Roll_list : PySem.W.notFirst K (ga K "Roll") (.type "list") = true
  k_Roll_list : PySem.W.kitOne K (.ref (ga K "Roll")) (.type "list") = some false
  k_tuple_Roll : PySem.W.kitOne K (.type "tuple") (.ref (ga K "Roll")) = some false
  n_Roll_tuple : PySem.W.notFirst K (ga K "Roll") (.type "tuple") = true
  k_Roll_tuple : PySem.W.kitOne K (.ref (ga K "Roll")) (.type "tuple") = some false
  k_dict_Roll : PySem.W.kitOne K (.type "dict") (.ref (ga K "Roll")) = some false
  n_Roll_dict : PySem.W.notFirst K (ga K "Roll") (.type "dict") = true
  k_Roll_dict : PySem.W.kitOne K (.ref (ga K "Roll")) (.type "dict") = some false
  k_Roll_Roll : PySem.W.kitOne K (.ref (ga K "Roll")) (.ref (ga K "Roll")) = some true
  n_Roll_Roll : PySem.W.notFirst K (ga K "Roll") (.ref (ga K "Roll")) = true
  x_InvalidNumber : ClsX K (ga K "InvalidNumber")
  k_InvalidNumber_InvalidNumber : PySem.W.kitOne K (.ref (ga K "InvalidNumber")) (.ref (ga K "InvalidNumber")) = some true
  k_InvalidNumber_InvalidList : PySem.W.kitOne K (.ref (ga K "InvalidNumber")) (.ref (ga K "InvalidList")) = some false
  k_InvalidNumber_InvalidAmount : PySem.W.kitOne K (.ref (ga K "InvalidNumber")) (.ref (ga K "InvalidAmount")) = some false
  k_NoneType_InvalidNumber : PySem.W.kitOne K (.type "NoneType") (.ref (ga K "InvalidNumber")) = some false
  x_InvalidList : ClsX K (ga K "InvalidList")
  k_InvalidList_InvalidNumber : PySem.W.kitOne K (.ref (ga K "InvalidList")) (.ref (ga K "InvalidNumber")) = some false
  k_InvalidList_InvalidList : PySem.W.kitOne K (.ref (ga K "InvalidList")) (.ref (ga K "InvalidList")) = some true
  k_InvalidList_InvalidAmount : PySem.W.kitOne K (.ref (ga K "InvalidList")) (.ref (ga K "InvalidAmount")) = some false
  k_NoneType_InvalidList : PySem.W.kitOne K (.type "NoneType") (.ref (ga K "InvalidList")) = some false
  x_InvalidAmount : ClsX K (ga K "InvalidAmount")
  k_InvalidAmount_InvalidNumber : PySem.W.kitOne K (.ref (ga K "InvalidAmount")) (.ref (ga K "InvalidNumber")) = some false
  k_InvalidAmount_InvalidList : PySem.W.kitOne K (.ref (ga K "InvalidAmount")) (.ref (ga K "InvalidList")) = some false
  k_InvalidAmount_InvalidAmount : PySem.W.kitOne K (.ref (ga K "InvalidAmount")) (.ref (ga K "InvalidAmount")) = some true
  k_NoneType_InvalidAmount : PySem.W.kitOne K (.type "NoneType") (.ref (ga K "InvalidAmount")) = some false
  e_InvalidNumber : ErrC PR K mg (ga K "InvalidNumber") (ma K (ga K "InvalidNumber") "__init__")
  es_InvalidNumber : PySem.W.subIn K (.ref (ga K "InvalidNumber")) (.ref (ga K "InvalidNumber")) = some true
  e_InvalidList : ErrC PR K mg (ga K "InvalidList") (ma K (ga K "InvalidList") "__init__")
  es_InvalidList : PySem.W.subIn K (.ref (ga K "InvalidList")) (.ref (ga K "InvalidList")) = some true
  e_InvalidAmount : ErrC PR K mg (ga K "InvalidAmount") (ma K (ga K "InvalidAmount") "__init__")
  es_InvalidAmount : PySem.W.subIn K (.ref (ga K "InvalidAmount")) (.ref (ga K "InvalidAmount")) = some true
  fd_is_whole : FuncData
  F_is_whole : FnP K "is_whole" "is_whole" s_is_whole [] (He.fAd K ("is_whole", none)) fd_is_whole
  fd_check_number : FuncData
  F_check_number : FnP K "check_number" "check_number" s_check_number [] (He.fAd K ("check_number", none)) fd_check_number
  fd_is_amount : FuncData
  F_is_amount : FnP K "is_amount" "is_amount" s_is_amount [] (He.fAd K ("is_amount", none)) fd_is_amount
  fd_check_amount : FuncData
  F_check_amount : FnP K "check_amount" "check_amount" s_check_amount [] (He.fAd K ("check_amount", none)) fd_check_amount
  fd_check_list : FuncData
  F_check_list : FnP K "check_list" "check_list" s_check_list [] (He.fAd K ("check_list", none)) fd_check_list
  fd_check_amounts : FuncData
  F_check_amounts : FnP K "check_amounts" "check_amounts" s_check_amounts [] (He.fAd K ("check_amounts", none)) fd_check_amounts
  fd_Roll_init : FuncData
  F_Roll_init : FnP K "__init__" "Roll.__init__" s_Roll_init [] (He.fAd K ("Roll", some "__init__")) fd_Roll_init
  fd_Roll_worths : FuncData
  F_Roll_worths : FnP K "worths" "Roll.worths" s_Roll_worths [] (He.fAd K ("Roll", some "worths")) fd_Roll_worths
  fd_Roll_len : FuncData
  F_Roll_len : FnP K "__len__" "Roll.__len__" s_Roll_len [] (He.fAd K ("Roll", some "__len__")) fd_Roll_len
  fd_Roll_lap : FuncData
  F_Roll_lap : FnP K "lap" "Roll.lap" s_Roll_lap [] (He.fAd K ("Roll", some "lap")) fd_Roll_lap
  fd_Roll_worth : FuncData
  F_Roll_worth : FnP K "worth" "Roll.worth" s_Roll_worth [] (He.fAd K ("Roll", some "worth")) fd_Roll_worth
  fd_Roll_upto : FuncData
  F_Roll_upto : FnP K "upto" "Roll.upto" s_Roll_upto [] (He.fAd K ("Roll", some "upto")) fd_Roll_upto
  fd_Roll_total : FuncData
  F_Roll_total : FnP K "total" "Roll.total" s_Roll_total [] (He.fAd K ("Roll", some "total")) fd_Roll_total
  fd_Roll_mirrored : FuncData
  F_Roll_mirrored : FnP K "mirrored" "Roll.mirrored" s_Roll_mirrored [] (He.fAd K ("Roll", some "mirrored")) fd_Roll_mirrored
  fd_Roll_eq : FuncData
  F_Roll_eq : FnP K "__eq__" "Roll.__eq__" s_Roll_eq [] (He.fAd K ("Roll", some "__eq__")) fd_Roll_eq
  fd_check_roll : FuncData
  F_check_roll : FnP K "check_roll" "check_roll" s_check_roll [] (He.fAd K ("check_roll", none)) fd_check_roll
  fd_short_strips : FuncData
  F_short_strips : FnP K "short_strips" "short_strips" s_short_strips [] (He.fAd K ("short_strips", none)) fd_short_strips
  fd_rests_of : FuncData
  F_rests_of : FnP K "rests_of" "rests_of" s_rests_of [] (He.fAd K ("rests_of", none)) fd_rests_of
  fd_rests : FuncData
  F_rests : FnP K "rests" "rests" s_rests [] (He.fAd K ("rests", none)) fd_rests
  fd_least_form : FuncData
  F_least_form : FnP K "least_form" "least_form" s_least_form [] (He.fAd K ("least_form", none)) fd_least_form
  fd_first_form : FuncData
  F_first_form : FnP K "first_form" "first_form" s_first_form [] (He.fAd K ("first_form", none)) fd_first_form
  fd_rows_of : FuncData
  F_rows_of : FnP K "rows_of" "rows_of" s_rows_of [] (He.fAd K ("rows_of", none)) fd_rows_of
  fd_forms_of : FuncData
  F_forms_of : FnP K "forms_of" "forms_of" s_forms_of [] (He.fAd K ("forms_of", none)) fd_forms_of
  fd_told_back : FuncData
  F_told_back : FnP K "told_back" "told_back" s_told_back [] (He.fAd K ("told_back", none)) fd_told_back
  fd_l_mixed : FuncData
  F_l_mixed : FnP K "_law_mixed" "_law_mixed" s_l_mixed [] (He.fAd K ("_law_mixed", none)) fd_l_mixed
  fd_l_purse : FuncData
  F_l_purse : FnP K "_law_purse" "_law_purse" s_l_purse [] (He.fAd K ("_law_purse", none)) fd_l_purse
  fd_l_draw : FuncData
  F_l_draw : FnP K "_law_draw" "_law_draw" s_l_draw [] (He.fAd K ("_law_draw", none)) fd_l_draw
  fd_l_worths_drawn : FuncData
  F_l_worths_drawn : FnP K "_law_worths_drawn" "_law_worths_drawn" s_l_worths_drawn [] (He.fAd K ("_law_worths_drawn", none)) fd_l_worths_drawn
  fd_l_sum : FuncData
  F_l_sum : FnP K "_law_sum" "_law_sum" s_l_sum [] (He.fAd K ("_law_sum", none)) fd_l_sum
  fd_l_forms : FuncData
  F_l_forms : FnP K "_law_forms" "_law_forms" s_l_forms [] (He.fAd K ("_law_forms", none)) fd_l_forms
  fd_l_rests : FuncData
  F_l_rests : FnP K "_law_rests" "_law_rests" s_l_rests [] (He.fAd K ("_law_rests", none)) fd_l_rests
  fd_l_rows : FuncData
  F_l_rows : FnP K "_law_rows" "_law_rows" s_l_rows [] (He.fAd K ("_law_rows", none)) fd_l_rows
  fd_l_due : FuncData
  F_l_due : FnP K "_law_due" "_law_due" s_l_due [] (He.fAd K ("_law_due", none)) fd_l_due
  fd_l_caught : FuncData
  F_l_caught : FnP K "_law_caught" "_law_caught" s_l_caught [] (He.fAd K ("_law_caught", none)) fd_l_caught
  fd_l_refused : FuncData
  F_l_refused : FnP K "_law_refused" "_law_refused" s_l_refused [] (He.fAd K ("_law_refused", none)) fd_l_refused
  fd_law : FuncData
  F_law : FnP K "law" "law" s_law [] (He.fAd K ("law", none)) fd_law
section
variable {K : PySem.W.Frag} {mg : Str → Option Value}
theorem b_is_whole (T : Txt K mg) : Binds K T.fd_is_whole ["value"] [] := T.F_is_whole.bindsN fun _ _ _ _ _ _ us hl => match us, hl with | [_], _ => rfl
theorem b_check_number (T : Txt K mg) : Binds K T.fd_check_number ["value", "least"] [] := T.F_check_number.bindsN fun _ _ _ _ _ _ us hl => match us, hl with | [_, _], _ => rfl
theorem b_is_amount (T : Txt K mg) : Binds K T.fd_is_amount ["value"] [] := T.F_is_amount.bindsN fun _ _ _ _ _ _ us hl => match us, hl with | [_], _ => rfl
theorem b_check_amount (T : Txt K mg) : Binds K T.fd_check_amount ["value"] [] := T.F_check_amount.bindsN fun _ _ _ _ _ _ us hl => match us, hl with | [_], _ => rfl
theorem b_check_list (T : Txt K mg) : Binds K T.fd_check_list ["value"] [] := T.F_check_list.bindsN fun _ _ _ _ _ _ us hl => match us, hl with | [_], _ => rfl
theorem b_check_amounts (T : Txt K mg) : Binds K T.fd_check_amounts ["value"] [] := T.F_check_amounts.bindsN fun _ _ _ _ _ _ us hl => match us, hl with | [_], _ => rfl
theorem b_Roll_init (T : Txt K mg) : Binds K T.fd_Roll_init ["self", "worths"] [] := T.F_Roll_init.bindsN fun _ _ _ _ _ _ us hl => match us, hl with | [_, _], _ => rfl
theorem b_Roll_worths (T : Txt K mg) : Binds K T.fd_Roll_worths ["self"] [] := T.F_Roll_worths.bindsN fun _ _ _ _ _ _ us hl => match us, hl with | [_], _ => rfl
theorem b_Roll_len (T : Txt K mg) : Binds K T.fd_Roll_len ["self"] [] := T.F_Roll_len.bindsN fun _ _ _ _ _ _ us hl => match us, hl with | [_], _ => rfl
theorem b_Roll_lap (T : Txt K mg) : Binds K T.fd_Roll_lap ["self"] [] := T.F_Roll_lap.bindsN fun _ _ _ _ _ _ us hl => match us, hl with | [_], _ => rfl
theorem b_Roll_worth (T : Txt K mg) : Binds K T.fd_Roll_worth ["self", "at"] [] := T.F_Roll_worth.bindsN fun _ _ _ _ _ _ us hl => match us, hl with | [_, _], _ => rfl
theorem b_Roll_upto (T : Txt K mg) : Binds K T.fd_Roll_upto ["self", "many"] [] := T.F_Roll_upto.bindsN fun _ _ _ _ _ _ us hl => match us, hl with | [_, _], _ => rfl
theorem b_Roll_total (T : Txt K mg) : Binds K T.fd_Roll_total ["self", "start", "length"] [] := T.F_Roll_total.bindsN fun _ _ _ _ _ _ us hl => match us, hl with | [_, _, _], _ => rfl
theorem b_Roll_mirrored (T : Txt K mg) : Binds K T.fd_Roll_mirrored ["self"] [] := T.F_Roll_mirrored.bindsN fun _ _ _ _ _ _ us hl => match us, hl with | [_], _ => rfl
theorem b_Roll_eq (T : Txt K mg) : Binds K T.fd_Roll_eq ["self", "other"] [] := T.F_Roll_eq.bindsN fun _ _ _ _ _ _ us hl => match us, hl with | [_, _], _ => rfl
theorem b_check_roll (T : Txt K mg) : Binds K T.fd_check_roll ["value"] [] := T.F_check_roll.bindsN fun _ _ _ _ _ _ us hl => match us, hl with | [_], _ => rfl
theorem b_short_strips (T : Txt K mg) : Binds K T.fd_short_strips ["roll"] [] := T.F_short_strips.bindsN fun _ _ _ _ _ _ us hl => match us, hl with | [_], _ => rfl
theorem b_rests_of (T : Txt K mg) : Binds K T.fd_rests_of ["roll"] [] := T.F_rests_of.bindsN fun _ _ _ _ _ _ us hl => match us, hl with | [_], _ => rfl
theorem b_rests (T : Txt K mg) : Binds K T.fd_rests ["roll"] [] := T.F_rests.bindsN fun _ _ _ _ _ _ us hl => match us, hl with | [_], _ => rfl
theorem b_least_form (T : Txt K mg) : Binds K T.fd_least_form ["row"] [] := T.F_least_form.bindsN fun _ _ _ _ _ _ us hl => match us, hl with | [_], _ => rfl
theorem b_first_form (T : Txt K mg) : Binds K T.fd_first_form ["roll"] [] := T.F_first_form.bindsN fun _ _ _ _ _ _ us hl => match us, hl with | [_], _ => rfl
theorem b_rows_of (T : Txt K mg) : Binds K T.fd_rows_of ["many", "lap"] [] := T.F_rows_of.bindsN fun _ _ _ _ _ _ us hl => match us, hl with | [_, _], _ => rfl
theorem b_forms_of (T : Txt K mg) : Binds K T.fd_forms_of ["many", "lap"] [] := T.F_forms_of.bindsN fun _ _ _ _ _ _ us hl => match us, hl with | [_, _], _ => rfl
theorem b_told_back (T : Txt K mg) : Binds K T.fd_told_back ["many", "lap", "goes", "lacks"] [] := T.F_told_back.bindsN fun _ _ _ _ _ _ us hl => match us, hl with | [_, _, _, _], _ => rfl
theorem b_l_mixed (T : Txt K mg) : Binds K T.fd_l_mixed ["_law_cell", "_law_k"] [] := T.F_l_mixed.bindsN fun _ _ _ _ _ _ us hl => match us, hl with | [_, _], _ => rfl
theorem b_l_purse (T : Txt K mg) : Binds K T.fd_l_purse ["_law_script", "_law_at"] [] := T.F_l_purse.bindsN fun _ _ _ _ _ _ us hl => match us, hl with | [_, _], _ => rfl
theorem b_l_draw (T : Txt K mg) : Binds K T.fd_l_draw ["_law_purse_here", "_law_out_of"] [] := T.F_l_draw.bindsN fun _ _ _ _ _ _ us hl => match us, hl with | [_, _], _ => rfl
theorem b_l_worths_drawn (T : Txt K mg) : Binds K T.fd_l_worths_drawn ["_law_purse_here", "_law_most", "_law_greatest"] [] := T.F_l_worths_drawn.bindsN fun _ _ _ _ _ _ us hl => match us, hl with | [_, _, _], _ => rfl
theorem b_l_sum (T : Txt K mg) : Binds K T.fd_l_sum ["_law_some", "_law_start", "_law_length"] [] := T.F_l_sum.bindsN fun _ _ _ _ _ _ us hl => match us, hl with | [_, _, _], _ => rfl
theorem b_l_forms (T : Txt K mg) : Binds K T.fd_l_forms ["_law_row"] [] := T.F_l_forms.bindsN fun _ _ _ _ _ _ us hl => match us, hl with | [_], _ => rfl
theorem b_l_rests (T : Txt K mg) : Binds K T.fd_l_rests ["_law_some"] [] := T.F_l_rests.bindsN fun _ _ _ _ _ _ us hl => match us, hl with | [_], _ => rfl
theorem b_l_rows (T : Txt K mg) : Binds K T.fd_l_rows ["_law_many", "_law_lap"] [] := T.F_l_rows.bindsN fun _ _ _ _ _ _ us hl => match us, hl with | [_, _], _ => rfl
theorem b_l_due (T : Txt K mg) : Binds K T.fd_l_due ["_law_many", "_law_lap", "_law_there", "_law_lacks"] [] := T.F_l_due.bindsN fun _ _ _ _ _ _ us hl => match us, hl with | [_, _, _, _], _ => rfl
theorem b_l_caught (T : Txt K mg) : Binds K T.fd_l_caught ["_law_many", "_law_lap", "_law_there", "_law_lacks"] [] := T.F_l_caught.bindsN fun _ _ _ _ _ _ us hl => match us, hl with | [_, _, _, _], _ => rfl
theorem b_l_refused (T : Txt K mg) : Binds K T.fd_l_refused [] [] := T.F_l_refused.bindsN fun _ _ _ _ _ _ us hl => match us, hl with | [], _ => rfl
theorem b_law (T : Txt K mg) : Binds K T.fd_law ["_law_script"] [] := T.F_law.bindsN fun _ _ _ _ _ _ us hl => match us, hl with | [_], _ => rfl
end
end RC
namespace RC
open PySem PySem.Spec PyProof.Rows L2 He
def d_is_whole : He.DefD := ⟨("is_whole", none), "is_whole", "is_whole", defArgs s_is_whole, defBody s_is_whole, defScope s_is_whole, [], []⟩
def d_check_number : He.DefD := ⟨("check_number", none), "check_number", "check_number", defArgs s_check_number, defBody s_check_number, defScope s_check_number, [], []⟩
def d_is_amount : He.DefD := ⟨("is_amount", none), "is_amount", "is_amount", defArgs s_is_amount, defBody s_is_amount, defScope s_is_amount, [], []⟩
def d_check_amount : He.DefD := ⟨("check_amount", none), "check_amount", "check_amount", defArgs s_check_amount, defBody s_check_amount, defScope s_check_amount, [], []⟩
def d_check_list : He.DefD := ⟨("check_list", none), "check_list", "check_list", defArgs s_check_list, defBody s_check_list, defScope s_check_list, [], []⟩
def d_check_amounts : He.DefD := ⟨("check_amounts", none), "check_amounts", "check_amounts", defArgs s_check_amounts, defBody s_check_amounts, defScope s_check_amounts, [], []⟩
def d_Roll_init : He.DefD := ⟨("Roll", some "__init__"), "__init__", "Roll.__init__", defArgs s_Roll_init, defBody s_Roll_init, defScope s_Roll_init, [], []⟩
def d_Roll_worths : He.DefD := ⟨("Roll", some "worths"), "worths", "Roll.worths", defArgs s_Roll_worths, defBody s_Roll_worths, defScope s_Roll_worths, [], []⟩
def d_Roll_len : He.DefD := ⟨("Roll", some "__len__"), "__len__", "Roll.__len__", defArgs s_Roll_len, defBody s_Roll_len, defScope s_Roll_len, [], []⟩
def d_Roll_lap : He.DefD := ⟨("Roll", some "lap"), "lap", "Roll.lap", defArgs s_Roll_lap, defBody s_Roll_lap, defScope s_Roll_lap, [], []⟩
def d_Roll_worth : He.DefD := ⟨("Roll", some "worth"), "worth", "Roll.worth", defArgs s_Roll_worth, defBody s_Roll_worth, defScope s_Roll_worth, [], []⟩
def d_Roll_upto : He.DefD := ⟨("Roll", some "upto"), "upto", "Roll.upto", defArgs s_Roll_upto, defBody s_Roll_upto, defScope s_Roll_upto, [], []⟩
def d_Roll_total : He.DefD := ⟨("Roll", some "total"), "total", "Roll.total", defArgs s_Roll_total, defBody s_Roll_total, defScope s_Roll_total, [], []⟩
def d_Roll_mirrored : He.DefD := ⟨("Roll", some "mirrored"), "mirrored", "Roll.mirrored", defArgs s_Roll_mirrored, defBody s_Roll_mirrored, defScope s_Roll_mirrored, [], []⟩
def d_Roll_eq : He.DefD := ⟨("Roll", some "__eq__"), "__eq__", "Roll.__eq__", defArgs s_Roll_eq, defBody s_Roll_eq, defScope s_Roll_eq, [], []⟩
def d_check_roll : He.DefD := ⟨("check_roll", none), "check_roll", "check_roll", defArgs s_check_roll, defBody s_check_roll, defScope s_check_roll, [], []⟩
def d_short_strips : He.DefD := ⟨("short_strips", none), "short_strips", "short_strips", defArgs s_short_strips, defBody s_short_strips, defScope s_short_strips, [], []⟩
def d_rests_of : He.DefD := ⟨("rests_of", none), "rests_of", "rests_of", defArgs s_rests_of, defBody s_rests_of, defScope s_rests_of, [], []⟩
def d_rests : He.DefD := ⟨("rests", none), "rests", "rests", defArgs s_rests, defBody s_rests, defScope s_rests, [], []⟩
def d_least_form : He.DefD := ⟨("least_form", none), "least_form", "least_form", defArgs s_least_form, defBody s_least_form, defScope s_least_form, [], []⟩
def d_first_form : He.DefD := ⟨("first_form", none), "first_form", "first_form", defArgs s_first_form, defBody s_first_form, defScope s_first_form, [], []⟩
def d_rows_of : He.DefD := ⟨("rows_of", none), "rows_of", "rows_of", defArgs s_rows_of, defBody s_rows_of, defScope s_rows_of, [], []⟩
def d_forms_of : He.DefD := ⟨("forms_of", none), "forms_of", "forms_of", defArgs s_forms_of, defBody s_forms_of, defScope s_forms_of, [], []⟩
def d_told_back : He.DefD := ⟨("told_back", none), "told_back", "told_back", defArgs s_told_back, defBody s_told_back, defScope s_told_back, [], []⟩
def d_l_mixed : He.DefD := ⟨("_law_mixed", none), "_law_mixed", "_law_mixed", defArgs s_l_mixed, defBody s_l_mixed, defScope s_l_mixed, [], []⟩
def d_l_purse : He.DefD := ⟨("_law_purse", none), "_law_purse", "_law_purse", defArgs s_l_purse, defBody s_l_purse, defScope s_l_purse, [], []⟩
def d_l_draw : He.DefD := ⟨("_law_draw", none), "_law_draw", "_law_draw", defArgs s_l_draw, defBody s_l_draw, defScope s_l_draw, [], []⟩
def d_l_worths_drawn : He.DefD := ⟨("_law_worths_drawn", none), "_law_worths_drawn", "_law_worths_drawn", defArgs s_l_worths_drawn, defBody s_l_worths_drawn, defScope s_l_worths_drawn, [], []⟩
def d_l_sum : He.DefD := ⟨("_law_sum", none), "_law_sum", "_law_sum", defArgs s_l_sum, defBody s_l_sum, defScope s_l_sum, [], []⟩
def d_l_forms : He.DefD := ⟨("_law_forms", none), "_law_forms", "_law_forms", defArgs s_l_forms, defBody s_l_forms, defScope s_l_forms, [], []⟩
def d_l_rests : He.DefD := ⟨("_law_rests", none), "_law_rests", "_law_rests", defArgs s_l_rests, defBody s_l_rests, defScope s_l_rests, [], []⟩
def d_l_rows : He.DefD := ⟨("_law_rows", none), "_law_rows", "_law_rows", defArgs s_l_rows, defBody s_l_rows, defScope s_l_rows, [], []⟩
def d_l_due : He.DefD := ⟨("_law_due", none), "_law_due", "_law_due", defArgs s_l_due, defBody s_l_due, defScope s_l_due, [], []⟩
def d_l_caught : He.DefD := ⟨("_law_caught", none), "_law_caught", "_law_caught", defArgs s_l_caught, defBody s_l_caught, defScope s_l_caught, [], []⟩
def d_l_refused : He.DefD := ⟨("_law_refused", none), "_law_refused", "_law_refused", defArgs s_l_refused, defBody s_l_refused, defScope s_l_refused, [], []⟩
def d_law : He.DefD := ⟨("law", none), "law", "law", defArgs s_law, defBody s_law, defScope s_law, [], []⟩
def fn0 : List He.DefD := [d_is_whole, d_check_number, d_is_amount, d_check_amount, d_check_list, d_check_amounts, d_Roll_init, d_Roll_worths, d_Roll_len, d_Roll_lap, d_Roll_worth, d_Roll_upto, d_Roll_total, d_Roll_mirrored, d_Roll_eq, d_check_roll, d_short_strips, d_rests_of, d_rests, d_least_form, d_first_form, d_rows_of, d_forms_of, d_told_back, d_l_mixed, d_l_purse, d_l_draw, d_l_worths_drawn, d_l_sum, d_l_forms]
def fn1 : List He.DefD := [d_l_rests, d_l_rows, d_l_due, d_l_caught, d_l_refused, d_law]
def fn : List He.DefD := fn0 ++ (fn1)
def fa0 : List He.Fa := [.glo "is_whole", .glo "check_number", .glo "is_amount", .glo "check_amount", .glo "check_list", .glo "check_amounts", .glo "check_roll", .glo "short_strips", .glo "rests_of", .glo "rests", .glo "least_form", .glo "first_form", .glo "rows_of", .glo "forms_of", .glo "told_back", .glo "_law_mixed", .glo "_law_purse", .glo "_law_draw", .glo "_law_worths_drawn", .glo "_law_sum", .glo "_law_forms", .glo "_law_rests", .glo "_law_rows", .glo "_law_due", .glo "_law_caught", .glo "_law_refused", .glo "law", .glo "ClerkError", .glo "InvalidNumber", .glo "InvalidAmount"]
def fa1 : List He.Fa := [.glo "InvalidList", .glo "InvalidWorth", .glo "InvalidRoll", .glo "Roll", .free "bool", .free "int", .free "isinstance", .free "len", .free "list", .free "max", .free "min", .free "range", .free "repr", .free "set", .free "sorted", .free "sum", .free "tuple", .cls "Roll", .mkr "Roll", .meth "Roll" "__init__", .meth "Roll" "worths", .meth "Roll" "__len__", .meth "Roll" "lap", .meth "Roll" "worth", .meth "Roll" "upto", .meth "Roll" "total", .meth "Roll" "mirrored", .meth "Roll" "__eq__", .noat "Roll" "row", .noat "Roll" "firsts"]
def fa2 : List He.Fa := [.exm "InvalidNumber" "ClerkError" true, .exm "InvalidList" "ClerkError" true, .exm "InvalidAmount" "ClerkError" true, .free "super"]
def fa : List He.Fa := fa0 ++ (fa1 ++ (fa2))
def cs0 : List Str := ["Roll", "InvalidNumber", "InvalidList", "InvalidAmount"]
def cs : List Str := cs0
def ks0 : List Kq := [⟨.ty "int", .own "Roll", false⟩, ⟨.own "Roll", .ty "int", false⟩, ⟨.ty "bool", .own "Roll", false⟩, ⟨.own "Roll", .ty "bool", false⟩, ⟨.ty "str", .own "Roll", false⟩, ⟨.own "Roll", .ty "str", false⟩, ⟨.ty "NoneType", .own "Roll", false⟩, ⟨.ty "list", .own "Roll", false⟩, ⟨.own "Roll", .ty "list", false⟩, ⟨.ty "tuple", .own "Roll", false⟩, ⟨.own "Roll", .ty "tuple", false⟩, ⟨.ty "dict", .own "Roll", false⟩, ⟨.own "Roll", .ty "dict", false⟩, ⟨.own "Roll", .own "Roll", true⟩, ⟨.own "InvalidNumber", .own "InvalidNumber", true⟩, ⟨.own "InvalidNumber", .own "InvalidList", false⟩, ⟨.own "InvalidNumber", .own "InvalidAmount", false⟩, ⟨.ty "NoneType", .own "InvalidNumber", false⟩, ⟨.own "InvalidList", .own "InvalidNumber", false⟩, ⟨.own "InvalidList", .own "InvalidList", true⟩, ⟨.own "InvalidList", .own "InvalidAmount", false⟩, ⟨.ty "NoneType", .own "InvalidList", false⟩, ⟨.own "InvalidAmount", .own "InvalidNumber", false⟩, ⟨.own "InvalidAmount", .own "InvalidList", false⟩, ⟨.own "InvalidAmount", .own "InvalidAmount", true⟩, ⟨.ty "NoneType", .own "InvalidAmount", false⟩]
def ks : List Kq := ks0
def ns0 : List Nf := [⟨"Roll", .ty "int"⟩, ⟨"Roll", .ty "bool"⟩, ⟨"Roll", .ty "str"⟩, ⟨"Roll", .ty "NoneType"⟩, ⟨"Roll", .ty "list"⟩, ⟨"Roll", .ty "tuple"⟩, ⟨"Roll", .ty "dict"⟩, ⟨"Roll", .own "Roll"⟩]
def ns : List Nf := ns0
def loose0 : List Str := ["_wall", "is_whole", "check_number", "is_amount", "check_amount", "check_list", "check_amounts", "check_roll", "short_strips", "rests_of", "rests", "least_form", "first_form", "rows_of", "forms_of", "told_back", "_law_mixed", "_law_purse", "_law_draw", "_law_worths_drawn", "_law_sum", "_law_forms", "_law_rests", "_law_rows", "_law_due", "_law_caught", "_law_refused", "ClerkError", "InvalidNumber", "InvalidAmount"]
def loose1 : List Str := ["InvalidList", "InvalidWorth", "InvalidRoll", "Roll"]
def loose : List Str := loose0 ++ (loose1)
abbrev R : PySem.W.OpenRow := PySem.W.OpenLaw.row PySem.Challenge.rw_rollclerk_k37_rolls_told_back
def es : List ErrD := [e_InvalidNumberD, e_InvalidListD, e_InvalidAmountD]
abbrev hk : PySem.W.Hook := RC.hookE 6 fa fn cs ks ns es PR.main.file
def ob (s : PySem.W.SharedT) : RC.AlE := RC.obsEG 6 fa fn cs ks ns es PR.main.file (HandSHeadRun.getT s)
theorem ob_eq (s : PySem.W.SharedT) : ob s = hk.obs s.abs := RC.obsEG_eq (HandSHeadRun.getT_eq s)
theorem run (w : World) : HandSHeadRun.RunEq R (PySem.W.view R.prog [40]) hk ob 4000 loose w := by
  intro os
  kernel_rfl
theorem txt_of {K : PySem.W.Frag} {h : Heap} {mg : Str → Option Value} (X : K.In h) (G : h.Ns mainGlobals mg) (c : RC.SaysE fa fn cs ks ns es PR.main.file K) : Nonempty (Txt K mg) := by
  obtain ⟨fd_is_whole, F_is_whole⟩ := c.r.d.def_ 0 (d := d_is_whole) rfl
  obtain ⟨fd_check_number, F_check_number⟩ := c.r.d.def_ 1 (d := d_check_number) rfl
  obtain ⟨fd_is_amount, F_is_amount⟩ := c.r.d.def_ 2 (d := d_is_amount) rfl
  obtain ⟨fd_check_amount, F_check_amount⟩ := c.r.d.def_ 3 (d := d_check_amount) rfl
  obtain ⟨fd_check_list, F_check_list⟩ := c.r.d.def_ 4 (d := d_check_list) rfl
  obtain ⟨fd_check_amounts, F_check_amounts⟩ := c.r.d.def_ 5 (d := d_check_amounts) rfl
  obtain ⟨fd_Roll_init, F_Roll_init⟩ := c.r.d.def_ 6 (d := d_Roll_init) rfl
  obtain ⟨fd_Roll_worths, F_Roll_worths⟩ := c.r.d.def_ 7 (d := d_Roll_worths) rfl
  obtain ⟨fd_Roll_len, F_Roll_len⟩ := c.r.d.def_ 8 (d := d_Roll_len) rfl
  obtain ⟨fd_Roll_lap, F_Roll_lap⟩ := c.r.d.def_ 9 (d := d_Roll_lap) rfl
  obtain ⟨fd_Roll_worth, F_Roll_worth⟩ := c.r.d.def_ 10 (d := d_Roll_worth) rfl
  obtain ⟨fd_Roll_upto, F_Roll_upto⟩ := c.r.d.def_ 11 (d := d_Roll_upto) rfl
  obtain ⟨fd_Roll_total, F_Roll_total⟩ := c.r.d.def_ 12 (d := d_Roll_total) rfl
  obtain ⟨fd_Roll_mirrored, F_Roll_mirrored⟩ := c.r.d.def_ 13 (d := d_Roll_mirrored) rfl
  obtain ⟨fd_Roll_eq, F_Roll_eq⟩ := c.r.d.def_ 14 (d := d_Roll_eq) rfl
  obtain ⟨fd_check_roll, F_check_roll⟩ := c.r.d.def_ 15 (d := d_check_roll) rfl
  obtain ⟨fd_short_strips, F_short_strips⟩ := c.r.d.def_ 16 (d := d_short_strips) rfl
  obtain ⟨fd_rests_of, F_rests_of⟩ := c.r.d.def_ 17 (d := d_rests_of) rfl
  obtain ⟨fd_rests, F_rests⟩ := c.r.d.def_ 18 (d := d_rests) rfl
  obtain ⟨fd_least_form, F_least_form⟩ := c.r.d.def_ 19 (d := d_least_form) rfl
  obtain ⟨fd_first_form, F_first_form⟩ := c.r.d.def_ 20 (d := d_first_form) rfl
  obtain ⟨fd_rows_of, F_rows_of⟩ := c.r.d.def_ 21 (d := d_rows_of) rfl
  obtain ⟨fd_forms_of, F_forms_of⟩ := c.r.d.def_ 22 (d := d_forms_of) rfl
  obtain ⟨fd_told_back, F_told_back⟩ := c.r.d.def_ 23 (d := d_told_back) rfl
  obtain ⟨fd_l_mixed, F_l_mixed⟩ := c.r.d.def_ 24 (d := d_l_mixed) rfl
  obtain ⟨fd_l_purse, F_l_purse⟩ := c.r.d.def_ 25 (d := d_l_purse) rfl
  obtain ⟨fd_l_draw, F_l_draw⟩ := c.r.d.def_ 26 (d := d_l_draw) rfl
  obtain ⟨fd_l_worths_drawn, F_l_worths_drawn⟩ := c.r.d.def_ 27 (d := d_l_worths_drawn) rfl
  obtain ⟨fd_l_sum, F_l_sum⟩ := c.r.d.def_ 28 (d := d_l_sum) rfl
  obtain ⟨fd_l_forms, F_l_forms⟩ := c.r.d.def_ 29 (d := d_l_forms) rfl
  obtain ⟨fd_l_rests, F_l_rests⟩ := c.r.d.def_ 30 (d := d_l_rests) rfl
  obtain ⟨fd_l_rows, F_l_rows⟩ := c.r.d.def_ 31 (d := d_l_rows) rfl
  obtain ⟨fd_l_due, F_l_due⟩ := c.r.d.def_ 32 (d := d_l_due) rfl
  obtain ⟨fd_l_caught, F_l_caught⟩ := c.r.d.def_ 33 (d := d_l_caught) rfl
  obtain ⟨fd_l_refused, F_l_refused⟩ := c.r.d.def_ 34 (d := d_l_refused) rfl
  obtain ⟨fd_law, F_law⟩ := c.r.d.def_ 35 (d := d_law) rfl
  exact ⟨{
    g_is_whole := He.glo_ok X G (c.r.d.fact 0 (f := .glo "is_whole") rfl),
    g_check_number := He.glo_ok X G (c.r.d.fact 1 (f := .glo "check_number") rfl),
    g_is_amount := He.glo_ok X G (c.r.d.fact 2 (f := .glo "is_amount") rfl),
    g_check_amount := He.glo_ok X G (c.r.d.fact 3 (f := .glo "check_amount") rfl),
    g_check_list := He.glo_ok X G (c.r.d.fact 4 (f := .glo "check_list") rfl),
    g_check_amounts := He.glo_ok X G (c.r.d.fact 5 (f := .glo "check_amounts") rfl),
    g_check_roll := He.glo_ok X G (c.r.d.fact 6 (f := .glo "check_roll") rfl),
    g_short_strips := He.glo_ok X G (c.r.d.fact 7 (f := .glo "short_strips") rfl),
    g_rests_of := He.glo_ok X G (c.r.d.fact 8 (f := .glo "rests_of") rfl),
    g_rests := He.glo_ok X G (c.r.d.fact 9 (f := .glo "rests") rfl),
    g_least_form := He.glo_ok X G (c.r.d.fact 10 (f := .glo "least_form") rfl),
    g_first_form := He.glo_ok X G (c.r.d.fact 11 (f := .glo "first_form") rfl),
    g_rows_of := He.glo_ok X G (c.r.d.fact 12 (f := .glo "rows_of") rfl),
    g_forms_of := He.glo_ok X G (c.r.d.fact 13 (f := .glo "forms_of") rfl),
    g_told_back := He.glo_ok X G (c.r.d.fact 14 (f := .glo "told_back") rfl),
    g_l_mixed := He.glo_ok X G (c.r.d.fact 15 (f := .glo "_law_mixed") rfl),
    g_l_purse := He.glo_ok X G (c.r.d.fact 16 (f := .glo "_law_purse") rfl),
    g_l_draw := He.glo_ok X G (c.r.d.fact 17 (f := .glo "_law_draw") rfl),
    g_l_worths_drawn := He.glo_ok X G (c.r.d.fact 18 (f := .glo "_law_worths_drawn") rfl),
    g_l_sum := He.glo_ok X G (c.r.d.fact 19 (f := .glo "_law_sum") rfl),
    g_l_forms := He.glo_ok X G (c.r.d.fact 20 (f := .glo "_law_forms") rfl),
    g_l_rests := He.glo_ok X G (c.r.d.fact 21 (f := .glo "_law_rests") rfl),
    g_l_rows := He.glo_ok X G (c.r.d.fact 22 (f := .glo "_law_rows") rfl),
    g_l_due := He.glo_ok X G (c.r.d.fact 23 (f := .glo "_law_due") rfl),
    g_l_caught := He.glo_ok X G (c.r.d.fact 24 (f := .glo "_law_caught") rfl),
    g_l_refused := He.glo_ok X G (c.r.d.fact 25 (f := .glo "_law_refused") rfl),
    g_law := He.glo_ok X G (c.r.d.fact 26 (f := .glo "law") rfl),
    g_ClerkError := He.glo_ok X G (c.r.d.fact 27 (f := .glo "ClerkError") rfl),
    g_InvalidNumber := He.glo_ok X G (c.r.d.fact 28 (f := .glo "InvalidNumber") rfl),
    g_InvalidAmount := He.glo_ok X G (c.r.d.fact 29 (f := .glo "InvalidAmount") rfl),
    g_InvalidList := He.glo_ok X G (c.r.d.fact 30 (f := .glo "InvalidList") rfl),
    g_InvalidWorth := He.glo_ok X G (c.r.d.fact 31 (f := .glo "InvalidWorth") rfl),
    g_InvalidRoll := He.glo_ok X G (c.r.d.fact 32 (f := .glo "InvalidRoll") rfl),
    g_Roll := He.glo_ok X G (c.r.d.fact 33 (f := .glo "Roll") rfl),
    fr_bool := He.free_ok X G (c.r.d.fact 34 (f := .free "bool") rfl),
    fr_int := He.free_ok X G (c.r.d.fact 35 (f := .free "int") rfl),
    fr_isinstance := He.free_ok X G (c.r.d.fact 36 (f := .free "isinstance") rfl),
    fr_len := He.free_ok X G (c.r.d.fact 37 (f := .free "len") rfl),
    fr_list := He.free_ok X G (c.r.d.fact 38 (f := .free "list") rfl),
    fr_max := He.free_ok X G (c.r.d.fact 39 (f := .free "max") rfl),
    fr_min := He.free_ok X G (c.r.d.fact 40 (f := .free "min") rfl),
    fr_range := He.free_ok X G (c.r.d.fact 41 (f := .free "range") rfl),
    fr_repr := He.free_ok X G (c.r.d.fact 42 (f := .free "repr") rfl),
    fr_set := He.free_ok X G (c.r.d.fact 43 (f := .free "set") rfl),
    fr_sorted := He.free_ok X G (c.r.d.fact 44 (f := .free "sorted") rfl),
    fr_sum := He.free_ok X G (c.r.d.fact 45 (f := .free "sum") rfl),
    fr_tuple := He.free_ok X G (c.r.d.fact 46 (f := .free "tuple") rfl),
    cl_Roll := He.cls_ok (c.r.d.fact 47 (f := .cls "Roll") rfl),
    mk_Roll := He.mkr_ok (c.r.d.fact 48 (f := .mkr "Roll") rfl),
    m_Roll_init := He.meth_ok (c.r.d.fact 49 (f := .meth "Roll" "__init__") rfl),
    m_Roll_worths := He.meth_ok (c.r.d.fact 50 (f := .meth "Roll" "worths") rfl),
    m_Roll_len := He.meth_ok (c.r.d.fact 51 (f := .meth "Roll" "__len__") rfl),
    m_Roll_lap := He.meth_ok (c.r.d.fact 52 (f := .meth "Roll" "lap") rfl),
    m_Roll_worth := He.meth_ok (c.r.d.fact 53 (f := .meth "Roll" "worth") rfl),
    m_Roll_upto := He.meth_ok (c.r.d.fact 54 (f := .meth "Roll" "upto") rfl),
    m_Roll_total := He.meth_ok (c.r.d.fact 55 (f := .meth "Roll" "total") rfl),
    m_Roll_mirrored := He.meth_ok (c.r.d.fact 56 (f := .meth "Roll" "mirrored") rfl),
    m_Roll_eq := He.meth_ok (c.r.d.fact 57 (f := .meth "Roll" "__eq__") rfl),
    na_Roll_row := He.noat_ok (c.r.d.fact 58 (f := .noat "Roll" "row") rfl),
    na_Roll_firsts := He.noat_ok (c.r.d.fact 59 (f := .noat "Roll" "firsts") rfl),
    xm_InvalidNumber := He.exm_ok (c.r.d.fact 60 (f := .exm "InvalidNumber" "ClerkError" true) rfl),
    xm_InvalidList := He.exm_ok (c.r.d.fact 61 (f := .exm "InvalidList" "ClerkError" true) rfl),
    xm_InvalidAmount := He.exm_ok (c.r.d.fact 62 (f := .exm "InvalidAmount" "ClerkError" true) rfl),
    fr_super := He.free_ok X G (c.r.d.fact 63 (f := .free "super") rfl),
    x_Roll := c.r.cls 0 (x := "Roll") rfl,
    k_int_Roll := c.r.kit 0 (q := ⟨.ty "int", .own "Roll", false⟩) rfl,
    n_Roll_int := c.r.nf 0 (q := ⟨"Roll", .ty "int"⟩) rfl,
    k_Roll_int := c.r.kit 1 (q := ⟨.own "Roll", .ty "int", false⟩) rfl,
    k_bool_Roll := c.r.kit 2 (q := ⟨.ty "bool", .own "Roll", false⟩) rfl,
    n_Roll_bool := c.r.nf 1 (q := ⟨"Roll", .ty "bool"⟩) rfl,
    k_Roll_bool := c.r.kit 3 (q := ⟨.own "Roll", .ty "bool", false⟩) rfl,
    k_str_Roll := c.r.kit 4 (q := ⟨.ty "str", .own "Roll", false⟩) rfl,
    n_Roll_str := c.r.nf 2 (q := ⟨"Roll", .ty "str"⟩) rfl,
    k_Roll_str := c.r.kit 5 (q := ⟨.own "Roll", .ty "str", false⟩) rfl,
    k_NoneType_Roll := c.r.kit 6 (q := ⟨.ty "NoneType", .own "Roll", false⟩) rfl,
    n_Roll_NoneType := c.r.nf 3 (q := ⟨"Roll", .ty "NoneType"⟩) rfl,
    k_list_Roll := c.r.kit 7 (q := ⟨.ty "list", .own "Roll", false⟩) rfl,
    n_Roll_list := c.r.nf 4 (q := ⟨"Roll", .ty "list"⟩) rfl,
    k_Roll_list := c.r.kit 8 (q := ⟨.own "Roll", .ty "list", false⟩) rfl,
    k_tuple_Roll := c.r.kit 9 (q := ⟨.ty "tuple", .own "Roll", false⟩) rfl,
    n_Roll_tuple := c.r.nf 5 (q := ⟨"Roll", .ty "tuple"⟩) rfl,
    k_Roll_tuple := c.r.kit 10 (q := ⟨.own "Roll", .ty "tuple", false⟩) rfl,
    k_dict_Roll := c.r.kit 11 (q := ⟨.ty "dict", .own "Roll", false⟩) rfl,
    n_Roll_dict := c.r.nf 6 (q := ⟨"Roll", .ty "dict"⟩) rfl,
    k_Roll_dict := c.r.kit 12 (q := ⟨.own "Roll", .ty "dict", false⟩) rfl,
    k_Roll_Roll := c.r.kit 13 (q := ⟨.own "Roll", .own "Roll", true⟩) rfl,
    n_Roll_Roll := c.r.nf 7 (q := ⟨"Roll", .own "Roll"⟩) rfl,
    x_InvalidNumber := c.r.cls 1 (x := "InvalidNumber") rfl,
    k_InvalidNumber_InvalidNumber := c.r.kit 14 (q := ⟨.own "InvalidNumber", .own "InvalidNumber", true⟩) rfl,
    k_InvalidNumber_InvalidList := c.r.kit 15 (q := ⟨.own "InvalidNumber", .own "InvalidList", false⟩) rfl,
    k_InvalidNumber_InvalidAmount := c.r.kit 16 (q := ⟨.own "InvalidNumber", .own "InvalidAmount", false⟩) rfl,
    k_NoneType_InvalidNumber := c.r.kit 17 (q := ⟨.ty "NoneType", .own "InvalidNumber", false⟩) rfl,
    x_InvalidList := c.r.cls 2 (x := "InvalidList") rfl,
    k_InvalidList_InvalidNumber := c.r.kit 18 (q := ⟨.own "InvalidList", .own "InvalidNumber", false⟩) rfl,
    k_InvalidList_InvalidList := c.r.kit 19 (q := ⟨.own "InvalidList", .own "InvalidList", true⟩) rfl,
    k_InvalidList_InvalidAmount := c.r.kit 20 (q := ⟨.own "InvalidList", .own "InvalidAmount", false⟩) rfl,
    k_NoneType_InvalidList := c.r.kit 21 (q := ⟨.ty "NoneType", .own "InvalidList", false⟩) rfl,
    x_InvalidAmount := c.r.cls 3 (x := "InvalidAmount") rfl,
    k_InvalidAmount_InvalidNumber := c.r.kit 22 (q := ⟨.own "InvalidAmount", .own "InvalidNumber", false⟩) rfl,
    k_InvalidAmount_InvalidList := c.r.kit 23 (q := ⟨.own "InvalidAmount", .own "InvalidList", false⟩) rfl,
    k_InvalidAmount_InvalidAmount := c.r.kit 24 (q := ⟨.own "InvalidAmount", .own "InvalidAmount", true⟩) rfl,
    k_NoneType_InvalidAmount := c.r.kit 25 (q := ⟨.ty "NoneType", .own "InvalidAmount", false⟩) rfl,
    e_InvalidNumber := err_of (e := e_InvalidNumberD) (file := PR.main.file) (He.free_ok X G (c.r.d.fact 63 (f := .free "super") rfl)) (by decide +kernel) rfl ⟨_, _, _, rfl⟩ ⟨_, _, _, _, _, _, _, _, _, _, rfl, rfl⟩ rfl (c.err 0 (e := e_InvalidNumberD) rfl).1 (c.err 0 (e := e_InvalidNumberD) rfl).2,
    es_InvalidNumber := sub_self (c.err 0 (e := e_InvalidNumberD) rfl).2,
    e_InvalidList := err_of (e := e_InvalidListD) (file := PR.main.file) (He.free_ok X G (c.r.d.fact 63 (f := .free "super") rfl)) (by decide +kernel) rfl ⟨_, _, _, rfl⟩ ⟨_, _, _, _, _, _, _, _, _, _, rfl, rfl⟩ rfl (c.err 1 (e := e_InvalidListD) rfl).1 (c.err 1 (e := e_InvalidListD) rfl).2,
    es_InvalidList := sub_self (c.err 1 (e := e_InvalidListD) rfl).2,
    e_InvalidAmount := err_of (e := e_InvalidAmountD) (file := PR.main.file) (He.free_ok X G (c.r.d.fact 63 (f := .free "super") rfl)) (by decide +kernel) rfl ⟨_, _, _, rfl⟩ ⟨_, _, _, _, _, _, _, _, _, _, rfl, rfl⟩ rfl (c.err 2 (e := e_InvalidAmountD) rfl).1 (c.err 2 (e := e_InvalidAmountD) rfl).2,
    es_InvalidAmount := sub_self (c.err 2 (e := e_InvalidAmountD) rfl).2,
    fd_is_whole := fd_is_whole,
    F_is_whole := F_is_whole,
    fd_check_number := fd_check_number,
    F_check_number := F_check_number,
    fd_is_amount := fd_is_amount,
    F_is_amount := F_is_amount,
    fd_check_amount := fd_check_amount,
    F_check_amount := F_check_amount,
    fd_check_list := fd_check_list,
    F_check_list := F_check_list,
    fd_check_amounts := fd_check_amounts,
    F_check_amounts := F_check_amounts,
    fd_Roll_init := fd_Roll_init,
    F_Roll_init := F_Roll_init,
    fd_Roll_worths := fd_Roll_worths,
    F_Roll_worths := F_Roll_worths,
    fd_Roll_len := fd_Roll_len,
    F_Roll_len := F_Roll_len,
    fd_Roll_lap := fd_Roll_lap,
    F_Roll_lap := F_Roll_lap,
    fd_Roll_worth := fd_Roll_worth,
    F_Roll_worth := F_Roll_worth,
    fd_Roll_upto := fd_Roll_upto,
    F_Roll_upto := F_Roll_upto,
    fd_Roll_total := fd_Roll_total,
    F_Roll_total := F_Roll_total,
    fd_Roll_mirrored := fd_Roll_mirrored,
    F_Roll_mirrored := F_Roll_mirrored,
    fd_Roll_eq := fd_Roll_eq,
    F_Roll_eq := F_Roll_eq,
    fd_check_roll := fd_check_roll,
    F_check_roll := F_check_roll,
    fd_short_strips := fd_short_strips,
    F_short_strips := F_short_strips,
    fd_rests_of := fd_rests_of,
    F_rests_of := F_rests_of,
    fd_rests := fd_rests,
    F_rests := F_rests,
    fd_least_form := fd_least_form,
    F_least_form := F_least_form,
    fd_first_form := fd_first_form,
    F_first_form := F_first_form,
    fd_rows_of := fd_rows_of,
    F_rows_of := F_rows_of,
    fd_forms_of := fd_forms_of,
    F_forms_of := F_forms_of,
    fd_told_back := fd_told_back,
    F_told_back := F_told_back,
    fd_l_mixed := fd_l_mixed,
    F_l_mixed := F_l_mixed,
    fd_l_purse := fd_l_purse,
    F_l_purse := F_l_purse,
    fd_l_draw := fd_l_draw,
    F_l_draw := F_l_draw,
    fd_l_worths_drawn := fd_l_worths_drawn,
    F_l_worths_drawn := F_l_worths_drawn,
    fd_l_sum := fd_l_sum,
    F_l_sum := F_l_sum,
    fd_l_forms := fd_l_forms,
    F_l_forms := F_l_forms,
    fd_l_rests := fd_l_rests,
    F_l_rests := F_l_rests,
    fd_l_rows := fd_l_rows,
    F_l_rows := F_l_rows,
    fd_l_due := fd_l_due,
    F_l_due := F_l_due,
    fd_l_caught := fd_l_caught,
    F_l_caught := F_l_caught,
    fd_l_refused := fd_l_refused,
    F_l_refused := F_l_refused,
    fd_law := fd_law,
    F_law := F_law }⟩
end RC
/-! ## Lifting: readings told by plain data -/
namespace Lf
open PySem PySem.Spec PyProof.Rows L2
open PySem.W (Frag)

/-! ### plain results -/
/-- a raised error: its class, what it was made with -/
inductive PV where
  | non | bl (b : Bool) | int (i : Int) | str (s : Str) | lst (xs : List PV) | tup (xs : List PV)
  /-- {}; a roll: its row, its first sums -/
  | edict | roll (row firsts : List Int)
structure Exn where
  cls : Str
  val : PV
inductive Res (α : Type) where
  | ok (a : α) | err (e : Exn) | bad
/-- an undefined or too great step is bad -/
def Res.req {α β : Type} (o : Option α) (k : α → Res β) : Res β := match o with
  | some a => k a
  | none => .bad
def Res.bind {α β : Type} (m : Res α) (k : α → Res β) : Res β := match m with
  | .ok a => k a
  | .err e => .err e
  | .bad => .bad
def Res.val {α : Type} (m : Res α) : Option α := match m with
  | .ok a => some a
  | _ => none
/-- where a block leads: on, or out of the def -/
inductive Ctl (S R : Type) where
  | nx (s : S) | rt (r : R)
/-- a loop over these, one that is never left -/
def Res.fold {α S : Type} (f : S → α → Res S) : List α → S → Res S
  | [], s => .ok s
  | x :: xs, s => Res.bind (f s x) (Res.fold f xs)
/-- a loop that may be left by a return -/
def Res.loop {α S R : Type} (f : S → α → Res (Ctl S R)) : List α → S → Res (Ctl S R)
  | [], s => .ok (.nx s)
  | x :: xs, s => Res.bind (f s x) fun c => match c with
    | .nx s' => Res.loop f xs s'
    | .rt r => .ok (.rt r)
/-- a while: at most n turns; f tells none at the end -/
def Res.turns {S R : Type} (f : S → Res (Option (Ctl S R))) : Nat → S → Res (Ctl S R)
  | 0, _ => .bad
  | n + 1, s => Res.bind (f s) fun c => match c with
    | none => .ok (.nx s)
    | some (.nx s') => Res.turns f n s'
    | some (.rt r) => .ok (.rt r)
/-- behind a block that may have returned -/
def Res.after {S R X : Type} (m : Res (Ctl S R)) (k : S → Res X) (kr : R → Res X) : Res X := Res.bind m fun c => match c with
  | .nx s => k s
  | .rt r => kr r
/-- a comprehension's turns -/
def mapO {α β : Type} (f : α → Option (Option β)) : List α → Option (List β)
  | [] => some []
  | x :: xs => match f x with
    | none => none
    | some none => mapO f xs
    | some (some y) => match mapO f xs with
      | none => none
      | some ys => some (y :: ys)

/-- the same with a state -/
def mapS {α β S : Type} (f : S → α → Option (S × Option β)) : List α → S → Option (S × List β)
  | [], s => some (s, [])
  | x :: xs, s => match f s x with
    | none => none
    | some (s', none) => mapS f xs s'
    | some (s', some y) => match mapS f xs s' with
      | none => none
      | some (s'', ys) => some (s'', y :: ys)

/-! ### heaps that grow; a dict may be locked on the way -/
def LockD : HO → Prop
  | .dK _ => True
  | .dT _ => True
  | _ => False
def Le (G G' : Hp) : Prop := ∀ a o, G a = some o → G' a = some o ∨ (LockD o ∧ ∃ od, G' a = some (.frz od o))
theorem Le.refl (G : Hp) : Le G G := fun _ _ e => .inl e
theorem Le.trans {G G1 G2 : Hp} (s : Le G G1) (t : Le G1 G2) : Le G G2 := fun a o e => by
  rcases s a o e with e | ⟨d, od, e⟩
  · exact t a o e
  · rcases t a _ e with e | ⟨d', _⟩
    · exact .inr ⟨d, od, e⟩
    · exact d'.elim
theorem Le.at {G G' : Hp} (s : Le G G') {a : Addr} {o : HO} (e : G a = some o) (n : ¬ LockD o := by exact fun z => z) : G' a = some o := by
  rcases s a o e with e | ⟨d, _⟩
  · exact e
  · exact absurd d n
theorem Le.rd {G G' : Hp} (s : Le G G') {a : Addr} {kvs : List (Key × V)} (e : Rd G a (.dK kvs)) : Rd G' a (.dK kvs) := by
  rcases e with e | ⟨od, e⟩
  · rcases s a _ e with e | ⟨_, od, e⟩
    · exact .inl e
    · exact .inr ⟨od, e⟩
  · exact .inr ⟨od, s.at e⟩
theorem Le.sql {K : Frag} {G G' : Hp} (s : Le G G') {a : Addr} {xs : List V} (e : SqL K G a xs) : SqL K G' a xs := by
  rcases e with (e | ⟨o, e⟩) | e
  · exact .inl (.inl (s.at e))
  · exact .inl (.inr ⟨o, s.at e⟩)
  · exact .inr e
theorem Le.new {H : Hp} {p : Addr} {o : HO} (h : H p = none) : Le H (upd H p o) := fun b x e => .inl (by
  rw [upd_ne (ne_of_none e h)]
  exact e)
/-! ### what stands for what -/
class Rp (α : Type) where
  rep : Frag → Hp → V → α → Prop
  mono : ∀ {K : Frag} {H H' : Hp} {v : V} {x : α}, Le H H' → rep K H v x → rep K H' v x
instance : Rp Int := ⟨fun _ _ v x => v = .int x, fun _ h => h⟩
instance : Rp Bool := ⟨fun _ _ v x => v = .bl x, fun _ h => h⟩
instance : Rp Str := ⟨fun _ _ v x => v = .str x, fun _ h => h⟩
instance : Rp Unit := ⟨fun _ _ v _ => v = .non, fun _ h => h⟩
def repO {α : Type} [Rp α] (K : Frag) (H : Hp) (v : V) : Option α → Prop
  | none => v = .non
  | some x => Rp.rep K H v x ∧ v ≠ .non
instance {α : Type} [Rp α] : Rp (Option α) := ⟨repO, fun {K H H' v x} s h => match x, h with
  | none, h => h
  | some _, h => ⟨Rp.mono s h.1, h.2⟩⟩
theorem Paired.mono' {α β : Type} {F G : α → β → Prop} (f : ∀ a b, F a b → G a b) : ∀ {xs : List α} {ys : List β}, Paired F xs ys → Paired G xs ys
  | _, _, .nil => .nil
  | _, _, .cons r t => .cons (f _ _ r) (Paired.mono' f t)
abbrev All {α : Type} [Rp α] (K : Frag) (H : Hp) (vs : List V) (xs : List α) : Prop := Paired (fun v x => Rp.rep K H v x) vs xs
theorem All.mono {α : Type} [Rp α] {K : Frag} {H H' : Hp} {vs : List V} {xs : List α} (s : Le H H') (h : All K H vs xs) : All K H' vs xs := Paired.mono' (fun _ _ r => Rp.mono s r) h
def repL {α : Type} [Rp α] (K : Frag) (H : Hp) (v : V) (xs : List α) : Prop := ∃ a vs, v = .ref a ∧ H a = some (.lst vs) ∧ All K H vs xs ∧ xs.length ≤ sizeLine
instance {α : Type} [Rp α] : Rp (List α) := ⟨repL, fun s ⟨a, vs, e, q, p, l⟩ => ⟨a, vs, e, s.at q, All.mono s p, l⟩⟩
/-- the script -/
structure Sc where
  l : List Int
instance : Rp Sc := ⟨fun K H v t => ∃ a, v = .ref a ∧ SqL K H a (t.l.map V.int), fun s ⟨a, e, q⟩ => ⟨a, e, Le.sql s q⟩⟩
mutual
inductive AnyV (K : Frag) (H : Hp) : V → PV → Prop
  | non : AnyV K H .non .non
  | bl (b : Bool) : AnyV K H (.bl b) (.bl b)
  | int (i : Int) : AnyV K H (.int i) (.int i)
  | str (s : Str) : AnyV K H (.str s) (.str s)
  | lst {a : Addr} {vs : List V} {xs : List PV} (h : H a = some (.lst vs)) (p : AnyL K H vs xs) : AnyV K H (.ref a) (.lst xs)
  | tup {a : Addr} {vs : List V} {xs : List PV} (h : H a = some (.tup vs)) (p : AnyL K H vs xs) : AnyV K H (.ref a) (.tup xs)
  | edict {a : Addr} (h : Rd H a (.dK [])) : AnyV K H (.ref a) .edict
  | roll {p dx a b : Addr} {row firsts : List Int} (h : H p = some (.ins (He.ga K "Roll") dx [("row", .ref a), ("firsts", .ref b)])) (h1 : H a = some (.tup (row.map V.int))) (h2 : H b = some (.tup (firsts.map V.int))) (l1 : row.length ≤ sizeLine) (l2 : firsts.length ≤ sizeLine) : AnyV K H (.ref p) (.roll row firsts)
inductive AnyL (K : Frag) (H : Hp) : List V → List PV → Prop
  | nil : AnyL K H [] []
  | cons {v : V} {x : PV} {vs : List V} {xs : List PV} (h : AnyV K H v x) (t : AnyL K H vs xs) : AnyL K H (v :: vs) (x :: xs)
end
mutual
theorem AnyV.mono {K : Frag} {H H' : Hp} (s : Le H H') : ∀ {v : V} {x : PV}, AnyV K H v x → AnyV K H' v x
  | _, _, .non => .non
  | _, _, .bl b => .bl b
  | _, _, .int i => .int i
  | _, _, .str x => .str x
  | _, _, .lst h p => .lst (s.at h) (AnyL.mono s p)
  | _, _, .tup h p => .tup (s.at h) (AnyL.mono s p)
  | _, _, .edict h => .edict (s.rd h)
  | _, _, .roll h h1 h2 l1 l2 => .roll (s.at h) (s.at h1) (s.at h2) l1 l2
theorem AnyL.mono {K : Frag} {H H' : Hp} (s : Le H H') : ∀ {v : List V} {x : List PV}, AnyL K H v x → AnyL K H' v x
  | _, _, .nil => .nil
  | _, _, .cons h t => .cons (AnyV.mono s h) (AnyL.mono s t)
end
instance : Rp PV := ⟨fun K H v x => AnyV K H v x, fun s h => AnyV.mono s h⟩
/-- a tuple of any length, its items alike -/
structure Tu (α : Type) where
  l : List α
instance {α : Type} [Rp α] : Rp (Tu α) := ⟨fun K H v t => ∃ a vs, v = .ref a ∧ H a = some (.tup vs) ∧ All K H vs t.l ∧ t.l.length ≤ sizeLine, fun s ⟨a, vs, e, q, p, l⟩ => ⟨a, vs, e, s.at q, All.mono s p, l⟩⟩
instance {α β : Type} [Rp α] [Rp β] : Rp (α × β) := ⟨fun K H v t => ∃ a x y, v = .ref a ∧ H a = some (.tup [x, y]) ∧ Rp.rep K H x t.1 ∧ Rp.rep K H y t.2, fun s ⟨a, x, y, e, q, p, r⟩ => ⟨a, x, y, e, s.at q, Rp.mono s p, Rp.mono s r⟩⟩
/-- keys of dicts -/
class Kp (κ : Type) where
  key : κ → Key
  inj : ∀ {a b : κ}, key a = key b → a = b
instance : Kp Int := ⟨Sum.inl, fun h => Sum.inl.inj h⟩
instance : Kp Str := ⟨Sum.inr, fun h => Sum.inr.inj h⟩
structure Dic (κ α : Type) where
  l : List (κ × α)
abbrev AllD {κ α : Type} [Kp κ] [Rp α] (K : Frag) (H : Hp) (kvs : List (Key × V)) (xs : List (κ × α)) : Prop := Paired (fun kv x => kv.1 = Kp.key x.1 ∧ Rp.rep K H kv.2 x.2) kvs xs
theorem AllD.mono {κ α : Type} [Kp κ] [Rp α] {K : Frag} {H H' : Hp} {vs : List (Key × V)} {xs : List (κ × α)} (s : Le H H') (h : AllD K H vs xs) : AllD K H' vs xs := Paired.mono' (fun _ _ r => ⟨r.1, Rp.mono s r.2⟩) h
instance {κ α : Type} [Kp κ] [Rp α] : Rp (Dic κ α) := ⟨fun K H v t => ∃ a kvs, v = .ref a ∧ Rd H a (.dK kvs) ∧ AllD K H kvs t.l ∧ t.l.length ≤ sizeLine, fun s ⟨a, vs, e, q, p, l⟩ => ⟨a, vs, e, s.rd q, AllD.mono s p, l⟩⟩

/-! ### what is known of a value, of an object -/
structure MP where
  p : Hp → V → Prop
  mono : ∀ {H H' : Hp} {v : V}, Le H H' → p H v → p H' v
def is {α : Type} [Rp α] (K : Frag) (x : α) : MP := ⟨fun H v => Rp.rep K H v x, fun s h => Rp.mono s h⟩
def adr (a : Addr) : MP := ⟨fun _ v => v = .ref a, fun _ h => h⟩
structure OC where
  p : Hp → HO → Prop
  mono : ∀ {H H' : Hp} {o : HO}, Le H H' → p H o → p H' o
/-- a list that is one's own -/
def olst {α : Type} [Rp α] (K : Frag) (xs : List α) : OC := ⟨fun G o => ∃ vs, o = .lst vs ∧ All K G vs xs ∧ xs.length ≤ sizeLine, fun s ⟨vs, e, h, l⟩ => ⟨vs, e, All.mono s h, l⟩⟩
def odic {κ α : Type} [Kp κ] [Rp α] (K : Frag) (d : Dic κ α) : OC := ⟨fun G o => ∃ kvs, o = .dK kvs ∧ AllD K G kvs d.l ∧ d.l.length ≤ sizeLine, fun s ⟨vs, e, h, l⟩ => ⟨vs, e, AllD.mono s h, l⟩⟩
/-- an object of one's own: its fields -/
def oins (C : Addr) (ms : List (Str × MP)) : OC := ⟨fun G o => ∃ dx fs, o = .ins C dx fs ∧ Paired (fun (f : Str × V) (m : Str × MP) => f.1 = m.1 ∧ m.2.p G f.2) fs ms, fun s ⟨dx, fs, e, h⟩ => ⟨dx, fs, e, Paired.mono' (fun _ _ r => ⟨r.1, MP.mono _ s r.2⟩) h⟩⟩
inductive Ent where
  | own (p : Addr) (φ : OC)
def Ent.adr : Ent → Addr
  | .own p _ => p
/-- G: what stands still; ω: what is one's own -/
structure At (G : Hp) (ω : List Ent) (H : Hp) : Prop where
  sh : ∀ a o, G a = some o → H a = some o
  own : ∀ (i : Nat) (p : Addr) (φ : OC), ω[i]? = some (Ent.own p φ) → G p = none ∧ ∃ o, H p = some o ∧ φ.p G o
  nd : ∀ (i j : Nat) (e e' : Ent), ω[i]? = some e → ω[j]? = some e' → e.adr = e'.adr → i = j
section
variable {G G2 H : Hp} {ω : List Ent} {p : Addr} {o o' : HO} {φ φ' : OC}
theorem At.there (h : At G ω H) {i : Nat} {e : Ent} (he : ω[i]? = some e) : ∃ o, H e.adr = some o := by
  cases e with
  | own p φ =>
    obtain ⟨_, o, q, _⟩ := h.own i p φ he
    exact ⟨o, q⟩
theorem At.get (h : At G ω H) {a : Addr} (e : G a = some o) : H a = some o := h.sh a o e
theorem At.rd (h : At G ω H) {a : Addr} (e : Rd G a o) : Rd H a o := by
  rcases e with e | ⟨od, e⟩
  · exact .inl (h.sh _ _ e)
  · exact .inr ⟨od, h.sh _ _ e⟩
/-- a dict that stands still is locked -/
theorem At.lock (h : At G ω H) {a : Addr} {od : Obj} (e : G a = some o) (d : LockD o) : At (upd G a (.frz od o)) ω (upd H a (.frz od o)) ∧ Le G (upd G a (.frz od o)) := by
  have s : Le G (upd G a (.frz od o)) := fun b u eb => by
    by_cases z : b = a
    · subst z
      rw [e] at eb
      cases eb
      exact .inr ⟨d, od, upd_same⟩
    · exact .inl (by rw [upd_ne z]; exact eb)
  refine ⟨⟨fun b u eb => ?_, fun i q φ hi => ?_, h.nd⟩, s⟩
  · by_cases z : b = a
    · subst z
      rw [upd_same] at eb
      rw [upd_same]
      exact eb
    · rw [upd_ne z] at eb
      rw [upd_ne z]
      exact h.sh b u eb
  · obtain ⟨x, y, b, c⟩ := h.own i q φ hi
    have z : q ≠ a := fun z => by
      rw [z, e] at x
      cases x
    exact ⟨by rw [upd_ne z]; exact x, y, by rw [upd_ne z]; exact b, φ.mono s c⟩
theorem At.lst (h : At G ω H) {a : Addr} {xs : List V} (e : G a = some (.lst xs)) : H a = some (.lst xs) := h.get e
theorem At.tup (h : At G ω H) {a : Addr} {xs : List V} (e : G a = some (.tup xs)) : H a = some (.tup xs) := h.get e
theorem At.free (h : At G ω H) (n : H p = none) : G p = none := by
  cases e : G p with
  | none => rfl
  | some o =>
    rw [h.sh p o e] at n
    cases n
theorem At.apart (h : At G ω H) (n : H p = none) {i : Nat} {e : Ent} (he : ω[i]? = some e) : e.adr ≠ p := fun z => by
  obtain ⟨o, q⟩ := h.there he
  rw [z, n] at q
  cases q
/-- something new that stands still -/
theorem At.new (h : At G ω H) (n : H p = none) : At (upd G p o) ω (upd H p o) ∧ Le G (upd G p o) := by
  have s : Le G (upd G p o) := Le.new (h.free n)
  refine ⟨⟨fun a u e => ?_, fun i q φ e => ?_, h.nd⟩, s⟩
  · by_cases z : a = p
    · subst z
      rw [upd_same] at e
      rw [upd_same]
      exact e
    · rw [upd_ne z] at e
      rw [upd_ne z]
      exact h.sh a u e
  · obtain ⟨a, o, b, c⟩ := h.own i q φ e
    have z : q ≠ p := h.apart n e
    exact ⟨by rw [upd_ne z]; exact a, o, by rw [upd_ne z]; exact b, φ.mono s c⟩
/-- something new of one's own -/
theorem At.newOwn (h : At G ω H) (n : H p = none) (q : φ.p G o) : At G (.own p φ :: ω) (upd H p o) := by
  have np := h.free n
  refine ⟨fun a u e => ?_, fun i r ψ e => ?_, fun i j e e' hi hj z => ?_⟩
  · have z : a ≠ p := ne_of_none e np
    rw [upd_ne z]
    exact h.sh a u e
  · cases i with
    | zero =>
      have e' : Ent.own p φ = Ent.own r ψ := Option.some.inj e
      cases e'
      exact ⟨np, o, upd_same, q⟩
    | succ i =>
      obtain ⟨a, u, b, c⟩ := h.own i r ψ e
      have z : r ≠ p := h.apart n (e := .own r ψ) e
      exact ⟨a, u, by rw [upd_ne z]; exact b, c⟩
  · cases i with
    | zero =>
      cases j with
      | zero => rfl
      | succ j =>
        have hi' : Ent.own p φ = e := Option.some.inj hi
        subst hi'
        exact absurd z.symm (h.apart n (e := e') hj)
    | succ i =>
      cases j with
      | zero =>
        have hj' : Ent.own p φ = e' := Option.some.inj hj
        subst hj'
        exact absurd z (h.apart n (e := e) hi)
      | succ j => rw [h.nd i j e e' hi hj z]
/-- what is one's own is changed -/
theorem At.put {k : Nat} (h : At G ω H) (e : ω[k]? = some (Ent.own p φ)) (q : φ'.p G o) : At G (ω.set k (.own p φ')) (upd H p o) := by
  have np := (h.own k p φ e).1
  have lk : k < ω.length := (List.getElem?_eq_some_iff.mp e).1
  have other : ∀ (i : Nat) (x : Ent), (ω.set k (.own p φ'))[i]? = some x → (i = k ∧ x = .own p φ') ∨ (i ≠ k ∧ ω[i]? = some x) := fun i x hx => by
    by_cases z : k = i
    · subst z
      rw [List.getElem?_set_self lk] at hx
      exact .inl ⟨rfl, (Option.some.inj hx).symm⟩
    · rw [List.getElem?_set_ne z] at hx
      exact .inr ⟨fun y => z y.symm, hx⟩
  refine ⟨fun a u ea => ?_, fun i r ψ hi => ?_, fun i j x x' hi hj z => ?_⟩
  · have z : a ≠ p := ne_of_none ea np
    rw [upd_ne z]
    exact h.sh a u ea
  · rcases other i _ hi with ⟨_, z⟩ | ⟨nk, hi⟩
    · cases z
      exact ⟨np, o, upd_same, q⟩
    · obtain ⟨a, u, b, c⟩ := h.own i r ψ hi
      have z : r ≠ p := fun z => nk (h.nd i k _ _ hi e z)
      exact ⟨a, u, by rw [upd_ne z]; exact b, c⟩
  · have adr : ∀ (i : Nat) (x : Ent), (ω.set k (.own p φ'))[i]? = some x → ∃ y, ω[i]? = some y ∧ y.adr = x.adr := fun i x hx => by
      rcases other i x hx with ⟨ei, ex⟩ | ⟨_, hi⟩
      · exact ⟨_, by rw [ei]; exact e, by rw [ex]; rfl⟩
      · exact ⟨x, hi, rfl⟩
    obtain ⟨y, hy, ey⟩ := adr i x hi
    obtain ⟨y', hy', ey'⟩ := adr j x' hj
    exact h.nd i j y y' hy hy' (by rw [ey, ey', z])
/-- some of it in another order -/
theorem At.sub {ω' : List Ent} (h : At G ω H) (f : Nat → Nat) (hf : ∀ (i : Nat) (e : Ent), ω'[i]? = some e → ω[f i]? = some e) (inj : ∀ (i j : Nat) (e e' : Ent), ω'[i]? = some e → ω'[j]? = some e' → f i = f j → i = j) : At G ω' H :=
  ⟨h.sh, fun i p φ e => h.own (f i) p φ (hf _ _ e), fun i j e e' hi hj z => inj i j e e' hi hj (h.nd (f i) (f j) e e' (hf _ _ hi) (hf _ _ hj) z)⟩
/-- the last made is let go -/
theorem At.drop (h : At G (.own p φ :: ω) H) : At G ω H := h.sub (fun i => i + 1) (fun i e q => q) (fun i j _ _ _ _ z => Nat.succ.inj z)
/-- the last made stands still from here on -/
theorem At.freeze (h : At G (.own p φ :: ω) H) : ∃ o, H p = some o ∧ φ.p G o ∧ At (upd G p o) ω H ∧ Le G (upd G p o) := by
  obtain ⟨np, o, e, q⟩ := h.own 0 p φ rfl
  have s : Le G (upd G p o) := Le.new np
  have d := h.drop
  have ap : ∀ (i : Nat) (x : Ent), ω[i]? = some x → x.adr ≠ p := fun i x hx z => by
    have := h.nd (i + 1) 0 x _ hx rfl z
    omega
  refine ⟨o, e, q, ⟨fun a u ea => ?_, fun i r ψ hi => ?_, d.nd⟩, s⟩
  · by_cases z : a = p
    · subst z
      rw [upd_same] at ea
      rw [e]
      exact ea
    · rw [upd_ne z] at ea
      exact d.sh a u ea
  · obtain ⟨a, u, b, c⟩ := d.own i r ψ hi
    exact ⟨by rw [upd_ne (show r ≠ p from ap i _ hi)]; exact a, u, b, ψ.mono s c⟩
theorem eraseIdx_get (ω : List Ent) (k i : Nat) : (ω.eraseIdx k)[i]? = ω[if i < k then i else i + 1]? := by
  rw [List.getElem?_eraseIdx]
  split <;> rfl
/-- the k-th to the front, and back -/
theorem At.front {k : Nat} {e : Ent} (h : At G ω H) (he : ω[k]? = some e) : At G (e :: ω.eraseIdx k) H := by
  have lk : k < ω.length := (List.getElem?_eq_some_iff.mp he).1
  refine h.sub (fun i => match i with | 0 => k | i + 1 => if i < k then i else i + 1) (fun i x hx => ?_) (fun i j x x' hi hj z => ?_)
  · cases i with
    | zero => exact he.trans hx
    | succ i =>
      have hx' : (ω.eraseIdx k)[i]? = some x := hx
      rw [eraseIdx_get] at hx'
      exact hx'
  · cases i with
    | zero =>
      cases j with
      | zero => rfl
      | succ j =>
        have z' : k = if j < k then j else j + 1 := z
        split at z' <;> omega
    | succ i =>
      cases j with
      | zero =>
        have z' : (if i < k then i else i + 1) = k := z
        split at z' <;> omega
      | succ j =>
        have z' : (if i < k then i else i + 1) = if j < k then j else j + 1 := z
        split at z' <;> split at z' <;> omega
theorem At.back {k : Nat} (h : At G (.own p φ' :: ω.eraseIdx k) H) (he : ω[k]? = some (Ent.own p φ)) : At G (ω.set k (.own p φ')) H := by
  have lk : k < ω.length := (List.getElem?_eq_some_iff.mp he).1
  refine h.sub (fun i => if i = k then 0 else if i < k then i + 1 else i) (fun i x hx => ?_) (fun i j x x' hi hj z => ?_)
  · by_cases z : i = k
    · subst z
      rw [List.getElem?_set_self lk] at hx
      rw [if_pos rfl]
      exact hx
    · rw [List.getElem?_set_ne (fun y => z y.symm)] at hx
      rw [if_neg z]
      by_cases y : i < k
      · rw [if_pos y]
        show (ω.eraseIdx k)[i]? = _
        rw [eraseIdx_get, if_pos y]
        exact hx
      · rw [if_neg y]
        cases i with
        | zero => omega
        | succ i =>
          show (ω.eraseIdx k)[i]? = _
          rw [eraseIdx_get, if_neg (by omega)]
          exact hx
  · have z' : (if i = k then 0 else if i < k then i + 1 else i) = if j = k then 0 else if j < k then j + 1 else j := z
    split at z' <;> split at z' <;> (try split at z') <;> (try split at z') <;> omega
end
end Lf
/-! ## Readings told by plain data: expressions -/
namespace Lf
open PySem PySem.Spec PyProof.Rows L2
open PySem.W (Frag)
abbrev Gm := List (Option MP)
/-- the slots hold what Γ says -/
def Reps (G : Hp) (σ : L2.St) (Γ : Gm) : Prop := σ.length = Γ.length ∧ ∀ (i : Nat) (m : MP), Γ[i]? = some (some m) → ∃ v, σ[i]? = some (some v) ∧ m.p G v
theorem Reps.mono {G G' : Hp} {σ : L2.St} {Γ : Gm} (s : Le G G') (h : Reps G σ Γ) : Reps G' σ Γ := ⟨h.1, fun i m e => let ⟨v, a, b⟩ := h.2 i m e; ⟨v, a, m.mono s b⟩⟩
theorem Reps.set {G : Hp} {σ : L2.St} {Γ : Gm} {i : Nat} {v : V} {m : MP} (h : Reps G σ Γ) (q : m.p G v) : Reps G (σ.set i (some v)) (Γ.set i (some m)) := by
  refine ⟨by rw [List.length_set, List.length_set, h.1], fun j n e => ?_⟩
  by_cases z : i = j
  · subst z
    have l : i < Γ.length := by
      have := (List.getElem?_eq_some_iff.mp e).1
      rwa [List.length_set] at this
    rw [List.getElem?_set_self l] at e
    cases e
    exact ⟨v, by rw [List.getElem?_set_self (by rw [h.1]; exact l)], q⟩
  · rw [List.getElem?_set_ne z] at e
    rw [List.getElem?_set_ne z]
    exact h.2 j n e
/-- what is known may be forgotten -/
def Sub (Γ Γ' : Gm) : Prop := Γ.length = Γ'.length ∧ ∀ (i : Nat) (m : MP), Γ'[i]? = some (some m) → Γ[i]? = some (some m)
theorem Reps.sub {G : Hp} {σ : L2.St} {Γ Γ' : Gm} (h : Reps G σ Γ) (s : Sub Γ Γ') : Reps G σ Γ' := ⟨h.1.trans s.1, fun i m e => h.2 i m (s.2 i m e)⟩
theorem Sub.nil : Sub [] [] := ⟨rfl, fun _ _ e => e⟩
theorem Sub.keep {a : Option MP} {Γ Γ' : Gm} (s : Sub Γ Γ') : Sub (a :: Γ) (a :: Γ') := ⟨congrArg Nat.succ s.1, fun i m e => match i with
  | 0 => e
  | i + 1 => s.2 i m e⟩
theorem Sub.lose {a : Option MP} {Γ Γ' : Gm} (s : Sub Γ Γ') : Sub (a :: Γ) (none :: Γ') := ⟨congrArg Nat.succ s.1, fun i m e => match i with
  | 0 => by cases (Option.some.inj e)
  | i + 1 => s.2 i m e⟩
theorem Sub.refl (Γ : Gm) : Sub Γ Γ := ⟨rfl, fun _ _ e => e⟩

/-! ### expressions -/
def EvX (te : TE) (Γ : Gm) (ω ω' : List Ent) (m : MP) : Prop := ∀ (σ : L2.St) (G H : Hp) (Q : VK), Reps G σ Γ → At G ω H → (∀ v G2 H2, Le G G2 → At G2 ω' H2 → m.p G2 v → Q v H2) → te σ H Q
def EvT (tt : TT) (Γ : Gm) (ω ω' : List Ent) (b : Bool) : Prop := ∀ (σ : L2.St) (G H : Hp) (Q : Bool → Hp → Prop), Reps G σ Γ → At G ω H → (∀ G2 H2, Le G G2 → At G2 ω' H2 → Q b H2) → tt σ H Q
def PArgs (G : Hp) (vs : List V) (ms : List MP) : Prop := Paired (fun (v : V) (m : MP) => m.p G v) vs ms
theorem PArgs.mono {G G' : Hp} {vs : List V} {ms : List MP} (s : Le G G') (h : PArgs G vs ms) : PArgs G' vs ms := Paired.mono' (fun _ m r => m.mono s r) h
def EvA (ta : TA) (Γ : Gm) (ω ω' : List Ent) (ms : List MP) : Prop := ∀ (σ : L2.St) (G H : Hp) (Q : List V → Hp → Prop), Reps G σ Γ → At G ω H → (∀ vs G2 H2, Le G G2 → At G2 ω' H2 → PArgs G2 vs ms → Q vs H2) → ta σ H Q
def EvO (to : TO) (Γ : Gm) (ω ω' : List Ent) (o : Option Int) : Prop := ∀ (σ : L2.St) (G H : Hp) (Q : Option Int → Hp → Prop), Reps G σ Γ → At G ω H → (∀ G2 H2, Le G G2 → At G2 ω' H2 → Q o H2) → to σ H Q
/-- operations on values -/
def OpX (r : R2) (ω ω' : List Ent) (a b m : MP) : Prop := ∀ (G H : Hp) (x y : V) (Q : VK), At G ω H → a.p G x → b.p G y → (∀ v G2 H2, Le G G2 → At G2 ω' H2 → m.p G2 v → Q v H2) → r x y H Q
def CaX (r : List V → Hp → VK → Prop) (ω ω' : List Ent) (ms : List MP) (m : MP) : Prop := ∀ (G H : Hp) (vs : List V) (Q : VK), At G ω H → PArgs G vs ms → (∀ v G2 H2, Le G G2 → At G2 ω' H2 → m.p G2 v → Q v H2) → r vs H Q
section
variable {K : Frag} {Γ : Gm} {ω ω1 ω2 ω3 : List Ent} {ta tb te : TE} {a b m : MP} {tt uu : TT}
theorem EvX.var {i : Nat} (h : Γ[i]? = some (some m)) : EvX (tVar i) Γ ω ω m := fun σ G H Q r w q => let ⟨v, e, p⟩ := r.2 i m h; ⟨v, e, q v G H (Le.refl _) w p⟩
theorem EvX.int {i : Int} : EvX (tC (.int i)) Γ ω ω (is K i) := fun σ G H Q r w q => q _ G H (Le.refl _) w rfl
theorem EvX.bl {i : Bool} : EvX (tC (.bl i)) Γ ω ω (is K i) := fun σ G H Q r w q => q _ G H (Le.refl _) w rfl
theorem EvX.str {i : Str} : EvX (tC (.str i)) Γ ω ω (is K i) := fun σ G H Q r w q => q _ G H (Le.refl _) w rfl
theorem EvX.non {α : Type} [Rp α] : EvX (tC .non) Γ ω ω (is K (none : Option α)) := fun σ G H Q r w q => q _ G H (Le.refl _) w rfl
theorem EvX.unit : EvX (tC .non) Γ ω ω (is K ()) := fun σ G H Q r w q => q _ G H (Le.refl _) w rfl
/-- the value told in another way -/
theorem EvX.as {m' : MP} (h : EvX te Γ ω ω1 m) (f : ∀ G v, m.p G v → m'.p G v) : EvX te Γ ω ω1 m' := fun σ G H Q r w q => h σ G H Q r w fun v G2 H2 s w2 p => q v G2 H2 s w2 (f _ _ p)
theorem EvX.eq {α : Type} [Rp α] {x y : α} (h : EvX te Γ ω ω1 (is K x)) (e : x = y) : EvX te Γ ω ω1 (is K y) := e ▸ h
theorem EvX.op {r : R2} (ha : EvX ta Γ ω ω1 a) (hb : EvX tb Γ ω1 ω2 b) (hr : OpX r ω2 ω3 a b m) : EvX (tOp r ta tb) Γ ω ω3 m := fun σ G H Q r w q =>
  ha σ G H _ r w fun x G1 H1 s1 w1 p1 => hb σ G1 H1 _ (r.mono s1) w1 fun y G2 H2 s2 w2 p2 => hr G2 H2 x y Q w2 (a.mono s2 p1) p2 fun v G3 H3 s3 w3 p3 => q v G3 H3 (s1.trans (s2.trans s3)) w3 p3
theorem EvX.un {r : V → Hp → VK → Prop} (ha : EvX ta Γ ω ω1 a) (hr : ∀ (G H : Hp) (x : V) (Q : VK), At G ω1 H → a.p G x → (∀ v G2 H2, Le G G2 → At G2 ω2 H2 → m.p G2 v → Q v H2) → r x H Q) : EvX (tUn r ta) Γ ω ω2 m := fun σ G H Q r w q =>
  ha σ G H _ r w fun x G1 H1 s1 w1 p1 => hr G1 H1 x Q w1 p1 fun v G3 H3 s3 w3 p3 => q v G3 H3 (s1.trans s3) w3 p3
theorem EvX.neg {i : Int} (ha : EvX ta Γ ω ω1 (is K i)) : EvX (tUn (rU fun i => .int (-i)) ta) Γ ω ω1 (is K (-i)) := ha.un fun G H x Q w e q => by
  cases e
  exact ⟨i, rfl, q _ G H (Le.refl _) w rfl⟩
/-- operations that make nothing new -/
theorem OpX.val {r : R2} {α β γ : Type} [Rp α] [Rp β] [Rp γ] {x : α} {y : β} {z : γ} (h : ∀ (G H : Hp) (u v : V) (Q : VK), At G ω H → Rp.rep K G u x → Rp.rep K G v y → ∃ t, Rp.rep K G t z ∧ (Q t H → r u v H Q)) : OpX r ω ω (is K x) (is K y) (is K z) := fun G H u v Q w p1 p2 q => by
  obtain ⟨t, e, f⟩ := h G H u v Q w p1 p2
  exact f (q t G H (Le.refl _) w e)
theorem OpX.I0 {β : Type} [Rp β] {g : Int → Int → V} {i j : Int} {z : β} (h : ∀ (H : Hp), Rp.rep K H (g i j) z) : OpX (rI0 g) ω ω (is K i) (is K j) (is K z) := fun G H u v Q w p1 p2 q => by
  cases p1
  cases p2
  exact ⟨i, j, rfl, rfl, q _ G H (Le.refl _) w (h G)⟩
theorem OpX.I {β : Type} [Rp β] {C : Int → Int → Prop} {g : Int → Int → V} {i j : Int} {z : β} (c : C i j) (h : ∀ (H : Hp), Rp.rep K H (g i j) z) : OpX (rI C g) ω ω (is K i) (is K j) (is K z) := fun G H u v Q w p1 p2 q => by
  cases p1
  cases p2
  exact ⟨i, j, rfl, rfl, c, q _ G H (Le.refl _) w (h G)⟩
/-! ints -/
def imul (i j : Int) : Option Int := if i.natAbs < 2 ^ 100000 ∧ j.natAbs < 2 ^ 100000 then some (i * j) else none
def ifdiv (i j : Int) : Option Int := if 0 < j ∧ j.natAbs < 2 ^ 9000 then some (i / j) else none
def imod (i j : Int) : Option Int := if 0 < j then some (i % j) else none
theorem OpX.add {i j : Int} : OpX (rI0 fun i j => .int (i + j)) ω ω (is K i) (is K j) (is K (i + j)) := .I0 fun _ => rfl
theorem OpX.sub {i j : Int} : OpX (rI0 fun i j => .int (i - j)) ω ω (is K i) (is K j) (is K (i - j)) := .I0 fun _ => rfl
theorem imul_ok {i j k : Int} (h : imul i j = some k) : CMulW i j ∧ k = i * j := by
  unfold imul at h
  split at h
  · rename_i c
    exact ⟨wide_mul c.1 c.2 (by decide) (by decide) (by decide), (Option.some.inj h).symm⟩
  · cases h
theorem OpX.mul {i j k : Int} (h : imul i j = some k) : OpX (rI CMulW fun i j => .int (i * j)) ω ω (is K i) (is K j) (is K k) := by
  obtain ⟨c, rfl⟩ := imul_ok h
  exact .I c fun _ => rfl
theorem OpX.fdiv {i j k : Int} (h : ifdiv i j = some k) : OpX (rI CDivW fun i j => .int (i / j)) ω ω (is K i) (is K j) (is K k) := by
  unfold ifdiv at h
  split at h
  · rename_i c
    cases h
    exact .I (wide_div c.1 c.2 (by decide) (by decide)) fun _ => rfl
  · cases h
theorem OpX.mod {i j k : Int} (h : imod i j = some k) : OpX (rI (fun _ j => 0 < j) fun i j => .int (i % j)) ω ω (is K i) (is K j) (is K k) := by
  unfold imod at h
  split at h
  · rename_i c
    cases h
    exact .I c fun _ => rfl
  · cases h
def ipow (i j : Int) : Option Int := if 0 ≤ j ∧ (Builtin.Int.intBits i : Int) * j ≤ 2 ^ 27 then some (i ^ j.toNat) else none
theorem OpX.pow {i j k : Int} (h : ipow i j = some k) : OpX (rI RC.CPowW fun i j => .int (i ^ j.toNat)) ω ω (is K i) (is K j) (is K k) := by
  unfold ipow at h
  split at h
  · rename_i c
    cases h
    exact .I c fun _ => rfl
  · cases h
theorem OpX.lt {i j : Int} : OpX (rI0 fun i j => .bl (decide (i < j))) ω ω (is K i) (is K j) (is K (decide (i < j))) := .I0 fun _ => rfl
theorem OpX.le {i j : Int} : OpX (rI0 fun i j => .bl (decide (i ≤ j))) ω ω (is K i) (is K j) (is K (decide (i ≤ j))) := .I0 fun _ => rfl
theorem OpX.gt {i j : Int} : OpX (rI0 fun i j => .bl (decide (j < i))) ω ω (is K i) (is K j) (is K (decide (j < i))) := .I0 fun _ => rfl
theorem OpX.ge {i j : Int} : OpX (rI0 fun i j => .bl (decide (j ≤ i))) ω ω (is K i) (is K j) (is K (decide (j ≤ i))) := .I0 fun _ => rfl
/-- == of flat values of one kind -/
class Fl (α : Type) extends Rp α where
  v : α → V
  of : ∀ {K : Frag} {H : Hp} {u : V} {x : α}, Rp.rep K H u x → u = v x
  dec : DecidableEq α
  sc : ∀ x y : α, scal (v x) (v y) = true
  eqv : ∀ x y : α, v x = v y ↔ x = y
instance : Fl Int := { v := .int, of := fun h => h, dec := inferInstance, sc := fun _ _ => rfl, eqv := fun x y => ⟨fun h => V.int.inj h, fun h => h ▸ rfl⟩ }
instance : Fl Bool := { v := .bl, of := fun h => h, dec := inferInstance, sc := fun _ _ => rfl, eqv := fun x y => ⟨fun h => V.bl.inj h, fun h => h ▸ rfl⟩ }
instance : Fl Str := { v := .str, of := fun h => h, dec := inferInstance, sc := fun _ _ => rfl, eqv := fun x y => ⟨fun h => V.str.inj h, fun h => h ▸ rfl⟩ }
theorem OpX.eq {α : Type} [f : Fl α] [d : DecidableEq α] {x y : α} : OpX rEq ω ω (is K x) (is K y) (is K (decide (x = y))) := fun G H u v Q w p1 p2 q => by
  rw [f.of p1, f.of p2]
  refine ⟨f.sc x y, q _ G H (Le.refl _) w ?_⟩
  show V.bl _ = V.bl _
  rw [decide_eq_decide.mpr (f.eqv x y)]
theorem OpX.ne {α : Type} [f : Fl α] [d : DecidableEq α] {x y : α} : OpX rNe ω ω (is K x) (is K y) (is K (!decide (x = y))) := fun G H u v Q w p1 p2 q => by
  rw [f.of p1, f.of p2]
  refine ⟨f.sc x y, q _ G H (Le.refl _) w ?_⟩
  show V.bl _ = V.bl _
  rw [decide_eq_decide.mpr (f.eqv x y)]
/-- is None -/
theorem OpX.isN {α : Type} [Rp α] {x : Option α} {n : MP} (hn : ∀ G v, n.p G v → v = .non) : OpX (fun x y H Q => y = .non ∧ Q (.bl (decide (x = .non))) H) ω ω (is K x) n (is K x.isNone) := fun G H u v Q w p1 p2 q => by
  refine ⟨hn G v p2, q _ G H (Le.refl _) w ?_⟩
  show V.bl _ = V.bl _
  cases x with
  | none =>
    cases p1
    rfl
  | some x => rw [decide_eq_false p1.2]; rfl
theorem OpX.notN {α : Type} [Rp α] {x : Option α} {n : MP} (hn : ∀ G v, n.p G v → v = .non) : OpX (fun x y H Q => y = .non ∧ Q (.bl (!decide (x = .non))) H) ω ω (is K x) n (is K x.isSome) := fun G H u v Q w p1 p2 q => by
  refine ⟨hn G v p2, q _ G H (Le.refl _) w ?_⟩
  show V.bl _ = V.bl _
  cases x with
  | none =>
    cases p1
    rfl
  | some x => rw [decide_eq_false p1.2]; rfl
theorem non_unit {K : Frag} : ∀ G v, (is K ()).p G v → v = .non := fun _ _ h => h
/-! bools -/
theorem EvX.not {b : Bool} (h : EvX ta Γ ω ω1 (is K b)) : EvX (tNotV ta) Γ ω ω1 (is K (!b)) := fun σ G H Q r w q => h σ G H _ r w fun v G2 H2 s w2 p => ⟨b, p, q _ G2 H2 s w2 rfl⟩
theorem EvX.and {a b : Bool} (h1 : EvX ta Γ ω ω1 (is K a)) (h2 : a = true → EvX tb Γ ω1 ω1 (is K b)) : EvX (tAndV ta tb) Γ ω ω1 (is K (a && b)) := fun σ G H Q r w q => h1 σ G H _ r w fun v G2 H2 s w2 p => ⟨a, p, by
  cases a with
  | true => exact RC.if_t rfl (h2 rfl σ G2 H2 Q (r.mono s) w2 fun v G3 H3 s3 w3 p3 => q v G3 H3 (s.trans s3) w3 p3)
  | false => exact RC.if_f rfl (q _ G2 H2 s w2 rfl)⟩
theorem EvX.or {a b : Bool} (h1 : EvX ta Γ ω ω1 (is K a)) (h2 : a = false → EvX tb Γ ω1 ω1 (is K b)) : EvX (tOrV ta tb) Γ ω ω1 (is K (a || b)) := fun σ G H Q r w q => h1 σ G H _ r w fun v G2 H2 s w2 p => ⟨a, p, by
  cases a with
  | false => exact RC.if_f rfl (h2 rfl σ G2 H2 Q (r.mono s) w2 fun v G3 H3 s3 w3 p3 => q v G3 H3 (s.trans s3) w3 p3)
  | true => exact RC.if_t rfl (q _ G2 H2 s w2 rfl)⟩
/-- the same, the second side told where it is asked: b is what both come to -/
theorem EvX.andO {a b : Bool} {o : Option Bool} (h1 : EvX ta Γ ω ω1 (is K a)) (h2 : a = true → o = some b → EvX tb Γ ω1 ω1 (is K b)) (h : (if a then o else some false) = some b) : EvX (tAndV ta tb) Γ ω ω1 (is K b) := by
  cases a with
  | true =>
    have := EvX.and h1 (fun _ => h2 rfl h)
    exact this
  | false =>
    cases h
    have := EvX.and (b := false) (tb := tb) h1 (fun z => nomatch z)
    exact this
theorem EvX.orO {a b : Bool} {o : Option Bool} (h1 : EvX ta Γ ω ω1 (is K a)) (h2 : a = false → o = some b → EvX tb Γ ω1 ω1 (is K b)) (h : (if a then some true else o) = some b) : EvX (tOrV ta tb) Γ ω ω1 (is K b) := by
  cases a with
  | false =>
    have := EvX.or h1 (fun _ => h2 rfl h)
    exact this
  | true =>
    cases h
    have := EvX.or (b := true) (tb := tb) h1 (fun z => nomatch z)
    exact this
theorem EvX.ite {c : Bool} (h : EvT tt Γ ω ω1 c) (h1 : c = true → EvX ta Γ ω1 ω2 m) (h2 : c = false → EvX tb Γ ω1 ω2 m) : EvX (tIf tt ta tb) Γ ω ω2 m := fun σ G H Q r w q => h σ G H _ r w fun G2 H2 s w2 => by
  cases c with
  | true => exact RC.if_t rfl (h1 rfl σ G2 H2 Q (r.mono s) w2 fun v G3 H3 s3 w3 p3 => q v G3 H3 (s.trans s3) w3 p3)
  | false => exact RC.if_f rfl (h2 rfl σ G2 H2 Q (r.mono s) w2 fun v G3 H3 s3 w3 p3 => q v G3 H3 (s.trans s3) w3 p3)
/-- a bound step within a part that is not always reached -/
theorem bindO {β γ : Type} {o : Option β} {k : β → Option γ} {z : γ} {P : Prop} (h : o.bind k = some z) (f : ∀ y, o = some y → k y = some z → P) : P := by
  cases o with
  | none => cases h
  | some y => exact f y rfl h
/-! tests -/
theorem EvT.test {b : Bool} (h : EvX te Γ ω ω1 (is K b)) : EvT (tTest te) Γ ω ω1 b := fun σ G H Q r w q => h σ G H _ r w fun v G2 H2 s w2 p => ⟨b, p, q G2 H2 s w2⟩
theorem EvT.B {b : Bool} (h : EvX te Γ ω ω1 (is K b)) : EvT (tB te) Γ ω ω1 b := fun σ G H Q r w q => h σ G H _ r w fun v G2 H2 s w2 p => ⟨b, p, q G2 H2 s w2⟩
theorem EvT.not {b : Bool} (h : EvT tt Γ ω ω1 b) : EvT (tNot tt) Γ ω ω1 (!b) := fun σ G H Q r w q => h σ G H _ r w fun G2 H2 s w2 => q G2 H2 s w2
theorem EvT.yes : EvT tYes Γ ω ω true := fun σ G H Q r w q => q G H (Le.refl _) w
theorem EvT.and {a b : Bool} (h1 : EvT tt Γ ω ω1 a) (h2 : a = true → EvT uu Γ ω1 ω1 b) : EvT (tAnd tt uu) Γ ω ω1 (a && b) := fun σ G H Q r w q => h1 σ G H _ r w fun G2 H2 s w2 => by
  cases a with
  | true => exact RC.if_t rfl (h2 rfl σ G2 H2 Q (r.mono s) w2 fun G3 H3 s3 w3 => q G3 H3 (s.trans s3) w3)
  | false => exact RC.if_f rfl (q G2 H2 s w2)
theorem EvT.or {a b : Bool} (h1 : EvT tt Γ ω ω1 a) (h2 : a = false → EvT uu Γ ω1 ω1 b) : EvT (tOr tt uu) Γ ω ω1 (a || b) := fun σ G H Q r w q => h1 σ G H _ r w fun G2 H2 s w2 => by
  cases a with
  | false => exact RC.if_f rfl (h2 rfl σ G2 H2 Q (r.mono s) w2 fun G3 H3 s3 w3 => q G3 H3 (s.trans s3) w3)
  | true => exact RC.if_t rfl (q G2 H2 s w2)
theorem EvT.andO {a b : Bool} {o : Option Bool} (h1 : EvT tt Γ ω ω1 a) (h2 : a = true → o = some b → EvT uu Γ ω1 ω1 b) (h : (if a then o else some false) = some b) : EvT (tAnd tt uu) Γ ω ω1 b := by
  cases a with
  | true =>
    have := EvT.and h1 (fun _ => h2 rfl h)
    exact this
  | false =>
    cases h
    have := EvT.and (b := false) (uu := uu) h1 (fun z => nomatch z)
    exact this
theorem EvT.orO {a b : Bool} {o : Option Bool} (h1 : EvT tt Γ ω ω1 a) (h2 : a = false → o = some b → EvT uu Γ ω1 ω1 b) (h : (if a then some true else o) = some b) : EvT (tOr tt uu) Γ ω ω1 b := by
  cases a with
  | false =>
    have := EvT.or h1 (fun _ => h2 rfl h)
    exact this
  | true =>
    cases h
    have := EvT.or (b := true) (uu := uu) h1 (fun z => nomatch z)
    exact this
/-! arguments, displays -/
theorem EvA.nil : EvA tNil Γ ω ω [] := fun σ G H Q r w q => q [] G H (Le.refl _) w .nil
theorem EvA.cons {tr : TA} {ms : List MP} (h : EvX ta Γ ω ω1 a) (hr : EvA tr Γ ω1 ω2 ms) : EvA (tCons ta tr) Γ ω ω2 (a :: ms) := fun σ G H Q r w q =>
  h σ G H _ r w fun v G1 H1 s1 w1 p1 => hr σ G1 H1 _ (r.mono s1) w1 fun vs G2 H2 s2 w2 p2 => q (v :: vs) G2 H2 (s1.trans s2) w2 (.cons (a.mono s2 p1) p2)
theorem PArgs.one {G : Hp} {vs : List V} (h : PArgs G vs [a]) : ∃ v, vs = [v] ∧ a.p G v := by
  cases h with
  | cons r t =>
    cases t
    exact ⟨_, rfl, r⟩
theorem PArgs.two {G : Hp} {vs : List V} (h : PArgs G vs [a, b]) : ∃ v w, vs = [v, w] ∧ a.p G v ∧ b.p G w := by
  cases h with
  | cons r t =>
    obtain ⟨w, rfl, q⟩ := PArgs.one t
    exact ⟨_, w, rfl, r, q⟩
theorem all_of {α : Type} [Rp α] {K : Frag} {G : Hp} : ∀ {xs : List α} {vs : List V}, PArgs G vs (xs.map (is K)) → All K G vs xs
  | [], _, h => by
    cases h
    exact .nil
  | x :: xs, _, h => by
    cases h with
    | cons r t => exact .cons r (all_of t)
theorem PArgs.of_all {α : Type} [Rp α] {K : Frag} {G : Hp} : ∀ {xs : List α} {vs : List V}, All K G vs xs → PArgs G vs (xs.map (is K))
  | _, _, .nil => .nil
  | _, _, .cons r t => .cons r (PArgs.of_all t)
theorem Paired.len {α β : Type} {F : α → β → Prop} : ∀ {xs : List α} {ys : List β}, Paired F xs ys → xs.length = ys.length
  | _, _, .nil => rfl
  | _, _, .cons _ t => congrArg Nat.succ (Paired.len t)
theorem PArgs.len {G : Hp} {vs : List V} {ms : List MP} (h : PArgs G vs ms) : vs.length = ms.length := Paired.len h
/-- a list made -/
theorem EvX.lst {α : Type} [Rp α] {tA : TA} {ms : List MP} {xs : List α} (h : EvA tA Γ ω ω1 ms) (e : ms = xs.map (is K)) (l : xs.length ≤ sizeLine) : EvX (tLst tA) Γ ω ω1 (is K xs) := fun σ G H Q r w q => h σ G H _ r w fun vs G1 H1 s1 w1 p1 => by
  have hl : vs.length = xs.length := by rw [p1.len, e, List.length_map]
  refine ⟨by rw [hl]; exact l, fun p hp => ?_⟩
  obtain ⟨w2, s2⟩ := w1.new (o := .lst vs) hp
  exact q _ _ _ (s1.trans s2) w2 ⟨p, vs, rfl, upd_same, All.mono s2 (all_of (e ▸ p1)), l⟩
theorem EvX.tu {α : Type} [Rp α] {tA : TA} {ms : List MP} {xs : List α} (h : EvA tA Γ ω ω1 ms) (e : ms = xs.map (is K)) (l : xs.length ≤ sizeLine) : EvX (tTup tA) Γ ω ω1 (is K (Tu.mk xs)) := fun σ G H Q r w q => h σ G H _ r w fun vs G1 H1 s1 w1 p1 => by
  have hl : vs.length = xs.length := by rw [p1.len, e, List.length_map]
  refine ⟨by rw [hl]; exact l, fun p hp => ?_⟩
  obtain ⟨w2, s2⟩ := w1.new (o := .tup vs) hp
  exact q _ _ _ (s1.trans s2) w2 ⟨p, vs, rfl, upd_same, All.mono s2 (all_of (e ▸ p1)), l⟩
theorem EvX.pair {α β : Type} [Rp α] [Rp β] {tA : TA} {x : α} {y : β} (h : EvA tA Γ ω ω1 [is K x, is K y]) : EvX (tTup tA) Γ ω ω1 (is K (x, y)) := fun σ G H Q r w q => h σ G H _ r w fun vs G1 H1 s1 w1 p1 => by
  obtain ⟨u, v, rfl, p, p'⟩ := PArgs.two p1
  refine ⟨by show 2 ≤ sizeLine; decide, fun a ha => ?_⟩
  obtain ⟨w2, s2⟩ := w1.new (o := .tup [u, v]) ha
  exact q _ _ _ (s1.trans s2) w2 ⟨a, u, v, rfl, upd_same, Rp.mono s2 p, Rp.mono s2 p'⟩
/-! calls of built-ins -/
theorem EvX.ca {r : List V → Hp → VK → Prop} {tA : TA} {ms : List MP} (h : EvA tA Γ ω ω1 ms) (c : CaX r ω1 ω2 ms m) : EvX (tCB r tA) Γ ω ω2 m := fun σ G H Q r w q => h σ G H _ r w fun vs G1 H1 s1 w1 p1 => c G1 H1 vs Q w1 p1 fun v G2 H2 s2 w2 p2 => q v G2 H2 (s1.trans s2) w2 p2
/-- an own list or dict as it stands -/
theorem At.ownAt {G H : Hp} {k : Nat} {p : Addr} {φ : OC} (w : At G ω H) (h : ω[k]? = some (Ent.own p φ)) : ∃ o, H p = some o ∧ φ.p G o := (w.own k p φ h).2
theorem CaX.len {α : Type} [Rp α] {xs : List α} : CaX (Evl.rLenS K) ω ω [is K xs] (is K (xs.length : Int)) := fun G H vs Q w p q => by
  obtain ⟨v, rfl, a, us, rfl, e, h, l⟩ := PArgs.one p
  exact ⟨a, us, rfl, .inl (RC.sq_of (w.lst e)), q _ G H (Le.refl _) w (by rw [Paired.len h]; rfl)⟩
theorem CaX.lenT {α : Type} [Rp α] {xs : Tu α} : CaX (Evl.rLenS K) ω ω [is K xs] (is K (xs.l.length : Int)) := fun G H vs Q w p q => by
  obtain ⟨v, rfl, a, us, rfl, e, h, l⟩ := PArgs.one p
  exact ⟨a, us, rfl, .inr (RC.st_of (w.tup e)), q _ G H (Le.refl _) w (by rw [Paired.len h]; rfl)⟩
theorem CaX.lenS {s : Sc} : CaX (Evl.rLenS K) ω ω [is K s] (is K (s.l.length : Int)) := fun G H vs Q w p q => by
  obtain ⟨v, rfl, a, rfl, e⟩ := PArgs.one p
  have e' : SqL K H a (s.l.map V.int) := by
    rcases e with (e | ⟨o, e⟩) | e
    · exact .inl (.inl (w.lst e))
    · exact .inl (.inr ⟨o, w.get e⟩)
    · exact .inr e
  have hl : ((s.l.map V.int).length : Int) = (s.l.length : Int) := by rw [List.length_map]
  exact ⟨a, s.l.map V.int, rfl, .inl e', hl ▸ q (.int ((s.l.map V.int).length : Int)) G H (Le.refl _) w (by rw [hl]; exact (rfl : V.int _ = _))⟩
theorem CaX.lenO {α : Type} [Rp α] {xs : List α} {k : Nat} {p : Addr} (h : ω[k]? = some (Ent.own p (olst K xs))) : CaX (Evl.rLenS K) ω ω [adr p] (is K (xs.length : Int)) := fun G H vs Q w pa q => by
  obtain ⟨v, rfl, rfl⟩ := PArgs.one pa
  obtain ⟨o, e, us, rfl, z, _⟩ := w.ownAt h
  exact ⟨p, us, rfl, .inl (RC.sq_of e), q _ G H (Le.refl _) w (by rw [Paired.len z]; rfl)⟩
end
end Lf
/-! ## Readings told by plain data: statements, loops, comprehensions -/
namespace Lf
open PySem PySem.Spec PyProof.Rows L2
open PySem.W (Frag)
open He (ga)
/-! ### new lists and dicts: one's own at first -/
def EvF (te : TE) (Γ : Gm) (ω ω' : List Ent) (φ : OC) : Prop := ∀ (σ : L2.St) (G H : Hp) (Q : VK), Reps G σ Γ → At G ω H → (∀ p G2 H2, Le G G2 → At G2 (.own p φ :: ω') H2 → Q (.ref p) H2) → te σ H Q
def OpF (r : R2) (ω ω' : List Ent) (a b : MP) (φ : OC) : Prop := ∀ (G H : Hp) (x y : V) (Q : VK), At G ω H → a.p G x → b.p G y → (∀ p G2 H2, Le G G2 → At G2 (.own p φ :: ω') H2 → Q (.ref p) H2) → r x y H Q
def CaF (r : List V → Hp → VK → Prop) (ω ω' : List Ent) (ms : List MP) (φ : OC) : Prop := ∀ (G H : Hp) (vs : List V) (Q : VK), At G ω H → PArgs G vs ms → (∀ p G2 H2, Le G G2 → At G2 (.own p φ :: ω') H2 → Q (.ref p) H2) → r vs H Q
section
variable {K : Frag} {Γ : Gm} {ω ω1 ω2 ω3 : List Ent} {ta tb te : TE} {a b m : MP} {tt uu : TT} {φ : OC} {α β : Type} [Rp α] [Rp β]
theorem EvX.fr {xs : List α} (h : EvF te Γ ω ω1 (olst K xs)) : EvX te Γ ω ω1 (is K xs) := fun σ G H Q r w q => h σ G H Q r w fun p G2 H2 s w2 => by
  obtain ⟨o, e, ⟨vs, rfl, hv, l⟩, w3, s3⟩ := w2.freeze
  exact q _ _ H2 (s.trans s3) w3 ⟨p, vs, rfl, upd_same, All.mono s3 hv, l⟩
theorem EvX.frD {κ : Type} [Kp κ] {d : Dic κ α} (h : EvF te Γ ω ω1 (odic K d)) : EvX te Γ ω ω1 (is K d) := fun σ G H Q r w q => h σ G H Q r w fun p G2 H2 s w2 => by
  obtain ⟨o, e, ⟨vs, rfl, hv, l⟩, w3, s3⟩ := w2.freeze
  exact q _ _ H2 (s.trans s3) w3 ⟨p, vs, rfl, .inl upd_same, AllD.mono s3 hv, l⟩
theorem EvF.op {r : R2} (ha : EvX ta Γ ω ω1 a) (hb : EvX tb Γ ω1 ω2 b) (hr : OpF r ω2 ω3 a b φ) : EvF (tOp r ta tb) Γ ω ω3 φ := fun σ G H Q r w q =>
  ha σ G H _ r w fun x G1 H1 s1 w1 p1 => hb σ G1 H1 _ (r.mono s1) w1 fun y G2 H2 s2 w2 p2 => hr G2 H2 x y Q w2 (a.mono s2 p1) p2 fun v G3 H3 s3 w3 => q v G3 H3 (s1.trans (s2.trans s3)) w3
theorem EvF.ca {r : List V → Hp → VK → Prop} {tA : TA} {ms : List MP} (h : EvA tA Γ ω ω1 ms) (c : CaF r ω1 ω2 ms φ) : EvF (tCB r tA) Γ ω ω2 φ := fun σ G H Q r w q => h σ G H _ r w fun vs G1 H1 s1 w1 p1 => c G1 H1 vs Q w1 p1 fun v G2 H2 s2 w2 => q v G2 H2 (s1.trans s2) w2
theorem EvF.lst {tA : TA} {ms : List MP} {xs : List α} (h : EvA tA Γ ω ω1 ms) (e : ms = xs.map (is K)) (l : xs.length ≤ sizeLine) : EvF (tLst tA) Γ ω ω1 (olst K xs) := fun σ G H Q r w q => h σ G H _ r w fun vs G1 H1 s1 w1 p1 => by
  have hl : vs.length = xs.length := by rw [p1.len, e, List.length_map]
  exact ⟨by rw [hl]; exact l, fun p hp => q p _ _ s1 (w1.newOwn hp ⟨vs, rfl, all_of (e ▸ p1), l⟩)⟩
/-- what a new list at p of vs is -/
theorem newL {G H : Hp} {p : Addr} {vs : List V} {xs : List α} (w : At G ω H) (hp : H p = none) (h : All K G vs xs) (l : xs.length ≤ sizeLine) : At G (.own p (olst K xs) :: ω) (upd H p (.lst vs)) := w.newOwn hp ⟨vs, rfl, h, l⟩
/-! lists: list(..), tuple(..), slices, +, *, index, sum -/
theorem CaF.list {xs : List α} : CaF (Evl.rListS K) ω ω [is K xs] (olst K xs) := fun G H vs Q w p q => by
  obtain ⟨v, rfl, a, us, rfl, e, h, l⟩ := PArgs.one p
  exact ⟨a, us, rfl, .inl (RC.sq_of (w.lst e)), fun p hp => q p G _ (Le.refl _) (newL w hp h l)⟩
theorem CaF.listT {xs : Tu α} : CaF (Evl.rListS K) ω ω [is K xs] (olst K xs.l) := fun G H vs Q w p q => by
  obtain ⟨v, rfl, a, us, rfl, e, h, l⟩ := PArgs.one p
  exact ⟨a, us, rfl, .inr (RC.st_of (w.tup e)), fun p hp => q p G _ (Le.refl _) (newL w hp h l)⟩
theorem CaF.listO {xs : List α} {k : Nat} {p : Addr} (h : ω[k]? = some (Ent.own p (olst K xs))) : CaF (Evl.rListS K) ω ω [adr p] (olst K xs) := fun G H vs Q w pa q => by
  obtain ⟨v, rfl, rfl⟩ := PArgs.one pa
  obtain ⟨o, e, us, rfl, z, l⟩ := w.ownAt h
  exact ⟨p, us, rfl, .inl (RC.sq_of e), fun p hp => q p G _ (Le.refl _) (newL w hp z l)⟩
theorem CaX.tuple {xs : List α} : CaX (RC.rTupS K) ω ω [is K xs] (is K (Tu.mk xs)) := fun G H vs Q w p q => by
  obtain ⟨v, rfl, a, us, rfl, e, h, l⟩ := PArgs.one p
  refine ⟨a, us, rfl, .inl ⟨RC.sq_of (w.lst e), fun p hp => ?_⟩⟩
  obtain ⟨w2, s2⟩ := w.new (o := .tup us) hp
  exact q _ _ _ s2 w2 ⟨p, us, rfl, upd_same, All.mono s2 h, l⟩
theorem CaX.tupleO {xs : List α} {k : Nat} {p : Addr} (h : ω[k]? = some (Ent.own p (olst K xs))) : CaX (RC.rTupS K) ω ω [adr p] (is K (Tu.mk xs)) := fun G H vs Q w pa q => by
  obtain ⟨v, rfl, rfl⟩ := PArgs.one pa
  obtain ⟨o, e, us, rfl, z, l⟩ := w.ownAt h
  refine ⟨p, us, rfl, .inl ⟨RC.sq_of e, fun b hb => ?_⟩⟩
  obtain ⟨w2, s2⟩ := w.new (o := .tup us) hb
  exact q _ _ _ s2 w2 ⟨b, us, rfl, upd_same, All.mono s2 z, l⟩
theorem Paired.at_ {γ δ : Type} {F : γ → δ → Prop} : ∀ {xs : List γ} {ys : List δ} {i : Nat} {y : δ}, Paired F xs ys → ys[i]? = some y → ∃ x, xs[i]? = some x ∧ F x y
  | _, _, _, _, .nil, h => by simp at h
  | _, _, 0, _, .cons r _, h => by
    cases (Option.some.inj (show some _ = some _ from h))
    exact ⟨_, rfl, r⟩
  | _, _, i + 1, _, .cons _ t, h => Paired.at_ (i := i) t (by simpa using h)
theorem All.atI {G : Hp} {vs : List V} {xs : List α} {i : Int} {x : α} (h : All K G vs xs) (e : atI xs i = some x) : ∃ v, L2.atI vs i = some v ∧ Rp.rep K G v x := by
  unfold L2.atI at e ⊢
  rw [Paired.len h]
  cases z : ixN xs.length i with
  | none =>
    rw [z] at e
    cases e
  | some j =>
    rw [z] at e
    exact Paired.at_ h e
theorem OpX.ixL {xs : List α} {i : Int} {x : α} (e : atI xs i = some x) : OpX (rIxL K) ω ω (is K xs) (is K i) (is K x) := fun G H u v Q w p1 p2 q => by
  obtain ⟨a, us, rfl, ea, h, _⟩ := p1
  cases p2
  obtain ⟨v, ev, hv⟩ := All.atI h e
  exact ⟨a, us, i, v, rfl, rfl, RC.sq_of (w.lst ea), ev, q v G H (Le.refl _) w hv⟩
theorem OpX.ixO {xs : List α} {i : Int} {x : α} {k : Nat} {p : Addr} (h : ω[k]? = some (Ent.own p (olst K xs))) (e : atI xs i = some x) : OpX (rIxL K) ω ω (adr p) (is K i) (is K x) := fun G H u v Q w p1 p2 q => by
  cases p1
  cases p2
  obtain ⟨o, eo, us, rfl, z, _⟩ := w.ownAt h
  obtain ⟨v, ev, hv⟩ := All.atI z e
  exact ⟨p, us, i, v, rfl, rfl, RC.sq_of eo, ev, q v G H (Le.refl _) w hv⟩
theorem OpX.ixT {xs : Tu α} {i : Int} {x : α} (e : atI xs.l i = some x) : OpX (rIxT K) ω ω (is K xs) (is K i) (is K x) := fun G H u v Q w p1 p2 q => by
  obtain ⟨a, us, rfl, ea, h, _⟩ := p1
  cases p2
  obtain ⟨v, ev, hv⟩ := All.atI h e
  exact ⟨a, us, i, v, rfl, rfl, RC.st_of (w.tup ea), ev, q v G H (Le.refl _) w hv⟩
theorem OpX.fst {x : α} {y : β} : OpX (rIxT K) ω ω (is K (x, y)) (is K (0 : Int)) (is K x) := fun G H u v Q w p1 p2 q => by
  obtain ⟨a, u, v, rfl, ea, h, _⟩ := p1
  cases p2
  exact ⟨a, _, 0, u, rfl, rfl, RC.st_of (w.tup ea), rfl, q u G H (Le.refl _) w h⟩
theorem OpX.snd {x : α} {y : β} : OpX (rIxT K) ω ω (is K (x, y)) (is K (1 : Int)) (is K y) := fun G H u v Q w p1 p2 q => by
  obtain ⟨a, u, v, rfl, ea, _, h⟩ := p1
  cases p2
  exact ⟨a, _, 1, v, rfl, rfl, RC.st_of (w.tup ea), rfl, q v G H (Le.refl _) w h⟩
theorem ints_of {G : Hp} : ∀ {vs : List V} {ns : List Int}, All K G vs ns → vs = ns.map V.int
  | _, _, .nil => rfl
  | _, _, .cons r t => by rw [show _ = V.int _ from r, ints_of t]; rfl
theorem CaX.sum {ns : List Int} : CaX (rSum K) ω ω [is K ns] (is K ns.sum) := fun G H vs Q w p q => by
  obtain ⟨v, rfl, a, us, rfl, e, h, l⟩ := PArgs.one p
  exact ⟨a, ns, rfl, by rw [← ints_of h]; exact RC.sq_of (w.lst e), q _ G H (Le.refl _) w rfl⟩
theorem CaX.sumO {ns : List Int} {k : Nat} {p : Addr} (h : ω[k]? = some (Ent.own p (olst K ns))) : CaX (rSum K) ω ω [adr p] (is K ns.sum) := fun G H vs Q w pa q => by
  obtain ⟨v, rfl, rfl⟩ := PArgs.one pa
  obtain ⟨o, e, us, rfl, z, l⟩ := w.ownAt h
  exact ⟨p, ns, rfl, by rw [← ints_of z]; exact RC.sq_of e, q _ G H (Le.refl _) w rfl⟩
/-- a slice of a list -/
def cut (xs : List α) (lo hi : Option Int) : List α := (xs.drop (HT.sIx xs.length 0 lo)).take (HT.sIx xs.length xs.length hi - HT.sIx xs.length 0 lo)
theorem Paired.drop' {γ δ : Type} {F : γ → δ → Prop} : ∀ {xs : List γ} {ys : List δ} (n : Nat), Paired F xs ys → Paired F (xs.drop n) (ys.drop n)
  | _, _, 0, h => h
  | _, _, n + 1, .nil => .nil
  | _, _, n + 1, .cons _ t => Paired.drop' n t
theorem Paired.take' {γ δ : Type} {F : γ → δ → Prop} : ∀ {xs : List γ} {ys : List δ} (n : Nat), Paired F xs ys → Paired F (xs.take n) (ys.take n)
  | _, _, 0, h => .nil
  | _, _, n + 1, .nil => .nil
  | _, _, n + 1, .cons r t => .cons r (Paired.take' n t)
theorem Paired.app' {γ δ : Type} {F : γ → δ → Prop} : ∀ {xs xs' : List γ} {ys ys' : List δ}, Paired F xs ys → Paired F xs' ys' → Paired F (xs ++ xs') (ys ++ ys')
  | _, _, _, _, .nil, h => h
  | _, _, _, _, .cons r t, h => .cons r (Paired.app' t h)
theorem Paired.rev' {γ δ : Type} {F : γ → δ → Prop} : ∀ {xs : List γ} {ys : List δ}, Paired F xs ys → Paired F xs.reverse ys.reverse
  | _, _, .nil => .nil
  | _, _, .cons r t => by rw [List.reverse_cons, List.reverse_cons]; exact Paired.app' (Paired.rev' t) (.cons r .nil)
theorem cut_len (xs : List α) (lo hi : Option Int) : (cut xs lo hi).length ≤ xs.length := by
  unfold cut
  rw [List.length_take, List.length_drop]
  omega
theorem All.cut {G : Hp} {vs : List V} {xs : List α} {lo hi : Option Int} (h : All K G vs xs) : All K G (cutV vs lo hi) (cut xs lo hi) := by
  unfold cutV Lf.cut
  rw [Paired.len h]
  exact Paired.take' _ (Paired.drop' _ h)
theorem EvO.none : EvO tNoPart Γ ω ω none := fun σ G H Q r w q => q G H (Le.refl _) w
theorem EvO.some {i : Int} (h : EvX te Γ ω ω1 (is K i)) : EvO (tPart te) Γ ω ω1 (some i) := fun σ G H Q r w q => h σ G H _ r w fun v G2 H2 s w2 p => ⟨i, p, q G2 H2 s w2⟩
theorem EvF.slL {xs : List α} {tl th : TO} {lo hi : Option Int} (h : EvX te Γ ω ω1 (is K xs)) (h1 : EvO tl Γ ω1 ω2 lo) (h2 : EvO th Γ ω2 ω3 hi) : EvF (tSl (rSlL K) te tl th) Γ ω ω3 (olst K (cut xs lo hi)) := fun σ G H Q r w q =>
  h σ G H _ r w fun v G1 H1 s1 w1 p1 => h1 σ G1 H1 _ (r.mono s1) w1 fun G2 H2 s2 w2 => h2 σ G2 H2 _ (r.mono (s1.trans s2)) w2 fun G3 H3 s3 w3 => by
    obtain ⟨a, us, rfl, e, ha, l⟩ := (is K xs).mono (s2.trans s3) p1
    exact ⟨a, us, rfl, RC.sq_of (w3.lst e), fun p hp => q p G3 _ (s1.trans (s2.trans s3)) (newL w3 hp (All.cut ha) (Nat.le_trans (cut_len _ _ _) l))⟩
theorem EvF.slO {xs : List α} {tl th : TO} {lo hi : Option Int} {k : Nat} {p : Addr} (h : EvX te Γ ω ω1 (adr p)) (h1 : EvO tl Γ ω1 ω2 lo) (h2 : EvO th Γ ω2 ω3 hi) (ho : ω3[k]? = some (Ent.own p (olst K xs))) : EvF (tSl (rSlL K) te tl th) Γ ω ω3 (olst K (cut xs lo hi)) := fun σ G H Q r w q =>
  h σ G H _ r w fun v G1 H1 s1 w1 p1 => h1 σ G1 H1 _ (r.mono s1) w1 fun G2 H2 s2 w2 => h2 σ G2 H2 _ (r.mono (s1.trans s2)) w2 fun G3 H3 s3 w3 => by
    cases p1
    obtain ⟨o, e, us, rfl, z, l⟩ := w3.ownAt ho
    exact ⟨p, us, rfl, RC.sq_of e, fun p hp => q p G3 _ (s1.trans (s2.trans s3)) (newL w3 hp (All.cut z) (Nat.le_trans (cut_len _ _ _) l))⟩
theorem EvF.slS {xs : Sc} {tl th : TO} {lo hi : Option Int} (h : EvX te Γ ω ω1 (is K xs)) (h1 : EvO tl Γ ω1 ω2 lo) (h2 : EvO th Γ ω2 ω3 hi) (hl : xs.l.length ≤ 63) : EvF (tSl (rSlL K) te tl th) Γ ω ω3 (olst K (cut xs.l lo hi)) := fun σ G H Q r w q =>
  h σ G H _ r w fun v G1 H1 s1 w1 p1 => h1 σ G1 H1 _ (r.mono s1) w1 fun G2 H2 s2 w2 => h2 σ G2 H2 _ (r.mono (s1.trans s2)) w2 fun G3 H3 s3 w3 => by
    obtain ⟨a, rfl, e⟩ := (is K xs).mono (s2.trans s3) p1
    have e' : SqL K H3 a (xs.l.map V.int) := by
      rcases e with (e | ⟨o, e⟩) | e
      · exact .inl (.inl (w3.lst e))
      · exact .inl (.inr ⟨o, w3.get e⟩)
      · exact .inr e
    have ha : All K G3 (xs.l.map V.int) xs.l := by
      generalize xs.l = l
      induction l with
      | nil => exact .nil
      | cons z l ih => exact .cons rfl ih
    exact ⟨a, _, rfl, e', fun p hp => q p G3 _ (s1.trans (s2.trans s3)) (newL w3 hp (All.cut ha) (Nat.le_trans (cut_len _ _ _) (Nat.le_trans hl (by decide))))⟩
theorem EvF.rev {xs : List α} (h : EvX te Γ ω ω1 (is K xs)) : EvF (tRevL K te) Γ ω ω1 (olst K xs.reverse) := fun σ G H Q r w q => h σ G H _ r w fun v G1 H1 s1 w1 p1 => by
  obtain ⟨a, us, rfl, e, ha, l⟩ := p1
  exact ⟨a, us, rfl, RC.sq_of (w1.lst e), fun p hp => q p G1 _ s1 (newL w1 hp (Paired.rev' ha) (by rw [List.length_reverse]; exact l))⟩
theorem EvF.revO {xs : List α} {k : Nat} {p : Addr} (h : EvX te Γ ω ω1 (adr p)) (ho : ω1[k]? = some (Ent.own p (olst K xs))) : EvF (tRevL K te) Γ ω ω1 (olst K xs.reverse) := fun σ G H Q r w q => h σ G H _ r w fun v G1 H1 s1 w1 p1 => by
  cases p1
  obtain ⟨o, e, us, rfl, z, l⟩ := w1.ownAt ho
  exact ⟨p, us, rfl, RC.sq_of e, fun p hp => q p G1 _ s1 (newL w1 hp (Paired.rev' z) (by rw [List.length_reverse]; exact l))⟩
/-- xs + ys, where it is not too long -/
def cat (xs ys : List α) : Option (List α) := if xs.length + ys.length ≤ sizeLine then some (xs ++ ys) else none
theorem OpF.cat {xs ys zs : List α} (e : Lf.cat xs ys = some zs) : OpF rCat ω ω (is K xs) (is K ys) (olst K zs) := fun G H u v Q w p1 p2 q => by
  obtain ⟨a, us, rfl, ea, ha, _⟩ := p1
  obtain ⟨b, vs, rfl, eb, hb, _⟩ := p2
  unfold Lf.cat at e
  split at e
  · rename_i c
    cases e
    refine ⟨a, b, us, vs, rfl, rfl, w.lst ea, w.lst eb, by rw [Paired.len ha, Paired.len hb]; exact c, fun p hp => q p G _ (Le.refl _) (newL w hp (Paired.app' ha hb) (by rw [List.length_append]; exact c))⟩
  · cases e
def rep (xs : List α) (k : Int) : Option (List α) := if -(2 ^ 62) ≤ k ∧ k < 2 ^ 62 ∧ xs.length * k.toNat ≤ sizeLine then some (List.replicate k.toNat xs).flatten else none
theorem Paired.flat {γ δ : Type} {F : γ → δ → Prop} {xs : List γ} {ys : List δ} (h : Paired F xs ys) : ∀ n : Nat, Paired F (List.replicate n xs).flatten (List.replicate n ys).flatten
  | 0 => .nil
  | n + 1 => by
    rw [List.replicate_succ, List.replicate_succ, List.flatten_cons, List.flatten_cons]
    exact Paired.app' h (Paired.flat h n)
theorem flat_len {γ : Type} (xs : List γ) (n : Nat) : (List.replicate n xs).flatten.length = xs.length * n := by
  induction n with
  | zero => simp
  | succ n ih =>
    rw [List.replicate_succ, List.flatten_cons, List.length_append, ih, Nat.mul_succ]
    omega
theorem OpF.rep {xs zs : List α} {k : Int} (e : Lf.rep xs k = some zs) : OpF rRep ω ω (is K xs) (is K k) (olst K zs) := fun G H u v Q w p1 p2 q => by
  obtain ⟨a, us, rfl, ea, ha, _⟩ := p1
  cases p2
  unfold Lf.rep at e
  split at e
  · rename_i c
    cases e
    obtain ⟨c1, c2, c3⟩ := c
    refine ⟨a, k, us, rfl, rfl, w.lst ea, by omega, by omega, by rw [Paired.len ha]; exact c3, fun p hp => q p G _ (Le.refl _) (newL w hp (Paired.flat ha _) (by rw [flat_len]; exact c3))⟩
  · cases e
end
end Lf
/-! ## Readings told by plain data: blocks -/
namespace Lf
open PySem PySem.Spec PyProof.Rows L2
open PySem.W (Frag)
open He (ga)
/-- what is wished of an error -/
def PostE (K : Frag) (W : WX) (ωe : List Ent) (G : Hp) (x : Exn) : Prop := ∀ (σ : L2.St) (d : Addr) (v : V) (G2 H2 : Hp), Le G G2 → At G2 ωe H2 → G2 d = some (.xd [(("value" : Str), v)]) → Rp.rep K G2 v x.val → W (.ref (ga K x.cls)) (some d) σ H2
/-- what a def gives back: a value, or a new list or dict that is the caller's own -/
inductive RS where
  | val (m : MP) (ω : List Ent) | own (φ : OC) (ω : List Ent)
def RS.om : RS → List Ent
  | .val _ ω => ω
  | .own _ ω => ω
def RetQ (Q : VK) (G : Hp) : RS → Prop
  | .val m ω => ∀ (v : V) (G2 H2 : Hp), Le G G2 → At G2 ω H2 → m.p G2 v → Q v H2
  | .own φ ω => ∀ (p : Addr) (G2 H2 : Hp), Le G G2 → At G2 (.own p φ :: ω) H2 → Q (.ref p) H2
def RetPost (D : Ends) (G : Hp) (p : RS) : Prop := RetQ D.rt G p
def NxPost (D : Ends) (G : Hp) (p : Gm × List Ent) : Prop := ∀ (σ : L2.St) (G2 H2 : Hp), Le G G2 → Reps G2 σ p.1 → At G2 p.2 H2 → D.nx σ H2
structure ZF (K : Frag) (W : WX) (ωe : List Ent) (X : Type) where
  z : Res X → Ends → Hp → Prop
  mono : ∀ {m : Res X} {D : Ends} {G G2 : Hp}, Le G G2 → z m D G → z m D G2
  nobad : ∀ {D : Ends} {G : Hp}, ¬ z .bad D G
  err : ∀ {x : Exn} {D : Ends} {G : Hp}, z (.err x) D G → PostE K W ωe G x
section
variable {K : Frag} {W : WX} {ωe : List Ent} {X R S T : Type}
theorem PostE.mono {G G2 : Hp} {x : Exn} (s : Le G G2) (h : PostE K W ωe G x) : PostE K W ωe G2 x := fun σ d v G3 H3 s3 => h σ d v G3 H3 (s.trans s3)
theorem RetQ.mono {Q : VK} {G G2 : Hp} {p : RS} (s : Le G G2) (h : RetQ Q G p) : RetQ Q G2 p := by
  cases p with
  | val m ω => exact fun v G3 H3 s3 => h v G3 H3 (s.trans s3)
  | own φ ω => exact fun v G3 H3 s3 => h v G3 H3 (s.trans s3)
theorem RetPost.mono {D : Ends} {G G2 : Hp} {p : RS} (s : Le G G2) (h : RetPost D G p) : RetPost D G2 p := RetQ.mono s h
theorem NxPost.mono {D : Ends} {G G2 : Hp} {p : Gm × List Ent} (s : Le G G2) (h : NxPost D G p) : NxPost D G2 p := fun v G3 H3 s3 => h v G3 H3 (s.trans s3)
/-- a block that returns (or, with e, falls off the def's end) -/
def zR (K : Frag) (W : WX) (ωe : List Ent) (e : Bool) (fr : R → RS) : ZF K W ωe R where
  z m D G := m ≠ .bad ∧ (∀ r, m = .ok r → RetPost D G (fr r)) ∧ (∀ x, m = .err x → PostE K W ωe G x) ∧ (e = true → ∀ σ H, D.rt .non H → D.nx σ H)
  mono s h := ⟨h.1, fun r e => (h.2.1 r e).mono s, fun x e => (h.2.2.1 x e).mono s, h.2.2.2⟩
  nobad h := h.1 rfl
  err h := h.2.2.1 _ rfl
/-- a block that is left below -/
def zN (K : Frag) (W : WX) (ωe : List Ent) (fn : S → Gm × List Ent) : ZF K W ωe S where
  z m D G := m ≠ .bad ∧ (∀ r, m = .ok r → NxPost D G (fn r)) ∧ ∀ x, m = .err x → PostE K W ωe G x
  mono s h := ⟨h.1, fun r e => (h.2.1 r e).mono s, fun x e => (h.2.2 x e).mono s⟩
  nobad h := h.1 rfl
  err h := h.2.2 _ rfl
/-- a block that is left below or returns -/
def zC (K : Frag) (W : WX) (ωe : List Ent) (fn : S → Gm × List Ent) (fr : R → RS) : ZF K W ωe (Ctl S R) where
  z m D G := m ≠ .bad ∧ (∀ s, m = .ok (.nx s) → NxPost D G (fn s)) ∧ (∀ r, m = .ok (.rt r) → RetPost D G (fr r)) ∧ ∀ x, m = .err x → PostE K W ωe G x
  mono s h := ⟨h.1, fun r e => (h.2.1 r e).mono s, fun r e => (h.2.2.1 r e).mono s, fun x e => (h.2.2.2 x e).mono s⟩
  nobad h := h.1 rfl
  err h := h.2.2.2 _ rfl
def Go (ts : TS) (Γ : Gm) (ω : List Ent) (Z : ZF K W ωe X) (m : Res X) : Prop := ∀ (σ : L2.St) (G H : Hp) (D : Ends), Reps G σ Γ → At G ω H → Z.z m D G → ts D σ H
/-- less is one's own: the last made are let go -/
def Dr (ω ω' : List Ent) : Prop := ∃ pre, ω = pre ++ ω'
theorem Dr.refl (ω : List Ent) : Dr ω ω := ⟨[], rfl⟩
theorem Dr.drop {ω ω' : List Ent} {p : Addr} {φ : OC} (h : Dr ω ω') : Dr (.own p φ :: ω) ω' := by
  obtain ⟨pre, e⟩ := h
  exact ⟨.own p φ :: pre, by rw [e]; rfl⟩
theorem Dr.under {ω ω' : List Ent} {e : Ent} {G H : Hp} (h : Dr ω ω') (w : At G (e :: ω) H) : At G (e :: ω') H := by
  obtain ⟨pre, rfl⟩ := h
  have up : ∀ i : Nat, (pre ++ ω')[i + pre.length]? = ω'[i]? := fun i => by
    rw [List.getElem?_append_right (Nat.le_add_left _ _), Nat.add_sub_cancel]
  refine w.sub (fun i => match i with | 0 => 0 | i + 1 => i + pre.length + 1) (fun i x hx => ?_) fun i j x x' hi hj z => ?_
  · cases i with
    | zero => exact hx
    | succ i =>
      show (pre ++ ω')[i + pre.length]? = some x
      rw [up]
      exact hx
  · cases i with
    | zero =>
      cases j with
      | zero => rfl
      | succ j =>
        have z' : 0 = j + pre.length + 1 := z
        omega
    | succ i =>
      cases j with
      | zero =>
        have z' : i + pre.length + 1 = 0 := z
        omega
      | succ j =>
        have z' : i + pre.length + 1 = j + pre.length + 1 := z
        omega
theorem Dr.at {ω ω' : List Ent} {G H : Hp} (h : Dr ω ω') (w : At G ω H) : At G ω' H := by
  obtain ⟨pre, rfl⟩ := h
  have up : ∀ i : Nat, (pre ++ ω')[i + pre.length]? = ω'[i]? := fun i => by
    rw [List.getElem?_append_right (Nat.le_add_left _ _), Nat.add_sub_cancel]
  exact w.sub (fun i => i + pre.length) (fun i x hx => by rw [up]; exact hx) fun i j x x' hi hj z => by omega
variable {Γ Γ' : Gm} {ω ω1 ω2 ω3 : List Ent} {Z : ZF K W ωe X} {t u ts : TS} {te ta tb : TE} {tt : TT} {m m' : MP} {fr : R → RS} {fn : S → Gm × List Ent} {φ : OC}
theorem Go.req {β : Type} {o : Option β} {k : β → Res X} (h : ∀ y, o = some y → Go ts Γ ω Z (k y)) : Go ts Γ ω Z (Res.req o k) := by
  cases o with
  | none => exact fun σ G H D _ _ z => absurd z Z.nobad
  | some y => exact h y rfl
theorem Go.ite {c : Bool} {m1 m2 : Res X} (h1 : c = true → Go ts Γ ω Z m1) (h2 : c = false → Go ts Γ ω Z m2) : Go ts Γ ω Z (if c then m1 else m2) := by
  cases c with
  | true => exact h1 rfl
  | false => exact h2 rfl
theorem Go.same {x y : Res X} (h : Go ts Γ ω Z x) (e : y = x) : Go ts Γ ω Z y := e ▸ h
theorem Go.weak {x : Res X} (h : Go ts Γ' ω1 Z x) (s : Sub Γ Γ') (d : Dr ω ω1) : Go ts Γ ω Z x := fun σ G H D r w z => h σ G H D (r.sub s) (d.at w) z
theorem Go.ret {e : Bool} {r : R} (h : EvX te Γ ω ω1 m) (hf : fr r = .val m ω2) (d : Dr ω1 ω2) : Go (tRet te) Γ ω (zR K W ωe e fr) (.ok r) := fun σ G H D rp w z => h σ G H _ rp w fun v G2 H2 s w2 p => by
  have q := z.2.1 r rfl
  rw [hf] at q
  exact q v G2 H2 s (d.at w2) p
theorem Go.retC {r : R} (h : EvX te Γ ω ω1 m) (hf : fr r = .val m ω2) (d : Dr ω1 ω2) : Go (tRet te) Γ ω (zC K W ωe fn fr) (.ok (.rt r)) := fun σ G H D rp w z => h σ G H _ rp w fun v G2 H2 s w2 p => by
  have q := z.2.2.1 r rfl
  rw [hf] at q
  exact q v G2 H2 s (d.at w2) p
/-- a new list or dict is handed out -/
theorem Go.retF {e : Bool} {r : R} (h : EvF te Γ ω ω1 φ) (hf : fr r = .own φ ω2) (d : Dr ω1 ω2) : Go (tRet te) Γ ω (zR K W ωe e fr) (.ok r) := fun σ G H D rp w z => h σ G H _ rp w fun p G2 H2 s w2 => by
  have q := z.2.1 r rfl
  rw [hf] at q
  exact q p G2 H2 s (d.under w2)
/-- one's own is handed out -/
theorem Go.retO {e : Bool} {r : R} {i k : Nat} {p : Addr} (hi : Γ[i]? = some (some (adr p))) (ho : ω[k]? = some (Ent.own p φ)) (hf : fr r = .own φ ω2) (d : Dr (ω.eraseIdx k) ω2) : Go (tRet (tVar i)) Γ ω (zR K W ωe e fr) (.ok r) := fun σ G H D rp w z => by
  have q := z.2.1 r rfl
  rw [hf] at q
  obtain ⟨v, ev, pv⟩ := rp.2 i _ hi
  have pv' : v = .ref p := pv
  subst pv'
  have w2 := w.front ho
  exact ⟨_, ev, q p G H (Le.refl _) (d.under w2)⟩
theorem Go.retN {e : Bool} {r : R} (hf : fr r = .val m ω2) (h : ∀ G, m.p G .non) (d : Dr ω ω2) : Go tRetN Γ ω (zR K W ωe e fr) (.ok r) := fun σ G H D rp w z => by
  have q := z.2.1 r rfl
  rw [hf] at q
  exact q .non G H (Le.refl _) (d.at w) (h G)
theorem Go.fall {r : R} (hf : fr r = .val m ω2) (h : ∀ G, m.p G .non) (d : Dr ω ω2) : Go tNext Γ ω (zR K W ωe true fr) (.ok r) := fun σ G H D rp w z => z.2.2.2 rfl σ H (by
  have q := z.2.1 r rfl
  rw [hf] at q
  exact q .non G H (Le.refl _) (d.at w) (h G))
theorem Go.next {s : S} (a : Sub Γ (fn s).1) (d : Dr ω (fn s).2) : Go tNext Γ ω (zN K W ωe fn) (.ok s) := fun σ G H D rp w z => z.2.1 s rfl σ G H (Le.refl _) (rp.sub a) (d.at w)
theorem Go.nextC {s : S} (a : Sub Γ (fn s).1) (d : Dr ω (fn s).2) : Go tNext Γ ω (zC K W ωe fn fr) (.ok (.nx s)) := fun σ G H D rp w z => z.2.1 s rfl σ G H (Le.refl _) (rp.sub a) (d.at w)
theorem Go.last {x : Res X} (h : Go (tSeq t tNext) Γ ω Z x) : Go t Γ ω Z x := h
theorem Go.asg {i : Nat} {x : Res X} (h : EvX te Γ ω ω1 m) (k : Go u (Γ.set i (some m)) ω1 Z x) : Go (tSeq (tAsg te (gName i)) u) Γ ω Z x := fun σ G H D rp w z => h σ G H _ rp w fun v G2 H2 s w2 p => k (σ.set i (some v)) G2 H2 D ((rp.mono s).set p) w2 (Z.mono s z)
theorem Go.asgF {i : Nat} {x : Res X} (h : EvF te Γ ω ω1 φ) (k : ∀ p, Go u (Γ.set i (some (adr p))) (.own p φ :: ω1) Z x) : Go (tSeq (tAsg te (gName i)) u) Γ ω Z x := fun σ G H D rp w z => h σ G H _ rp w fun p G2 H2 s w2 => k p (σ.set i (some (.ref p))) G2 H2 D ((rp.mono s).set (m := adr p) rfl) w2 (Z.mono s z)
theorem Go.drop {x : Res X} (h : EvX te Γ ω ω1 m) (k : Go u Γ ω1 Z x) : Go (tSeq (tDrop te) u) Γ ω Z x := fun σ G H D rp w z => h σ G H _ rp w fun v G2 H2 s w2 p => k σ G2 H2 D (rp.mono s) w2 (Z.mono s z)
/-- a, b = e1, e2 -/
theorem Go.par {i j : Nat} {tA : TA} {a b : MP} {x : Res X} (h : EvA tA Γ ω ω1 [a, b]) (k : Go u ((Γ.set i (some a)).set j (some b)) ω1 Z x) : Go (tSeq (tPar i j tA) u) Γ ω Z x := fun σ G H D rp w z => h σ G H _ rp w fun vs G2 H2 s w2 p => by
  obtain ⟨v, y, rfl, p1, p2⟩ := PArgs.two p
  exact ⟨v, y, rfl, k _ G2 H2 D (((rp.mono s).set p1).set p2) w2 (Z.mono s z)⟩
theorem Go.ifS {c : Bool} {m1 m2 : Res X} (h : EvT tt Γ ω ω1 c) (h1 : c = true → Go t Γ ω1 Z m1) (h2 : c = false → Go u Γ ω1 Z m2) : Go (tIfS tt t u) Γ ω Z (if c then m1 else m2) := fun σ G H D rp w z => h σ G H _ rp w fun G2 H2 s w2 => by
  cases c with
  | true => exact RC.if_t rfl (h1 rfl σ G2 H2 D (rp.mono s) w2 (Z.mono s z))
  | false => exact RC.if_f rfl (h2 rfl σ G2 H2 D (rp.mono s) w2 (Z.mono s z))
/-- the outcome known: c is what the test comes to, x what is left -/
theorem Go.ifK {c : Bool} {x : Res X} (h : EvT tt Γ ω ω1 c) (h1 : c = true → Go t Γ ω1 Z x) (h2 : c = false → Go u Γ ω1 Z x) : Go (tIfS tt t u) Γ ω Z x := fun σ G H D rp w z => h σ G H _ rp w fun G2 H2 s w2 => by
  cases c with
  | true => exact RC.if_t rfl (h1 rfl σ G2 H2 D (rp.mono s) w2 (Z.mono s z))
  | false => exact RC.if_f rfl (h2 rfl σ G2 H2 D (rp.mono s) w2 (Z.mono s z))
/-- an if that leaves the def, else on -/
theorem Go.ifE {e : Bool} {c : Bool} {m1 m2 : Res R} (h : EvT tt Γ ω ω1 c) (h1 : c = true → Go t Γ ω1 (zR K W ωe false fr) m1) (h2 : c = false → Go u Γ ω1 (zR K W ωe e fr) m2) : Go (tSeq (tIfS tt t tNext) u) Γ ω (zR K W ωe e fr) (if c then m1 else m2) := fun σ G H D rp w z => h σ G H _ rp w fun G2 H2 s w2 => by
  have z2 := (zR K W ωe e fr).mono s z
  cases c with
  | true => exact RC.if_t rfl (h1 rfl σ G2 H2 _ (rp.mono s) w2 ⟨z2.1, z2.2.1, z2.2.2.1, fun q => nomatch q⟩)
  | false => exact RC.if_f rfl (h2 rfl σ G2 H2 D (rp.mono s) w2 z2)
def Res.esc {S R : Type} (m : Res R) : Res (Ctl S R) := Res.bind m fun r => .ok (.rt r)
theorem Go.ifEC {c : Bool} {m1 : Res R} {m2 : Res (Ctl S R)} (h : EvT tt Γ ω ω1 c) (h1 : c = true → Go t Γ ω1 (zR K W ωe false fr) m1) (h2 : c = false → Go u Γ ω1 (zC K W ωe fn fr) m2) : Go (tSeq (tIfS tt t tNext) u) Γ ω (zC K W ωe fn fr) (if c then Res.esc m1 else m2) := fun σ G H D rp w z => h σ G H _ rp w fun G2 H2 s w2 => by
  have z2 := (zC K W ωe fn fr).mono s z
  cases c with
  | true =>
    have z3 : (zC K W ωe fn fr).z (Res.esc m1) D G2 := z2
    refine RC.if_t rfl (h1 rfl σ G2 H2 _ (rp.mono s) w2 ⟨fun q => z3.1 (by rw [q]; rfl), fun r q => z3.2.2.1 r (by rw [q]; rfl), fun x q => z3.2.2.2 x (by rw [q]; rfl), fun q => nomatch q⟩)
  | false => exact RC.if_f rfl (h2 rfl σ G2 H2 D (rp.mono s) w2 z2)
/-- a block that is left below, then the rest -/
theorem Go.seqN {a : Res S} {k : S → Res X} (h : Go t Γ ω (zN K W ωe fn) a) (hk : ∀ s, a = .ok s → Go u (fn s).1 (fn s).2 Z (k s)) : Go (tSeq t u) Γ ω Z (Res.bind a k) := fun σ G H D rp w z => by
  refine h σ G H { D with nx := u D } rp w ⟨fun q => ?_, fun s q σ2 G2 H2 s2 r2 w2 => ?_, fun x q => ?_⟩
  · rw [q] at z
    exact Z.nobad z
  · rw [q] at z
    exact hk s q σ2 G2 H2 D r2 w2 (Z.mono s2 z)
  · rw [q] at z
    exact Z.err z
/-- a block that may return, then the rest -/
theorem Go.seqR {e : Bool} {a : Res (Ctl S R)} {k : S → Res R} (h : Go t Γ ω (zC K W ωe fn fr) a) (hk : ∀ s, a = .ok (.nx s) → Go u (fn s).1 (fn s).2 (zR K W ωe e fr) (k s)) : Go (tSeq t u) Γ ω (zR K W ωe e fr) (Res.after a k .ok) := fun σ G H D rp w z => by
  refine h σ G H { D with nx := u D } rp w ⟨fun q => ?_, fun s q σ2 G2 H2 s2 r2 w2 => ?_, fun r q => ?_, fun x q => ?_⟩
  · rw [q] at z
    exact (zR K W ωe e fr).nobad z
  · rw [q] at z
    exact hk s q σ2 G2 H2 D r2 w2 ((zR K W ωe e fr).mono s2 z)
  · rw [q] at z
    exact z.2.1 r rfl
  · rw [q] at z
    exact (zR K W ωe e fr).err z
theorem Go.seqC {T : Type} {fn' : T → Gm × List Ent} {a : Res (Ctl T R)} {k : T → Res (Ctl S R)} (h : Go t Γ ω (zC K W ωe fn' fr) a) (hk : ∀ s, a = .ok (.nx s) → Go u (fn' s).1 (fn' s).2 (zC K W ωe fn fr) (k s)) : Go (tSeq t u) Γ ω (zC K W ωe fn fr) (Res.after a k fun r => .ok (.rt r)) := fun σ G H D rp w z => by
  refine h σ G H { D with nx := u D } rp w ⟨fun q => ?_, fun s q σ2 G2 H2 s2 r2 w2 => ?_, fun r q => ?_, fun x q => ?_⟩
  · rw [q] at z
    exact (zC K W ωe fn fr).nobad z
  · rw [q] at z
    exact hk s q σ2 G2 H2 D r2 w2 ((zC K W ωe fn fr).mono s2 z)
  · rw [q] at z
    exact z.2.2.1 r rfl
  · rw [q] at z
    exact (zC K W ωe fn fr).err z
/-- what is one's own stands still from here on -/
theorem Go.freeze {α : Type} [Rp α] {xs : List α} {p : Addr} {k i : Nat} {x : Res X} (ho : ω[k]? = some (Ent.own p (olst K xs))) (hi : Γ[i]? = some (some (adr p))) (h : Go ts (Γ.set i (some (is K xs))) (ω.eraseIdx k) Z x) : Go ts Γ ω Z x := fun σ G H D rp w z => by
  obtain ⟨o, e, ⟨vs, rfl, hv, l⟩, w3, s3⟩ := (w.front ho).freeze
  obtain ⟨v, ev, pv⟩ := rp.2 i _ hi
  have pv' : v = .ref p := pv
  subst pv'
  have q := (rp.mono s3).set (i := i) (v := .ref p) (m := is K xs) ⟨p, vs, rfl, upd_same, All.mono s3 hv, l⟩
  have es : σ.set i (some (.ref p)) = σ := by
    refine List.ext_getElem? fun j => ?_
    by_cases z : i = j
    · subst z
      rw [ev, List.getElem?_set_self (List.getElem?_eq_some_iff.mp ev).1]
    · rw [List.getElem?_set_ne z]
  rw [es] at q
  exact h σ _ H D q w3 (Z.mono s3 z)
theorem Go.freezeD {α κ : Type} [Rp α] [Kp κ] {xs : Dic κ α} {p : Addr} {k i : Nat} {x : Res X} (ho : ω[k]? = some (Ent.own p (odic K xs))) (hi : Γ[i]? = some (some (adr p))) (h : Go ts (Γ.set i (some (is K xs))) (ω.eraseIdx k) Z x) : Go ts Γ ω Z x := fun σ G H D rp w z => by
  obtain ⟨o, e, ⟨vs, rfl, hv, l⟩, w3, s3⟩ := (w.front ho).freeze
  obtain ⟨v, ev, pv⟩ := rp.2 i _ hi
  have pv' : v = .ref p := pv
  subst pv'
  have q := (rp.mono s3).set (i := i) (v := .ref p) (m := is K xs) ⟨p, vs, rfl, .inl upd_same, AllD.mono s3 hv, l⟩
  have es : σ.set i (some (.ref p)) = σ := by
    refine List.ext_getElem? fun j => ?_
    by_cases z : i = j
    · subst z
      rw [ev, List.getElem?_set_self (List.getElem?_eq_some_iff.mp ev).1]
    · rw [List.getElem?_set_ne z]
  rw [es] at q
  exact h σ _ H D q w3 (Z.mono s3 z)
/-! stores -/
def app {α : Type} (xs : List α) (x : α) : Option (List α) := if xs.length < sizeLine then some (xs ++ [x]) else none
theorem Go.app {α : Type} [Rp α] {xs ys : List α} {y : α} {to : TE} {p : Addr} {k : Nat} {x : Res X} (ht : EvX to Γ ω ω (adr p)) (h0 : ∃ zs : List α, ω[k]? = some (Ent.own p (olst K zs))) (h : EvX te Γ ω ω1 (is K y)) (ho : ω1[k]? = some (Ent.own p (olst K xs))) (e : Lf.app xs y = some ys) (hk : Go u Γ (ω1.set k (.own p (olst K ys))) Z x) :
    Go (tSeq (tDrop (tBM K "list" rAppend to (tCons te tNil))) u) Γ ω Z x := fun σ G H D rp w z => ht σ G H _ rp w fun v G1 H1 s1 w1 p1 => by
  cases p1
  obtain ⟨zs, h0⟩ := h0
  obtain ⟨o, eo, us, rfl, _, _⟩ := w1.ownAt h0
  refine ⟨RC.ty_l eo, h σ G1 H1 _ (rp.mono s1) w1 fun v G2 H2 s2 w2 p2 => ?_⟩
  obtain ⟨o, eo, us, rfl, hu, _⟩ := w2.ownAt ho
  unfold Lf.app at e
  split at e
  · rename_i c
    cases e
    refine ⟨p, us, v, rfl, rfl, eo, by rw [Paired.len hu]; exact c, ?_⟩
    refine hk σ G2 _ D (rp.mono (s1.trans s2)) (w2.put ho ⟨_, rfl, Paired.app' hu (.cons p2 .nil), ?_⟩) (Z.mono (s1.trans s2) z)
    rw [List.length_append]
    exact c
  · cases e
theorem Go.ext {α : Type} [Rp α] {xs ys zs : List α} {to : TE} {p : Addr} {k : Nat} {x : Res X} (ht : EvX to Γ ω ω (adr p)) (h0 : ∃ zs : List α, ω[k]? = some (Ent.own p (olst K zs))) (h : EvX te Γ ω ω1 (is K ys)) (ho : ω1[k]? = some (Ent.own p (olst K xs))) (e : Lf.cat xs ys = some zs) (hk : Go u Γ (ω1.set k (.own p (olst K zs))) Z x) :
    Go (tSeq (tDrop (tBM K "list" rExtend to (tCons te tNil))) u) Γ ω Z x := fun σ G H D rp w z => ht σ G H _ rp w fun v G1 H1 s1 w1 p1 => by
  cases p1
  obtain ⟨zs', h0⟩ := h0
  obtain ⟨o, eo, us, rfl, _, _⟩ := w1.ownAt h0
  refine ⟨RC.ty_l eo, h σ G1 H1 _ (rp.mono s1) w1 fun v G2 H2 s2 w2 p2 => ?_⟩
  obtain ⟨o, eo, us, rfl, hu, _⟩ := w2.ownAt ho
  obtain ⟨b, vs, rfl, eb, hb, _⟩ := p2
  unfold Lf.cat at e
  split at e
  · rename_i c
    cases e
    refine ⟨p, b, us, vs, rfl, rfl, eo, w2.lst eb, by rw [Paired.len hu, Paired.len hb]; exact c, ?_⟩
    refine hk σ G2 _ D (rp.mono (s1.trans s2)) (w2.put ho ⟨_, rfl, Paired.app' hu hb, ?_⟩) (Z.mono (s1.trans s2) z)
    rw [List.length_append]
    exact c
  · cases e
/-- xs[i] = e -/
def setAt {α : Type} (xs : List α) (i : Int) (x : α) : Option (List α) := (ixN xs.length i).map fun j => xs.set j x
theorem Paired.set' {γ δ : Type} {F : γ → δ → Prop} {x : γ} {y : δ} (f : F x y) : ∀ {xs : List γ} {ys : List δ} (i : Nat), Paired F xs ys → Paired F (xs.set i x) (ys.set i y)
  | _, _, _, .nil => .nil
  | _, _, 0, .cons _ t => .cons f t
  | _, _, i + 1, .cons r t => .cons r (Paired.set' f i t)
theorem Go.setL {α : Type} [Rp α] {xs ys : List α} {y : α} {to ti : TE} {p : Addr} {k : Nat} {i : Int} {x : Res X} (h : EvX te Γ ω ω1 (is K y)) (ht : EvX to Γ ω1 ω1 (adr p)) (hi : EvX ti Γ ω1 ω1 (is K i)) (ho : ω1[k]? = some (Ent.own p (olst K xs))) (e : setAt xs i y = some ys) (hk : Go u Γ (ω1.set k (.own p (olst K ys))) Z x) :
    Go (tSeq (tAsg te (gSub to ti rSetL)) u) Γ ω Z x := fun σ G H D rp w z => h σ G H _ rp w fun v G1 H1 s1 w1 p1 => ht σ G1 H1 _ (rp.mono s1) w1 fun v2 G2 H2 s2 w2 p2 => hi σ G2 H2 _ (rp.mono (s1.trans s2)) w2 fun v3 G3 H3 s3 w3 p3 => by
  cases p2
  cases p3
  obtain ⟨o, eo, us, rfl, hu, l⟩ := w3.ownAt ho
  unfold setAt at e
  cases hj : ixN xs.length i with
  | none =>
    rw [hj] at e
    cases e
  | some j =>
    rw [hj] at e
    cases e
    refine ⟨p, us, i, j, rfl, rfl, eo, by rw [Paired.len hu]; exact hj, ?_⟩
    have s := s1.trans (s2.trans s3)
    exact hk σ G3 _ D (rp.mono s) (w3.put ho ⟨_, rfl, Paired.set' (F := fun (v : V) (x : α) => Rp.rep K G3 v x) ((is K y).mono (s2.trans s3) p1) j hu, by rw [List.length_set]; exact l⟩) (Z.mono s z)
/-! ## loops -/
/-- what an iterator gives: the items of xs, while P holds of what is one's own -/
structure WalkX {α : Type} [Rp α] (K : Frag) (G0 : Hp) (P : List Ent → Prop) (J : It) (xs : List α) : Prop where
  len : xs.length ≤ sizeLine
  go : ∀ (G : Hp) (ω : List Ent) (H : Hp) (i : Nat), Le G0 G → At G ω H → P ω → i < xs.length → J.go i H
  stop : ∀ (G : Hp) (ω : List Ent) (H : Hp), Le G0 G → At G ω H → P ω → J.stop xs.length H
  yld : ∀ (G : Hp) (ω : List Ent) (H : Hp) (i : Nat) (x : V) (H' : Hp) (a : α), Le G0 G → At G ω H → P ω → xs[i]? = some a → J.yld i H x H' → ∃ G', Le G G' ∧ At G' ω H' ∧ Rp.rep K G' x a
def IterX {α : Type} [Rp α] (K : Frag) (wi : TI) (Γ : Gm) (ω ω1 : List Ent) (P : List Ent → Prop) (xs : List α) : Prop := ∀ (σ : L2.St) (G H : Hp) (R : It → Hp → Prop), Reps G σ Γ → At G ω H → (∀ J G2 H2, Le G G2 → At G2 ω1 H2 → WalkX K G2 P J xs → R J H2) → wi σ H R
def Any : List Ent → Prop := fun _ => True
def TgX {α : Type} [Rp α] (K : Frag) (g : TG) (Γ : Gm) (Γ' : α → Gm) : Prop := ∀ (a : α) (σ : L2.St) (G H : Hp) (ω : List Ent) (v : V) (Q : L2.St → Hp → Prop), Reps G σ Γ → At G ω H → Rp.rep K G v a → (∀ σ', Reps G σ' (Γ' a) → Q σ' H) → g v σ H Q
variable {α β : Type} [Rp α] [Rp β]
theorem TgX.name {i : Nat} : TgX (α := α) K (gName i) Γ fun a => Γ.set i (some (is K a)) := fun a σ G H ω v Q r w p q => q _ (r.set (m := is K a) p)
theorem TgX.pair {g1 g2 : TG} {Γ1 : α → Gm} {Γ2 : α → β → Gm} (h1 : TgX (α := α) K g1 Γ Γ1) (h2 : ∀ a, TgX (α := β) K g2 (Γ1 a) (Γ2 a)) : TgX (α := α × β) K (gTup K 2 (gCons g1 (gCons g2 gNil))) Γ fun ab => Γ2 ab.1 ab.2 := fun ab σ G H ω v Q r w p q => by
  obtain ⟨a, x, y, rfl, e, p1, p2⟩ := p
  exact ⟨a, [x, y], rfl, RC.st_of (w.tup e), rfl, x, [y], rfl, h1 ab.1 σ G H ω x _ r w p1 fun σ1 r1 => ⟨y, [], rfl, h2 ab.1 ab.2 σ1 G H ω y _ r1 w p2 fun σ2 r2 => ⟨rfl, q σ2 r2⟩⟩⟩
theorem loop_drop {S R : Type} {fb : S → α → Res (Ctl S R)} {xs : List α} {i : Nat} {a : α} (h : xs[i]? = some a) (s : S) : Res.loop fb (xs.drop i) s = Res.bind (fb s a) fun c => match c with
    | .nx s' => Res.loop fb (xs.drop (i + 1)) s'
    | .rt r => .ok (.rt r) := by
  rw [List.drop_eq_getElem_cons (List.getElem?_eq_some_iff.mp h).1, (List.getElem?_eq_some_iff.mp h).2]
  rfl
theorem fold_drop {S : Type} {fb : S → α → Res S} {xs : List α} {i : Nat} {a : α} (h : xs[i]? = some a) (s : S) : Res.fold fb (xs.drop i) s = Res.bind (fb s a) (Res.fold fb (xs.drop (i + 1))) := by
  rw [List.drop_eq_getElem_cons (List.getElem?_eq_some_iff.mp h).1, (List.getElem?_eq_some_iff.mp h).2]
  rfl
/-- a for that is never left -/
theorem Go.forN {wi : TI} {g : TG} {P : List Ent → Prop} {xs : List α} {fb : S → α → Res S} {s0 : S} {Γb : S → α → Gm} (hi : IterX K wi Γ ω ω1 P xs) (h0 : Sub Γ (fn s0).1) (d0 : Dr ω1 (fn s0).2) (hP : ∀ s, P (fn s).2) (ht : ∀ s, TgX K g (fn s).1 (Γb s)) (hb : ∀ s a, Go tbs (Γb s a) (fn s).2 (zN K W ωe fn) (fb s a)) :
    Go (tFor wi g tbs) Γ ω (zN K W ωe fn) (Res.fold fb xs s0) := fun σ G H D rp w z => hi σ G H _ rp w fun J G2 H2 s2 w2 wk => by
  refine ⟨fun i m σ' H' => m = xs.length - i ∧ i ≤ xs.length ∧ ∃ s G', Le G2 G' ∧ Reps G' σ' (fn s).1 ∧ At G' (fn s).2 H' ∧ Res.fold fb (xs.drop i) s = Res.fold fb xs s0, ⟨xs.length, by simp, Nat.zero_le _, s0, G2, Le.refl _, (rp.mono s2).sub h0, d0.at w2, rfl⟩, ?_⟩
  rintro i m σ' H' ⟨rfl, hle, s, G', sG, r', w', ef⟩
  by_cases hlt : i < xs.length
  · have hx : xs[i]? = some xs[i] := List.getElem?_eq_getElem hlt
    rw [fold_drop hx] at ef
    refine .inr ⟨wk.go G' _ H' i sG w' (hP s) hlt, fun σ3 H3 => ∃ s3 G3, Le G2 G3 ∧ Reps G3 σ3 (fn s3).1 ∧ At G3 (fn s3).2 H3 ∧ Res.fold fb (xs.drop (i + 1)) s3 = Res.fold fb xs s0, fun σ3 H3 q => ⟨xs.length - (i + 1), by omega, rfl, hlt, q⟩, fun x H3 y => ?_⟩
    obtain ⟨G3, s3, w3, px⟩ := wk.yld G' _ H' i x H3 _ sG w' (hP s) hx y
    refine ht s _ σ' G3 H3 _ x _ (r'.mono s3) w3 px fun σ4 r4 => ?_
    refine hb s _ σ4 G3 H3 _ r4 w3 ⟨fun q => ?_, fun s5 q σ5 G5 H5 s5' r5 w5 => ?_, fun e q => ?_⟩
    · rw [q] at ef
      exact z.1 ef.symm
    · rw [q] at ef
      exact ⟨s5, G5, sG.trans (s3.trans s5'), r5, w5, ef⟩
    · rw [q] at ef
      exact PostE.mono (s2.trans (sG.trans s3)) (z.2.2 e ef.symm)
  · have e : i = xs.length := by omega
    subst e
    rw [List.drop_length] at ef
    exact .inl ⟨wk.stop G' _ H' sG w' (hP s), z.2.1 s ef.symm σ' G' H' (s2.trans sG) r' w'⟩
/-- a for that may be left by a return -/
theorem Go.forC {wi : TI} {g : TG} {P : List Ent → Prop} {xs : List α} {fb : S → α → Res (Ctl S R)} {s0 : S} {Γb : S → α → Gm} (hi : IterX K wi Γ ω ω1 P xs) (h0 : Sub Γ (fn s0).1) (d0 : Dr ω1 (fn s0).2) (hP : ∀ s, P (fn s).2) (ht : ∀ s, TgX K g (fn s).1 (Γb s)) (hb : ∀ s a, Go tbs (Γb s a) (fn s).2 (zC K W ωe fn fr) (fb s a)) :
    Go (tFor wi g tbs) Γ ω (zC K W ωe fn fr) (Res.loop fb xs s0) := fun σ G H D rp w z => hi σ G H _ rp w fun J G2 H2 s2 w2 wk => by
  refine ⟨fun i m σ' H' => m = xs.length - i ∧ i ≤ xs.length ∧ ∃ s G', Le G2 G' ∧ Reps G' σ' (fn s).1 ∧ At G' (fn s).2 H' ∧ Res.loop fb (xs.drop i) s = Res.loop fb xs s0, ⟨xs.length, by simp, Nat.zero_le _, s0, G2, Le.refl _, (rp.mono s2).sub h0, d0.at w2, rfl⟩, ?_⟩
  rintro i m σ' H' ⟨rfl, hle, s, G', sG, r', w', ef⟩
  by_cases hlt : i < xs.length
  · have hx : xs[i]? = some xs[i] := List.getElem?_eq_getElem hlt
    rw [loop_drop hx] at ef
    refine .inr ⟨wk.go G' _ H' i sG w' (hP s) hlt, fun σ3 H3 => ∃ s3 G3, Le G2 G3 ∧ Reps G3 σ3 (fn s3).1 ∧ At G3 (fn s3).2 H3 ∧ Res.loop fb (xs.drop (i + 1)) s3 = Res.loop fb xs s0, fun σ3 H3 q => ⟨xs.length - (i + 1), by omega, rfl, hlt, q⟩, fun x H3 y => ?_⟩
    obtain ⟨G3, s3, w3, px⟩ := wk.yld G' _ H' i x H3 _ sG w' (hP s) hx y
    refine ht s _ σ' G3 H3 _ x _ (r'.mono s3) w3 px fun σ4 r4 => ?_
    refine hb s _ σ4 G3 H3 _ r4 w3 ⟨fun q => ?_, fun s5 q σ5 G5 H5 s5' r5 w5 => ?_, fun r5 q => ?_, fun e q => ?_⟩
    · rw [q] at ef
      exact z.1 ef.symm
    · rw [q] at ef
      exact ⟨s5, G5, sG.trans (s3.trans s5'), r5, w5, ef⟩
    · rw [q] at ef
      exact RetPost.mono (s2.trans (sG.trans s3)) (z.2.2.1 r5 ef.symm)
    · rw [q] at ef
      exact PostE.mono (s2.trans (sG.trans s3)) (z.2.2.2 e ef.symm)
  · have e : i = xs.length := by omega
    subst e
    rw [List.drop_length] at ef
    exact .inl ⟨wk.stop G' _ H' sG w' (hP s), z.2.1 s ef.symm σ' G' H' (s2.trans sG) r' w'⟩
/-! what is walked -/
def irng (lo hi : Int) : Option (List Int) := if -(2 ^ 60) ≤ lo ∧ lo < 2 ^ 60 ∧ -(2 ^ 60) ≤ hi ∧ hi < 2 ^ 60 ∧ (hi - lo).toNat ≤ sizeLine then some ((List.range (hi - lo).toNat).map fun (i : Nat) => lo + (i : Int)) else none
theorem walk_rng {G0 : Hp} {lo : Int} {n : Nat} (hn : n ≤ sizeLine) : WalkX K G0 Any (Itr lo n) ((List.range n).map fun (i : Nat) => lo + (i : Int)) where
  len := by
    rw [List.length_map, List.length_range]
    exact hn
  go := fun G ω H i _ _ _ h => by
    rw [List.length_map, List.length_range] at h
    exact h
  stop := fun G ω H _ _ _ => by
    rw [List.length_map, List.length_range]
    exact Nat.le_refl _
  yld := fun G ω H i x H' a _ w _ h y => by
    obtain ⟨rfl, rfl⟩ := y
    rw [List.getElem?_map] at h
    cases z : (List.range n)[i]? with
    | none =>
      rw [z] at h
      cases h
    | some j =>
      rw [z] at h
      obtain ⟨_, ej⟩ := List.getElem?_eq_some_iff.mp z
      rw [List.getElem_range] at ej
      subst ej
      cases h
      exact ⟨G, Le.refl _, w, rfl⟩
theorem IterX.rng1 {tA : TA} {n : Int} {xs : List Int} (h : EvA tA Γ ω ω1 [is K n]) (e : irng 0 n = some xs) : IterX K (iRng1 tA) Γ ω ω1 Any xs := fun σ G H R r w q => h σ G H _ r w fun vs G1 H1 s1 w1 p1 => by
  obtain ⟨v, rfl, pv⟩ := PArgs.one p1
  cases pv
  unfold irng at e
  split at e
  · rename_i c
    cases e
    have hs : ∀ k : Int, k - 0 = k := fun k => Int.sub_zero k
    rw [hs] at q c
    exact ⟨n, rfl, by omega, by omega, q _ G1 H1 s1 w1 (walk_rng c.2.2.2.2)⟩
  · cases e
theorem IterX.rng2 {tA : TA} {lo n : Int} {xs : List Int} (h : EvA tA Γ ω ω1 [is K lo, is K n]) (e : irng lo n = some xs) : IterX K (iRng2 tA) Γ ω ω1 Any xs := fun σ G H R r w q => h σ G H _ r w fun vs G1 H1 s1 w1 p1 => by
  obtain ⟨v, v', rfl, pv, pv'⟩ := PArgs.two p1
  cases pv
  cases pv'
  unfold irng at e
  split at e
  · rename_i c
    cases e
    exact ⟨lo, n, rfl, by omega, q _ G1 H1 s1 w1 (walk_rng c.2.2.2.2)⟩
  · cases e
theorem walk_list {G0 : Hp} {a : Addr} {vs : List V} {xs : List α} (e : G0 a = some (.lst vs)) (h : All K G0 vs xs) (l : xs.length ≤ sizeLine) : WalkX K G0 Any (Itl K a) xs where
  len := l
  go := fun G ω H i s w _ hi => by
    rw [← Paired.len h] at hi
    exact ⟨vs, vs[i], RC.sq_of (w.lst (s.at e)), List.getElem?_eq_getElem hi⟩
  stop := fun G ω H s w _ => ⟨vs, RC.sq_of (w.lst (s.at e)), Nat.le_of_eq (Paired.len h)⟩
  yld := fun G ω H i x H' b s w _ hb y => by
    obtain ⟨rfl, y⟩ := y
    have q := y vs (RC.sq_of (w.lst (s.at e)))
    obtain ⟨v, ev, pv⟩ := Paired.at_ h hb
    rw [ev] at q
    cases q
    exact ⟨G, Le.refl _, w, Rp.mono s pv⟩
theorem IterX.list {xs : List α} (h : EvX te Γ ω ω1 (is K xs)) : IterX K (iList K te) Γ ω ω1 Any xs := fun σ G H R r w q => h σ G H _ r w fun v G1 H1 s1 w1 p1 => by
  obtain ⟨a, vs, rfl, e, ha, l⟩ := p1
  exact ⟨a, rfl, ⟨vs, RC.sq_of (w1.lst e)⟩, q _ G1 H1 s1 w1 (walk_list e ha l)⟩
theorem walk_tup {G0 : Hp} {a : Addr} {vs : List V} {xs : List α} (e : G0 a = some (.tup vs)) (h : All K G0 vs xs) (l : xs.length ≤ sizeLine) : WalkX K G0 Any (Itt K a) xs where
  len := l
  go := fun G ω H i s w _ hi => by
    rw [← Paired.len h] at hi
    exact ⟨vs, vs[i], RC.st_of (w.tup (s.at e)), List.getElem?_eq_getElem hi⟩
  stop := fun G ω H s w _ => ⟨vs, RC.st_of (w.tup (s.at e)), Nat.le_of_eq (Paired.len h)⟩
  yld := fun G ω H i x H' b s w _ hb y => by
    obtain ⟨rfl, y⟩ := y
    have q := y vs (RC.st_of (w.tup (s.at e)))
    obtain ⟨v, ev, pv⟩ := Paired.at_ h hb
    rw [ev] at q
    cases q
    exact ⟨G, Le.refl _, w, Rp.mono s pv⟩
theorem IterX.tup {xs : Tu α} (h : EvX te Γ ω ω1 (is K xs)) : IterX K (iTup K te) Γ ω ω1 Any xs.l := fun σ G H R r w q => h σ G H _ r w fun v G1 H1 s1 w1 p1 => by
  obtain ⟨a, vs, rfl, e, ha, l⟩ := p1
  exact ⟨a, rfl, ⟨vs, RC.st_of (w1.tup e)⟩, q _ G1 H1 s1 w1 (walk_tup e ha l)⟩
end
end Lf
/-! ## Readings told by plain data: calls, objects, comprehensions, comparisons of data -/
namespace Lf
open PySem PySem.Spec PyProof.Rows L2
open PySem.W (Frag)
open He (ga)
/-! ### what a def promises, by its mirror -/
def Says {R : Type} (K : Frag) (G : Hp) (ωe : List Ent) (m : Res R) (fo : R → RS) (Q : VK) (E : XK) : Prop :=
  m ≠ .bad ∧ (∀ r, m = .ok r → RetQ Q G (fo r)) ∧ ∀ x, m = .err x → PostE K (fun c d _ H => E c d H) ωe G x
/-- the use of such a promise -/
def SpR {R : Type} (K : Frag) (sp : Sp) (E : XK) (ms : List MP) (ω ωe : List Ent) (m : Res R) (fo : R → RS) : Prop := ∀ (G H : Hp) (vs : List V) (Q : VK), PArgs G vs ms → At G ω H → Says K G ωe m fo Q E → sp vs H Q E
section
variable {K : Frag} {W : WX} {E : XK} {ωe : List Ent} {X R S T : Type} {Γ Γ' : Gm} {ω ω1 ω2 ω3 : List Ent} {Z : ZF K W ωe X} {t u ts : TS} {te ta tb : TE} {tt : TT} {a b m : MP} {fr : R → RS} {fn : S → Gm × List Ent} {φ : OC} {sp : Sp} {tA : TA} {ms : List MP} {fo : R → RS}
theorem reps_start {N : List Str} {G : Hp} {vs : List V} {ms : List MP} (h : PArgs G vs ms) : Reps G (L2.start N vs) (ms.map some ++ List.replicate (N.length - ms.length) none) := by
  unfold L2.start
  have l := h.len
  refine ⟨by rw [List.length_append, List.length_append, List.length_map, List.length_map, List.length_replicate, List.length_replicate, l], fun i m e => ?_⟩
  by_cases hi : i < ms.length
  · rw [List.getElem?_append_left (by rw [List.length_map]; exact hi), List.getElem?_map] at e
    cases z : ms[i]? with
    | none =>
      rw [z] at e
      cases e
    | some m' =>
      rw [z] at e
      cases e
      obtain ⟨v, ev, pv⟩ := Paired.at_ (show Paired (fun (v : V) (m : MP) => m.p G v) vs ms from h) z
      refine ⟨v, ?_, pv⟩
      rw [List.getElem?_append_left (by rw [List.length_map, l]; exact hi), List.getElem?_map, ev]
      rfl
  · rw [List.getElem?_append_right (by rw [List.length_map]; omega)] at e
    have := List.mem_of_getElem? e
    cases List.eq_of_mem_replicate this
theorem Go.fin {N : List Str} {G H : Hp} {vs : List V} {Q : VK} {mr : Res R} {t : TS} (h : Go t Γ ω (zR K (fun c d _ H => E c d H) ωe true fo) mr) (pa : PArgs G vs ms) (e : Γ = ms.map some ++ List.replicate (N.length - ms.length) none) (w : At G ω H) (s : Says K G ωe mr fo Q E) :
    t { nx := fun _ H' => Q .non H', rt := Q } (L2.start N vs) H := by
  subst e
  exact h _ G H _ (reps_start pa) w ⟨s.1, s.2.1, s.2.2, fun _ _ _ q => q⟩
/-! ### calls -/
theorem Says.ok' {mr : Res R} {r : R} {G : Hp} {Q : VK} (e : mr = .ok r) (q : RetQ Q G (fo r)) : Says K G ωe mr fo Q E := ⟨fun z => (by rw [e] at z; cases z), fun r' e' => by
  rw [e] at e'
  cases e'
  exact q, fun x e' => by
  rw [e] at e'
  cases e'⟩
theorem EvX.call {mr : Res R} {r : R} (h : EvA tA Γ ω ω1 ms) (hs : SpR K sp E ms ω1 ωe mr fo) (e : mr = .ok r) (hf : fo r = .val m ω2) : EvX (tCall sp [] E tA) Γ ω ω2 m := fun σ G H Q rp w q => h σ G H _ rp w fun vs G2 H2 s2 w2 p2 => by
  show sp (vs ++ []) H2 Q E
  rw [List.append_nil]
  exact hs G2 H2 vs Q p2 w2 (Says.ok' e (by rw [hf]; exact fun v G3 H3 s3 w3 p3 => q v G3 H3 (s2.trans s3) w3 p3))
theorem EvF.call {mr : Res R} {r : R} (h : EvA tA Γ ω ω1 ms) (hs : SpR K sp E ms ω1 ωe mr fo) (e : mr = .ok r) (hf : fo r = .own φ ω2) : EvF (tCall sp [] E tA) Γ ω ω2 φ := fun σ G H Q rp w q => h σ G H _ rp w fun vs G2 H2 s2 w2 p2 => by
  show sp (vs ++ []) H2 Q E
  rw [List.append_nil]
  exact hs G2 H2 vs Q p2 w2 (Says.ok' e (by rw [hf]; exact fun p G3 H3 s3 w3 => q p G3 H3 (s2.trans s3) w3))
theorem Go.callK {mr : Res R} {D : Ends} {G G2 H2 : Hp} {vs : List V} {Q : VK} {x : R → Res X} {Z : ZF K (fun c d _ H => E c d H) ωe X} (hs : SpR K sp E ms ω1 ω1 mr fo) (hd : Dr ω1 ωe) (s2 : Le G G2) (w2 : At G2 ω1 H2) (p2 : PArgs G2 vs ms) (z : Z.z (Res.bind mr x) D G)
    (q : ∀ r, mr = .ok r → RetQ Q G2 (fo r)) : sp vs H2 Q E :=
  hs G2 H2 vs Q p2 w2 ⟨fun e => by
    rw [e] at z
    exact Z.nobad z, q, fun y e => by
    rw [e] at z
    exact fun σ' d v G3 H3 s3 w3 => Z.err z σ' d v G3 H3 (s2.trans s3) (hd.at w3)⟩
/-- what is left where a value is not wanted -/
theorem RetQ.lose {Q : VK} {G : Hp} {r : RS} (q : ∀ (v : V) (G2 H2 : Hp), Le G G2 → At G2 r.om H2 → Q v H2) : RetQ Q G r := by
  cases r with
  | val m ω => exact fun v G2 H2 s w _ => q v G2 H2 s w
  | own φ ω => exact fun p G2 H2 s w => q (.ref p) G2 H2 s w.drop
/-- f(..) alone -/
theorem Go.dropCall {mr : Res R} {x : R → Res X} {Z : ZF K (fun c d _ H => E c d H) ωe X} (h : EvA tA Γ ω ω1 ms) (hs : SpR K sp E ms ω1 ω1 mr fo) (hd : Dr ω1 ωe) (k : ∀ r, mr = .ok r → Go u Γ (fo r).om Z (x r)) : Go (tSeq (tDrop (tCall sp [] E tA)) u) Γ ω Z (Res.bind mr x) := fun σ G H D rp w z => h σ G H _ rp w fun vs G2 H2 s2 w2 p2 => by
  show sp (vs ++ []) H2 _ E
  rw [List.append_nil]
  exact Go.callK hs hd s2 w2 p2 z fun r e => RetQ.lose fun v G3 H3 s3 w3 => k r e σ G3 H3 D (rp.mono (s2.trans s3)) w3 (Z.mono (s2.trans s3) (by rw [e] at z; exact z))
/-- x = f(..) -/
theorem Go.asgCall {mr : Res R} {i : Nat} {x : R → Res X} {f1 : R → MP} {f2 : R → List Ent} {Z : ZF K (fun c d _ H => E c d H) ωe X} (h : EvA tA Γ ω ω1 ms) (hs : SpR K sp E ms ω1 ω1 mr fo) (hd : Dr ω1 ωe) (hf : ∀ r, fo r = .val (f1 r) (f2 r)) (k : ∀ r, mr = .ok r → Go u (Γ.set i (some (f1 r))) (f2 r) Z (x r)) : Go (tSeq (tAsg (tCall sp [] E tA) (gName i)) u) Γ ω Z (Res.bind mr x) := fun σ G H D rp w z => h σ G H _ rp w fun vs G2 H2 s2 w2 p2 => by
  show sp (vs ++ []) H2 _ E
  rw [List.append_nil]
  exact Go.callK hs hd s2 w2 p2 z fun r e => by
    rw [hf]
    exact fun v G3 H3 s3 w3 p3 => k r e (σ.set i (some v)) G3 H3 D ((rp.mono (s2.trans s3)).set p3) w3 (Z.mono (s2.trans s3) (by rw [e] at z; exact z))
theorem res_bind_ok {α : Type} (m : Res α) : Res.bind m .ok = m := by cases m <;> rfl
/-- return f(..) -/
theorem Go.retCall {mr : Res R} {e0 : Bool} (h : EvA tA Γ ω ω1 ms) (hs : SpR K sp E ms ω1 ω1 mr fo) (hd : Dr ω1 ωe) (hf : ∀ Q G r, RetQ Q G (fr r) → RetQ Q G (fo r)) : Go (tRet (tCall sp [] E tA)) Γ ω (zR K (fun c d _ H => E c d H) ωe e0 fr) mr := fun σ G H D rp w z => h σ G H _ rp w fun vs G2 H2 s2 w2 p2 => by
  show sp (vs ++ []) H2 _ E
  rw [List.append_nil]
  exact Go.callK (D := D) (x := Res.ok) (Z := zR K (fun c d _ H => E c d H) ωe e0 fr) hs hd s2 w2 p2 (by rw [res_bind_ok]; exact z) fun r e => hf _ _ _ ((z.2.1 r e).mono s2)
/-! ### objects -/
theorem lookup_out {m : Str} : ∀ {fs : List (Str × V)} {ns : List Str}, fs.map (·.1) = ns → ns.contains m = false → fs.lookup m = none
  | [], _, _, _ => rfl
  | (g, v) :: fs, _, rfl, h => by
    have h' : (m == g || (fs.map (·.1)).contains m) = false := by simpa [List.contains_cons] using h
    rw [Bool.or_eq_false_iff] at h'
    show (match m == g with | true => some v | false => List.lookup m fs) = none
    rw [h'.1]
    exact lookup_out rfl h'.2
/-- plain data that stand for instances of a class -/
class Ob (α : Type) extends Rp α where
  cls : Str
  fl : List Str
  at_ : ∀ {K : Frag} {G : Hp} {v : V} {x : α}, Rp.rep K G v x → ∃ p dx fs, v = .ref p ∧ G p = some (.ins (ga K cls) dx fs) ∧ fs.map (·.1) = fl
/-- an object or one's own object, at the heap -/
def InsAt (K : Frag) (ω : List Ent) (a : MP) (c : Str) (fl : List Str) : Prop := ∀ (G H : Hp) (v : V), At G ω H → a.p G v → ∃ p dx fs, v = .ref p ∧ H p = some (.ins (ga K c) dx fs) ∧ fs.map (·.1) = fl
theorem InsAt.of {α : Type} [o : Ob α] {x : α} : InsAt K ω (is K x) o.cls o.fl := fun G H v w p => by
  obtain ⟨q, dx, fs, e, h, l⟩ := o.at_ p
  exact ⟨q, dx, fs, e, w.get h, l⟩
theorem InsAt.own {k : Nat} {p : Addr} {c : Str} {ms : List (Str × MP)} (h : ω[k]? = some (Ent.own p (oins (ga K c) ms))) : InsAt K ω (adr p) c (ms.map (·.1)) := fun G H v w e => by
  obtain ⟨o, eo, dx, fs, rfl, hp⟩ := w.ownAt h
  refine ⟨p, dx, fs, e, eo, ?_⟩
  clear eo h
  induction hp with
  | nil => rfl
  | cons r t ih => rw [List.map_cons, List.map_cons, ih, r.1]
/-- o.m(..) -/
theorem meth_run {c : Str} {mn : Str} {fl : List Str} {tA : TA} (ha : EvX ta Γ ω ω1 a) (hi : InsAt K ω1 a c fl) (hn : fl.contains mn = false) (h : EvA tA Γ ω1 ω2 ms) {σ : L2.St} {G H : Hp} (rp : Reps G σ Γ) (w : At G ω H) {Q : VK}
    (q : ∀ vs G2 H2, Le G G2 → At G2 ω2 H2 → PArgs G2 vs (a :: ms) → sp vs H2 Q E) : tMeth (ga K c) mn sp [] E ta tA σ H Q := ha σ G H _ rp w fun v G1 H1 s1 w1 p1 => by
  obtain ⟨p, dx, fs, rfl, e, l⟩ := hi G1 H1 v w1 p1
  refine ⟨p, dx, fs, rfl, e, lookup_out l hn, h σ G1 H1 _ (rp.mono s1) w1 fun vs G2 H2 s2 w2 p2 => ?_⟩
  show sp (V.ref p :: (vs ++ [])) H2 Q E
  rw [List.append_nil]
  exact q _ G2 H2 (s1.trans s2) w2 (.cons (a.mono s2 p1) p2)
theorem EvX.meth {c : Str} {mn : Str} {fl : List Str} {mr : Res R} {r : R} (ha : EvX ta Γ ω ω1 a) (hi : InsAt K ω1 a c fl) (hn : fl.contains mn = false) (h : EvA tA Γ ω1 ω2 ms) (hs : SpR K sp E (a :: ms) ω2 ωe mr fo) (e : mr = .ok r) (hf : fo r = .val m ω3) : EvX (tMeth (ga K c) mn sp [] E ta tA) Γ ω ω3 m := fun σ G H Q rp w q =>
  meth_run ha hi hn h rp w fun vs G2 H2 s2 w2 p2 => hs G2 H2 vs Q p2 w2 (Says.ok' e (by rw [hf]; exact fun v G3 H3 s3 w3 p3 => q v G3 H3 (s2.trans s3) w3 p3))
theorem EvF.meth {c : Str} {mn : Str} {fl : List Str} {mr : Res R} {r : R} (ha : EvX ta Γ ω ω1 a) (hi : InsAt K ω1 a c fl) (hn : fl.contains mn = false) (h : EvA tA Γ ω1 ω2 ms) (hs : SpR K sp E (a :: ms) ω2 ωe mr fo) (e : mr = .ok r) (hf : fo r = .own φ ω3) : EvF (tMeth (ga K c) mn sp [] E ta tA) Γ ω ω3 φ := fun σ G H Q rp w q =>
  meth_run ha hi hn h rp w fun vs G2 H2 s2 w2 p2 => hs G2 H2 vs Q p2 w2 (Says.ok' e (by rw [hf]; exact fun p G3 H3 s3 w3 => q p G3 H3 (s2.trans s3) w3))
theorem Go.dropMeth {c : Str} {mn : Str} {fl : List Str} {mr : Res R} {x : R → Res X} {Z : ZF K (fun c d _ H => E c d H) ωe X} (ha : EvX ta Γ ω ω1 a) (hi : InsAt K ω1 a c fl) (hn : fl.contains mn = false) (h : EvA tA Γ ω1 ω2 ms) (hs : SpR K sp E (a :: ms) ω2 ω2 mr fo) (hd : Dr ω2 ωe) (k : ∀ r, mr = .ok r → Go u Γ (fo r).om Z (x r)) : Go (tSeq (tDrop (tMeth (ga K c) mn sp [] E ta tA)) u) Γ ω Z (Res.bind mr x) := fun σ G H D rp w z =>
  meth_run ha hi hn h rp w fun vs G2 H2 s2 w2 p2 => Go.callK hs hd s2 w2 p2 z fun r e => RetQ.lose fun v G3 H3 s3 w3 => k r e σ G3 H3 D (rp.mono (s2.trans s3)) w3 (Z.mono (s2.trans s3) (by rw [e] at z; exact z))
theorem Go.asgMeth {c : Str} {mn : Str} {fl : List Str} {mr : Res R} {i : Nat} {x : R → Res X} {f1 : R → MP} {f2 : R → List Ent} {Z : ZF K (fun c d _ H => E c d H) ωe X} (ha : EvX ta Γ ω ω1 a) (hi : InsAt K ω1 a c fl) (hn : fl.contains mn = false) (h : EvA tA Γ ω1 ω2 ms) (hs : SpR K sp E (a :: ms) ω2 ω2 mr fo) (hd : Dr ω2 ωe) (hf : ∀ r, fo r = .val (f1 r) (f2 r)) (k : ∀ r, mr = .ok r → Go u (Γ.set i (some (f1 r))) (f2 r) Z (x r)) : Go (tSeq (tAsg (tMeth (ga K c) mn sp [] E ta tA) (gName i)) u) Γ ω Z (Res.bind mr x) := fun σ G H D rp w z =>
  meth_run ha hi hn h rp w fun vs G2 H2 s2 w2 p2 => Go.callK hs hd s2 w2 p2 z fun r e => by
    rw [hf]
    exact fun v G3 H3 s3 w3 p3 => k r e (σ.set i (some v)) G3 H3 D ((rp.mono (s2.trans s3)).set p3) w3 (Z.mono (s2.trans s3) (by rw [e] at z; exact z))
/-- o.f -/
def FldOf {α β : Type} [Rp α] [Rp β] (K : Frag) (c f : Str) (x : α) (y : β) : Prop := ∀ (G : Hp) (v : V), Rp.rep K G v x → ∃ p dx fs z, v = .ref p ∧ G p = some (.ins (ga K c) dx fs) ∧ fs.lookup f = some z ∧ Rp.rep K G z y
theorem EvX.fld {α β : Type} [Rp α] [Rp β] {c f : Str} {x : α} {y : β} (h : EvX ta Γ ω ω1 (is K x)) (hf : FldOf K c f x y) (cl : Cls K (ga K c)) (na : NoAttr K (ga K c) f) : EvX (tFld K ta f) Γ ω ω1 (is K y) := fun σ G H Q rp w q => h σ G H _ rp w fun v G1 H1 s1 w1 p1 => by
  obtain ⟨p, dx, fs, z, rfl, e, l, hz⟩ := hf G1 v p1
  exact ⟨p, _, dx, fs, z, rfl, w1.get e, cl, na, l, q z G1 H1 s1 w1 hz⟩
theorem lookup_paired {G : Hp} {f : Str} {m : MP} : ∀ {fs : List (Str × V)} {ms : List (Str × MP)}, Paired (fun (f : Str × V) (m : Str × MP) => f.1 = m.1 ∧ m.2.p G f.2) fs ms → ms.lookup f = some m → ∃ z, fs.lookup f = some z ∧ m.p G z
  | _, _, .nil, h => by cases h
  | (g, v) :: fs, (g', m') :: ms, .cons r t, h => by
    obtain ⟨e, hv⟩ := r
    have e' : g = g' := e
    subst e'
    have h' : (match f == g with | true => some m' | false => List.lookup f ms) = some m := h
    show ∃ z, (match f == g with | true => some v | false => List.lookup f fs) = some z ∧ m.p G z
    cases q : f == g with
    | true =>
      rw [q] at h'
      cases h'
      exact ⟨v, rfl, hv⟩
    | false =>
      rw [q] at h'
      exact lookup_paired t h'
theorem EvX.fldO {c f : Str} {ms : List (Str × MP)} {k : Nat} {p : Addr} (h : EvX ta Γ ω ω1 (adr p)) (ho : ω1[k]? = some (Ent.own p (oins (ga K c) ms))) (l : ms.lookup f = some m) (cl : Cls K (ga K c)) (na : NoAttr K (ga K c) f) : EvX (tFld K ta f) Γ ω ω1 m := fun σ G H Q rp w q => h σ G H _ rp w fun v G1 H1 s1 w1 p1 => by
  cases p1
  obtain ⟨o, eo, dx, fs, rfl, hp⟩ := w1.ownAt ho
  obtain ⟨z, lz, hz⟩ := lookup_paired hp l
  exact ⟨p, _, dx, fs, z, rfl, eo, cl, na, lz, q z G1 H1 s1 w1 hz⟩
/-- o.f = e, o one's own -/
def putM (f : Str) (m : MP) : List (Str × MP) → List (Str × MP)
  | [] => [(f, m)]
  | (g, x) :: r => if g = f then (g, m) :: r else (g, x) :: putM f m r
theorem put_paired {G : Hp} {f : Str} {m : MP} {y : V} (hy : m.p G y) : ∀ {fs : List (Str × V)} {ms : List (Str × MP)}, Paired (fun (f : Str × V) (m : Str × MP) => f.1 = m.1 ∧ m.2.p G f.2) fs ms → Paired (fun (f : Str × V) (m : Str × MP) => f.1 = m.1 ∧ m.2.p G f.2) (putF f y fs) (putM f m ms)
  | _, _, .nil => .cons ⟨rfl, hy⟩ .nil
  | (g, v) :: fs, (g', m') :: ms, .cons r t => by
    obtain ⟨e, hv⟩ := r
    have e' : g = g' := e
    subst e'
    show Paired _ (if g = f then (g, y) :: fs else (g, v) :: putF f y fs) (if g = f then (g, m) :: ms else (g, m') :: putM f m ms)
    by_cases q : g = f
    · rw [if_pos q, if_pos q]
      exact .cons ⟨rfl, hy⟩ t
    · rw [if_neg q, if_neg q]
      exact .cons ⟨rfl, hv⟩ (put_paired hy t)
theorem Go.setF {c f : Str} {ms ms' : List (Str × MP)} {k : Nat} {p : Addr} {x : Res X} (h : EvX te Γ ω ω1 m) (ha : EvX ta Γ ω1 ω1 (adr p)) (ho : ω1[k]? = some (Ent.own p (oins (ga K c) ms))) (e : putM f m ms = ms') (l : ms.length < 1000) (cl : Cls K (ga K c)) (na : NoAttr K (ga K c) f) (hk : Go u Γ (ω1.set k (.own p (oins (ga K c) ms'))) Z x) :
    Go (tSeq (sFld K ta te f) u) Γ ω Z x := fun σ G H D rp w z => h σ G H _ rp w fun v G1 H1 s1 w1 p1 => ha σ G1 H1 _ (rp.mono s1) w1 fun v2 G2 H2 s2 w2 p2 => by
  cases p2
  obtain ⟨o, eo, dx, fs, rfl, hp⟩ := w2.ownAt ho
  subst e
  refine ⟨p, _, dx, fs, rfl, eo, cl, na, by rw [Paired.len hp]; exact l, ?_⟩
  exact hk σ G2 _ D (rp.mono (s1.trans s2)) (w2.put ho ⟨dx, _, rfl, put_paired (m.mono s2 p1) hp⟩) (Z.mono (s1.trans s2) z)
/-- C(..): what __init__ makes of the new object stands still behind it -/
theorem make_run {c : Str} {f1 : R → MP} {mr : Res R} {Q : VK} {vs : List V} {G1 H1 : Hp} {fl : R → List (Str × MP)} {ωo : R → List Ent} (hs : ∀ x, SpR K sp E (adr x :: ms) (.own x (oins (ga K c) []) :: ω1) ω1 mr fun r => .val (is K ()) (.own x (oins (ga K c) (fl r)) :: ωo r))
    (hm : ∀ r p G o, (oins (ga K c) (fl r)).p G o → G p = some o → (f1 r).p G (.ref p)) (w1 : At G1 ω1 H1) (p1 : PArgs G1 vs ms) (nb : mr ≠ .bad) (ne : ∀ x, mr = .err x → PostE K (fun c d _ H => E c d H) ω1 G1 x)
    (q : ∀ r, mr = .ok r → ∀ (v : V) (G3 H3 : Hp), Le G1 G3 → At G3 (ωo r) H3 → (f1 r).p G3 v → Q v H3) :
    ∀ x dx, H1 x = none → H1 dx = none → dx ≠ x → sp (.ref x :: (vs ++ [])) (upd (upd H1 dx (.own x)) x (.ins (ga K c) dx [])) (fun v H2 => v = .non ∧ Q (.ref x) H2) E := fun x dx hx hdx ne' => by
  rw [List.append_nil]
  obtain ⟨w2, s2⟩ := w1.new (o := .own x) hdx
  have hx2 : upd H1 dx (.own x) x = none := by
    rw [upd_ne (fun z => ne' z.symm)]
    exact hx
  have w3 : At (upd G1 dx (.own x)) (.own x (oins (ga K c) []) :: ω1) (upd (upd H1 dx (.own x)) x (.ins (ga K c) dx [])) := w2.newOwn hx2 ⟨dx, [], rfl, .nil⟩
  refine hs x _ _ _ _ (.cons rfl (PArgs.mono s2 p1)) w3 ⟨nb, fun r e v G3 H3 s3 w3 p3 => ⟨p3, ?_⟩, fun y e => (ne y e).mono s2⟩
  obtain ⟨o, eo, ho, w4, s4⟩ := At.freeze w3
  exact q r e (.ref x) _ H3 (s2.trans (s3.trans s4)) w4 (hm r x _ o (OC.mono _ s4 ho) upd_same)
theorem EvX.make {c : Str} {f1 : R → MP} {mr : Res R} {r : R} {fl : R → List (Str × MP)} {ωo : R → List Ent} (h : EvA tA Γ ω ω1 ms) (hs : ∀ x, SpR K sp E (adr x :: ms) (.own x (oins (ga K c) []) :: ω1) ω1 mr fun r => .val (is K ()) (.own x (oins (ga K c) (fl r)) :: ωo r))
    (hm : ∀ r p G o, (oins (ga K c) (fl r)).p G o → G p = some o → (f1 r).p G (.ref p)) (e : mr = .ok r) : EvX (tMake (ga K c) sp [] E tA) Γ ω (ωo r) (f1 r) := fun σ G H Q rp w q => h σ G H _ rp w fun vs G1 H1 s1 w1 p1 =>
  make_run hs hm w1 p1 (fun z => (by rw [e] at z; cases z)) (fun x e' => by rw [e] at e'; cases e') fun r' e' v G3 H3 s3 w3 p3 => by
    rw [e] at e'
    cases e'
    exact q v G3 H3 (s1.trans s3) w3 p3
/-! ### comprehensions -/
theorem wipe_get (σ : L2.St) : ∀ (vs : List Nat) (i : Nat), (wipe σ vs)[i]? = if i ∈ vs then (σ[i]?).map (fun _ => none) else σ[i]?
  | [], i => by rw [if_neg (by simp)]; rfl
  | v :: vs, i => by
    show ((wipe σ vs).set v none)[i]? = _
    by_cases z : v = i
    · subst z
      rw [if_pos List.mem_cons_self]
      by_cases l : v < σ.length
      · rw [List.getElem?_set_self (by rw [wipe_length]; exact l), List.getElem?_eq_getElem l]
        rfl
      · rw [List.getElem?_eq_none (by rw [List.length_set, wipe_length]; omega), List.getElem?_eq_none (by omega)]
        rfl
    · rw [List.getElem?_set_ne z, wipe_get σ vs i]
      by_cases y : i ∈ vs
      · rw [if_pos y, if_pos (List.mem_cons_of_mem _ y)]
      · rw [if_neg y, if_neg (fun q => by
          rcases List.mem_cons.mp q with q | q
          · exact z q.symm
          · exact y q)]
theorem wipe_eq {σ σ2 : L2.St} {vs : List Nat} (l : σ2.length = σ.length) (h : ∀ i, i ∉ vs → σ2[i]? = σ[i]?) : wipe σ2 vs = wipe σ vs := by
  refine List.ext_getElem? fun i => ?_
  rw [wipe_get, wipe_get]
  by_cases y : i ∈ vs
  · rw [if_pos y, if_pos y]
    by_cases z : i < σ.length
    · rw [List.getElem?_eq_getElem z, List.getElem?_eq_getElem (by rw [l]; exact z)]
      rfl
    · rw [List.getElem?_eq_none (by omega), List.getElem?_eq_none (by omega)]
  · rw [if_neg y, if_neg y]
    exact h i y
/-- the slots forgotten -/
def wipeG (Γ : Gm) : List Nat → Gm
  | [] => Γ
  | v :: vs => (wipeG Γ vs).set v none
theorem wipeG_len (Γ : Gm) : ∀ vs : List Nat, (wipeG Γ vs).length = Γ.length
  | [] => rfl
  | v :: vs => by
    show ((wipeG Γ vs).set v none).length = _
    rw [List.length_set, wipeG_len Γ vs]
theorem Reps.wipe {G : Hp} {σ : L2.St} {Γ : Gm} (h : Reps G σ Γ) : ∀ vs : List Nat, Reps G (L2.wipe σ vs) (wipeG Γ vs)
  | [] => h
  | v :: vs => by
    have ih := Reps.wipe h vs
    refine ⟨by show ((L2.wipe σ vs).set v none).length = ((wipeG Γ vs).set v none).length; rw [List.length_set, List.length_set, ih.1], fun i m e => ?_⟩
    have e' : ((wipeG Γ vs).set v none)[i]? = some (some m) := e
    by_cases z : v = i
    · subst z
      have l := (List.getElem?_eq_some_iff.mp e').1
      rw [List.length_set] at l
      rw [List.getElem?_set_self l] at e'
      cases (Option.some.inj e')
    · rw [List.getElem?_set_ne z] at e'
      obtain ⟨x, ex, px⟩ := ih.2 i m e'
      exact ⟨x, by show ((L2.wipe σ vs).set v none)[i]? = _; rw [List.getElem?_set_ne z]; exact ex, px⟩
/-- a target that stores within vs alone -/
def TgW {α : Type} [Rp α] (K : Frag) (g : TG) (vs : List Nat) (Γ : Gm) (Γ' : α → Gm) : Prop := ∀ (a : α) (σ : L2.St) (G H : Hp) (ω : List Ent) (v : V) (Q : L2.St → Hp → Prop), Reps G σ Γ → At G ω H → Rp.rep K G v a → (∀ σ', σ'.length = σ.length → (∀ i, i ∉ vs → σ'[i]? = σ[i]?) → Reps G σ' (Γ' a) → Q σ' H) → g v σ H Q
variable {α β γ δ : Type} [Rp α] [Rp β] [Rp γ]
theorem TgW.name {i : Nat} {vs : List Nat} (h : i ∈ vs) : TgW (α := α) K (gName i) vs Γ fun a => Γ.set i (some (is K a)) := fun a σ G H ω v Q r w p q => q _ (by rw [List.length_set]) (fun j hj => List.getElem?_set_ne (fun z => hj (by rw [← z]; exact h))) (r.set (m := is K a) p)
theorem TgW.pair {g1 g2 : TG} {vs : List Nat} {Γ1 : α → Gm} {Γ2 : α → β → Gm} (h1 : TgW (α := α) K g1 vs Γ Γ1) (h2 : ∀ a, TgW (α := β) K g2 vs (Γ1 a) (Γ2 a)) : TgW (α := α × β) K (gTup K 2 (gCons g1 (gCons g2 gNil))) vs Γ fun ab => Γ2 ab.1 ab.2 := fun ab σ G H ω v Q r w p q => by
  obtain ⟨a, x, y, rfl, e, p1, p2⟩ := p
  exact ⟨a, [x, y], rfl, RC.st_of (w.tup e), rfl, x, [y], rfl, h1 ab.1 σ G H ω x _ r w p1 fun σ1 l1 k1 r1 => ⟨y, [], rfl, h2 ab.1 ab.2 σ1 G H ω y _ r1 w p2 fun σ2 l2 k2 r2 => ⟨rfl, q σ2 (l2.trans l1) (fun i hi => (k2 i hi).trans (k1 i hi)) r2⟩⟩⟩
theorem mapO_drop {fb : α → Option (Option δ)} {xs : List α} {i : Nat} {a : α} (h : xs[i]? = some a) : mapO fb (xs.drop i) = match fb a with
    | none => none
    | some none => mapO fb (xs.drop (i + 1))
    | some (some y) => match mapO fb (xs.drop (i + 1)) with
      | none => none
      | some ys => some (y :: ys) := by
  rw [List.drop_eq_getElem_cons (List.getElem?_eq_some_iff.mp h).1, (List.getElem?_eq_some_iff.mp h).2]
  rfl
theorem mapO_len {δ : Type} {fb : α → Option (Option δ)} : ∀ {xs : List α} {ys : List δ}, mapO fb xs = some ys → ys.length ≤ xs.length
  | [], _, h => by
    cases h
    exact Nat.le_refl _
  | x :: xs, ys, h => by
    unfold mapO at h
    split at h
    · cases h
    · have := mapO_len h
      exact Nat.le_succ_of_le this
    · split at h
      · cases h
      · rename_i ys' e
        cases h
        exact Nat.succ_le_succ (mapO_len e)
/-- one turn: the test comes to c; what is kept -/
def Elt (K : Frag) (tt : TT) (te : TE) (Γ : Gm) (ω : List Ent) (o : Option β) : Prop := ∃ c, EvT tt Γ ω ω c ∧ (c = false → o = none) ∧ (c = true → ∃ y, o = some y ∧ EvX te Γ ω ω (is K y))
theorem EvF.lc {wi : TI} {g : TG} {vs : List Nat} {P : List Ent → Prop} {xs : List α} {ys : List β} {fb : α → Option (Option β)} {Γb : α → Gm} (hi : IterX K wi Γ ω ω P xs) (hP : P ω) (hP' : ∀ p φ, P ω → P (.own p φ :: ω)) (ht : TgW K g vs (wipeG Γ vs) Γb) (h : mapO fb xs = some ys)
    (hb : ∀ a o p φ, fb a = some o → Elt K tt te (Γb a) (.own p φ :: ω) o) : EvF (tLc wi g tt te vs) Γ ω ω (olst K ys) := fun σ G H Q rp w q => hi σ G H _ rp w fun J G2 H2 s2 w2 wk D hD => by
  have hl := wk.len
  refine ⟨fun i m H' => m = xs.length - i ∧ i ≤ xs.length ∧ ∃ acc G' ys', Le G2 G' ∧ At G' (.own D (olst K acc) :: ω) H' ∧ acc.length ≤ i ∧ mapO fb (xs.drop i) = some ys' ∧ acc ++ ys' = ys, ⟨xs.length, by simp, Nat.zero_le _, [], G2, ys, Le.refl _, newL w2 hD .nil (Nat.zero_le _), Nat.le_refl _, h, rfl⟩, ?_⟩
  rintro i m H' ⟨rfl, hle, acc, G', ys', sG, w', la, ef, ea⟩
  by_cases hlt : i < xs.length
  · have hx : xs[i]? = some xs[i] := List.getElem?_eq_getElem hlt
    rw [mapO_drop hx] at ef
    refine .inr ⟨wk.go G' _ H' i sG w' (hP' _ _ hP) hlt, fun H3 => ∃ acc G3 ys', Le G2 G3 ∧ At G3 (.own D (olst K acc) :: ω) H3 ∧ acc.length ≤ i + 1 ∧ mapO fb (xs.drop (i + 1)) = some ys' ∧ acc ++ ys' = ys, fun H3 q => ⟨xs.length - (i + 1), by omega, rfl, hlt, q⟩, fun x H3 y => ?_⟩
    obtain ⟨G3, s3, w3, px⟩ := wk.yld G' _ H' i x H3 _ sG w' (hP' _ _ hP) hx y
    have rw0 := (rp.mono (s2.trans (sG.trans s3))).wipe vs
    refine ht _ _ G3 H3 _ x _ rw0 w3 px fun σ4 l4 k4 r4 => ⟨?_, ?_⟩
    · refine (wipe_eq l4 k4).trans (wipe_eq (by rw [wipe_length]) fun i hi => ?_)
      rw [wipe_get, if_neg hi]
    · cases ho : fb xs[i] with
      | none =>
        rw [ho] at ef
        cases ef
      | some o =>
        rw [ho] at ef
        obtain ⟨c, hc, h1, h2⟩ := hb _ o D (olst K acc) ho
        refine hc σ4 G3 H3 _ r4 w3 fun G4 H4 s4 w4 => ?_
        cases c with
        | false =>
          have e := h1 rfl
          subst e
          exact RC.if_f rfl ⟨acc, G4, ys', sG.trans (s3.trans s4), w4, by omega, ef, ea⟩
        | true =>
          obtain ⟨y, e, hy⟩ := h2 rfl
          subst e
          have ef' : (match mapO fb (xs.drop (i + 1)) with | none => none | some ys => some (y :: ys)) = some ys' := ef
          split at ef'
          · cases ef'
          · rename_i ys2 e2
            cases ef'
            refine RC.if_t rfl (hy σ4 G4 H4 _ (r4.mono s4) w4 fun v G5 H5 s5 w5 p5 => ?_)
            obtain ⟨o, eo, us, rfl, hu, _⟩ := w5.ownAt (k := 0) rfl
            have lu := Paired.len hu
            refine ⟨us, eo, by rw [lu]; omega, acc ++ [y], G5, ys2, sG.trans (s3.trans (s4.trans s5)), ?_, by rw [List.length_append]; show acc.length + 1 ≤ _; omega, e2, by rw [List.append_assoc]; exact ea⟩
            have w6 := w5.put (k := 0) (φ' := olst K (acc ++ [y])) rfl ⟨_, rfl, Paired.app' hu (.cons p5 .nil), by rw [List.length_append]; show acc.length + 1 ≤ _; omega⟩
            exact w6
  · have e : i = xs.length := by omega
    subst e
    rw [List.drop_length] at ef
    cases ef
    rw [List.append_nil] at ea
    subst ea
    exact .inl ⟨wk.stop G' _ H' sG w' (hP' _ _ hP), q D G' H' (s2.trans sG) w'⟩
/-! ### == of data -/
class Dat (α : Type) extends Rp α where
  d : α → PyData
  dp : ∀ {K : Frag} {G H : Hp} {ω : List Ent} {v : V} {x : α}, At G ω H → Rp.rep K G v x → Dp K H v (d x)
  lay : ∀ x : α, (d x).canLay0 = true
  deep : Nat
  dep : ∀ x : α, (d x).depth ≤ deep
  dec : DecidableEq α
  eqv : ∀ x y : α, PyData.eqv (d x) (d y) = decide (x = y)
theorem Dat.shaped {α : Type} [t : Dat α] (h : t.deep ≤ 64) (x : α) : SeqAt.shaped (t.d x) = true := by
  unfold SeqAt.shaped
  rw [t.lay x, decide_eq_true (Nat.le_trans (t.dep x) h)]
  rfl
instance : Dat Int where
  d := .int
  dp _ h := by
    cases h
    exact .int _
  lay _ := by simp [PyData.canLay0]
  deep := 0
  dep _ := by simp [PyData.depth]
  dec := inferInstance
  eqv x y := by
    rw [PyData.eqv]
    by_cases h : x = y <;> simp [h]
theorem dpa {α : Type} [t : Dat α] {G H : Hp} (w : At G ω H) : ∀ {vs : List V} {xs : List α}, All K G vs xs → DpAll K H vs (xs.map t.d)
  | _, _, .nil => .nil
  | _, _, .cons r s => .cons (t.dp w r) (dpa w s)
theorem layAll {α : Type} [t : Dat α] : ∀ xs : List α, PyData.canLayAll0 (xs.map t.d) = true
  | [] => by simp [PyData.canLayAll0]
  | x :: xs => by simp [PyData.canLayAll0, t.lay x, layAll xs]
theorem depAll {α : Type} [t : Dat α] : ∀ xs : List α, PyData.depthAll (xs.map t.d) ≤ t.deep
  | [] => by simp [PyData.depthAll]
  | x :: xs => by
    have h1 := depAll xs
    have h2 := t.dep x
    simp only [List.map_cons, PyData.depthAll]
    omega
theorem eqvAll {α : Type} [t : Dat α] [dd : DecidableEq α] : ∀ xs ys : List α, PyData.eqvAll (xs.map t.d) (ys.map t.d) = decide (xs = ys)
  | [], [] => by simp [PyData.eqvAll]
  | [], y :: ys => by simp [PyData.eqvAll]
  | x :: xs, [] => by simp [PyData.eqvAll]
  | x :: xs, y :: ys => by
    rw [List.map_cons, List.map_cons, PyData.eqvAll, eqvAll xs ys, t.eqv]
    by_cases h : x = y
    · subst h
      simp
    · simp [h]
instance {α : Type} [t : Dat α] : Dat (List α) where
  d xs := .list (xs.map t.d)
  dp w h := by
    obtain ⟨a, vs, rfl, e, ha, _⟩ := h
    exact .lst (RC.sq_of (w.lst e)) (dpa w ha)
  lay xs := by
    rw [PyData.canLay0]
    exact layAll xs
  deep := t.deep + 1
  dep xs := by
    rw [PyData.depth]
    exact Nat.succ_le_succ (depAll xs)
  dec := @instDecidableEqList α t.dec
  eqv xs ys := by
    rw [PyData.eqv]
    exact @eqvAll α t t.dec xs ys
instance {α : Type} [t : Dat α] : DecidableEq (Tu α) := fun x y => match x, y with
  | ⟨l⟩, ⟨l'⟩ => match @instDecidableEqList α t.dec l l' with
    | .isTrue h => .isTrue (h ▸ rfl)
    | .isFalse h => .isFalse fun q => h (Tu.mk.inj q)
instance {α : Type} [t : Dat α] : Dat (Tu α) where
  d xs := .tuple (xs.l.map t.d)
  dp w h := by
    obtain ⟨a, vs, rfl, e, ha, _⟩ := h
    exact .tup (RC.st_of (w.tup e)) (dpa w ha)
  lay xs := by
    rw [PyData.canLay0]
    exact layAll xs.l
  deep := t.deep + 1
  dep xs := by
    rw [PyData.depth]
    exact Nat.succ_le_succ (depAll xs.l)
  dec := inferInstance
  eqv xs ys := by
    rw [PyData.eqv]
    have := @eqvAll α t t.dec xs.l ys.l
    rw [this]
    exact decide_eq_decide.mpr ⟨fun h => by cases xs; cases ys; exact congrArg Tu.mk h, fun h => by rw [h]⟩
instance {α β : Type} [t : Dat α] [s : Dat β] : Dat (α × β) where
  d p := .tuple [t.d p.1, s.d p.2]
  dp w h := by
    obtain ⟨a, x, y, rfl, e, h1, h2⟩ := h
    exact .tup (RC.st_of (w.tup e)) (.cons (t.dp w h1) (.cons (s.dp w h2) .nil))
  lay p := by simp [PyData.canLay0, PyData.canLayAll0, t.lay, s.lay]
  deep := max t.deep s.deep + 1
  dep p := by
    have h1 := t.dep p.1
    have h2 := s.dep p.2
    simp only [PyData.depth, PyData.depthAll]
    omega
  dec := @instDecidableEqProd α β t.dec s.dec
  eqv p q := by
    rw [PyData.eqv, PyData.eqvAll, PyData.eqvAll, PyData.eqvAll, t.eqv, s.eqv, Bool.and_true]
    letI := t.dec
    letI := s.dec
    by_cases h1 : p.1 = q.1
    · by_cases h2 : p.2 = q.2
      · rw [decide_eq_true h1, decide_eq_true h2, decide_eq_true (Prod.ext h1 h2)]
        rfl
      · rw [decide_eq_false h2, decide_eq_false (fun z => h2 (congrArg Prod.snd z)), Bool.and_false]
    · rw [decide_eq_false h1, decide_eq_false (fun z => h1 (congrArg Prod.fst z)), Bool.false_and]
theorem OpX.eqD {α : Type} [t : Dat α] [DecidableEq α] {x y : α} (h : t.deep ≤ 64) : OpX (rEqD K) ω ω (is K x) (is K y) (is K (decide (x = y))) := fun G H u v Q w p1 p2 q => by
  refine ⟨t.d x, t.d y, t.dp w p1, t.dp w p2, Dat.shaped h x, Dat.shaped h y, q _ G H (Le.refl _) w ?_⟩
  show V.bl _ = V.bl _
  rw [t.eqv]
  congr
theorem OpX.neD {α : Type} [t : Dat α] [DecidableEq α] {x y : α} (h : t.deep ≤ 64) : OpX (rNeD K) ω ω (is K x) (is K y) (is K (!decide (x = y))) := fun G H u v Q w p1 p2 q => by
  refine ⟨t.d x, t.d y, t.dp w p1, t.dp w p2, Dat.shaped h x, Dat.shaped h y, q _ G H (Le.refl _) w ?_⟩
  show V.bl _ = V.bl _
  rw [t.eqv]
  congr
/-- one's own list compared -/
theorem OpX.eqO {α : Type} [t : Dat α] [DecidableEq α] {x y : List α} {k : Nat} {p : Addr} (ho : ω[k]? = some (Ent.own p (olst K x))) (h : t.deep ≤ 63) : OpX (rEqD K) ω ω (adr p) (is K y) (is K (decide (x = y))) := fun G H u v Q w p1 p2 q => by
  cases p1
  obtain ⟨o, eo, us, rfl, hu, _⟩ := w.ownAt ho
  have hd : Dat.deep (List α) ≤ 64 := Nat.succ_le_succ h
  refine ⟨Dat.d x, Dat.d y, .lst (RC.sq_of eo) (dpa w hu), Dat.dp w p2, Dat.shaped hd x, Dat.shaped hd y, q _ G H (Le.refl _) w ?_⟩
  show V.bl _ = V.bl _
  rw [Dat.eqv]
  congr
theorem OpX.neO {α : Type} [t : Dat α] [DecidableEq α] {x y : List α} {k : Nat} {p : Addr} (ho : ω[k]? = some (Ent.own p (olst K x))) (h : t.deep ≤ 63) : OpX (rNeD K) ω ω (adr p) (is K y) (is K (!decide (x = y))) := fun G H u v Q w p1 p2 q => by
  cases p1
  obtain ⟨o, eo, us, rfl, hu, _⟩ := w.ownAt ho
  have hd : Dat.deep (List α) ≤ 64 := Nat.succ_le_succ h
  refine ⟨Dat.d x, Dat.d y, .lst (RC.sq_of eo) (dpa w hu), Dat.dp w p2, Dat.shaped hd x, Dat.shaped hd y, q _ G H (Le.refl _) w ?_⟩
  show V.bl _ = V.bl _
  rw [Dat.eqv]
  congr
end
end Lf
/-! ## Readings told by plain data: the rest -/
namespace Lf
open PySem PySem.Spec PyProof.Rows L2
open PySem.W (Frag)
open He (ga)
section
variable {K : Frag} {W : WX} {E : XK} {ωe : List Ent} {X R S T : Type} {Γ Γ' : Gm} {ω ω1 ω2 ω3 : List Ent} {Z : ZF K W ωe X} {t u ts : TS} {te ta tb tc : TE} {tt uu : TT} {a b m : MP} {fr : R → RS} {fn : S → Gm × List Ent} {φ : OC} {sp : Sp} {tA : TA} {ms : List MP} {fo : R → RS} {α β : Type} [Rp α] [Rp β]
theorem passF {P : Program} {w : World} {X : Cx} : Passes (L2.CX P w) X (fun _ _ _ => False) := fun _ _ _ _ _ _ _ h => by
  obtain ⟨a, B, H', cls, d, _, _, _, _, _, _, _, q⟩ := h
  exact q.elim
theorem val_ok {m : Res R} {r : R} (h : Res.val m = some r) : m = .ok r := by
  cases m with
  | ok a => cases h; rfl
  | err e => cases h
  | bad => cases h
theorem set_same {ω : List Ent} {k : Nat} {e : Ent} (h : ω[k]? = some e) : ω.set k e = ω := by
  refine List.ext_getElem? fun i => ?_
  by_cases z : k = i
  · subst z
    rw [List.getElem?_set_self (List.getElem?_eq_some_iff.mp h).1, h]
  · rw [List.getElem?_set_ne z]
theorem Says.front {mr : Res R} {G : Hp} {Q : VK} {p : Addr} {φ : OC} {φ' : R → OC} {f1 : R → MP} {k : Nat} (ho : ω[k]? = some (Ent.own p φ)) (s : Says K G ω mr (fun r => .val (f1 r) (ω.set k (.own p (φ' r)))) Q E) : Says K G (.own p φ :: ω.eraseIdx k) mr (fun r => .val (f1 r) (.own p (φ' r) :: ω.eraseIdx k)) Q E := by
  refine ⟨s.1, fun r e v G2 H2 s2 w2 p2 => s.2.1 r e v G2 H2 s2 (At.back w2 ho) p2, fun x e σ d v G2 H2 s2 w2 => s.2.2 x e σ d v G2 H2 s2 ?_⟩
  have := At.back w2 ho
  rw [set_same ho] at this
  exact this
/-! conditional values -/
class NN (α : Type) extends Rp α where
  nn : ∀ {K : Frag} {H : Hp} {v : V} {x : α}, Rp.rep K H v x → v ≠ .non
instance : NN Int := { nn := fun h z => by rw [z] at h; cases h }
instance : NN Bool := { nn := fun h z => by rw [z] at h; cases h }
instance : NN Str := { nn := fun h z => by rw [z] at h; cases h }
instance {α : Type} [Rp α] : NN (List α) := { nn := fun ⟨_, _, e, _⟩ z => by rw [z] at e; cases e }
instance {α : Type} [Rp α] : NN (Tu α) := { nn := fun ⟨_, _, e, _⟩ z => by rw [z] at e; cases e }
instance {α β : Type} [Rp α] [Rp β] : NN (α × β) := { nn := fun ⟨_, _, _, e, _⟩ z => by rw [z] at e; cases e }
theorem EvX.opt {α : Type} [n : NN α] {x : α} (h : EvX te Γ ω ω1 (is K x)) : EvX te Γ ω ω1 (is K (some x)) := h.as fun _ _ p => ⟨p, n.nn p⟩
theorem EvX.iteV {c : Bool} {x y : α} (h : EvT tt Γ ω ω1 c) (h1 : c = true → EvX ta Γ ω1 ω2 (is K x)) (h2 : c = false → EvX tb Γ ω1 ω2 (is K y)) : EvX (tIf tt ta tb) Γ ω ω2 (is K (if c then x else y)) := by
  cases c with
  | true => exact EvX.ite h (fun _ => h1 rfl) (fun z => (nomatch z))
  | false => exact EvX.ite h (fun z => (nomatch z)) (fun _ => h2 rfl)
theorem EvX.iteO {c : Bool} {o1 o2 : Option α} {z : α} (h : EvT tt Γ ω ω1 c) (h1 : c = true → o1 = some z → EvX ta Γ ω1 ω2 (is K z)) (h2 : c = false → o2 = some z → EvX tb Γ ω1 ω2 (is K z)) (e : (if c then o1 else o2) = some z) : EvX (tIf tt ta tb) Γ ω ω2 (is K z) := by
  cases c with
  | true => exact EvX.ite h (fun _ => h1 rfl e) (fun z => (nomatch z))
  | false => exact EvX.ite h (fun z => (nomatch z)) (fun _ => h2 rfl e)
theorem EvT.eq {x y : Bool} (h : EvT tt Γ ω ω1 x) (e : x = y) : EvT tt Γ ω ω1 y := e ▸ h
/-! ints with written numbers; max, min, int, bit_length -/
theorem OpX.mulK {i j : Int} (c : CMul i j) : OpX (rI CMul fun i j => .int (i * j)) ω ω (is K i) (is K j) (is K (i * j)) := .I c fun _ => rfl
theorem OpX.powK {i j : Int} (c : CPow i j) : OpX (rI CPow fun i j => .int (i ^ j.toNat)) ω ω (is K i) (is K j) (is K (i ^ j.toNat)) := .I c fun _ => rfl
theorem OpX.modK {i j : Int} (c : 0 < j) : OpX (rI (fun _ j => 0 < j) fun i j => .int (i % j)) ω ω (is K i) (is K j) (is K (i % j)) := .I c fun _ => rfl
theorem OpX.fdivK {i j : Int} (c : CDiv i j) : OpX (rI CDiv fun i j => .int (i / j)) ω ω (is K i) (is K j) (is K (i / j)) := .I c fun _ => rfl
theorem CaX.int1 {i : Int} : CaX RC.rInt1 ω ω [is K i] (is K i) := fun G H vs Q w p q => by
  obtain ⟨v, rfl, e⟩ := PArgs.one p
  cases e
  exact .inl ⟨i, rfl, q _ G H (Le.refl _) w rfl⟩
def max2 (i j : Int) : Int := if j > i then j else i
def min2 (i j : Int) : Int := if j < i then j else i
theorem CaX.max2 {i j : Int} : CaX Evl.rMax2 ω ω [is K i, is K j] (is K (max2 i j)) := fun G H vs Q w p q => by
  obtain ⟨v, v', rfl, e, e'⟩ := PArgs.two p
  cases e
  cases e'
  exact ⟨i, j, rfl, q _ G H (Le.refl _) w rfl⟩
theorem CaX.min2 {i j : Int} : CaX RC.rMin2 ω ω [is K i, is K j] (is K (min2 i j)) := fun G H vs Q w p q => by
  obtain ⟨v, v', rfl, e, e'⟩ := PArgs.two p
  cases e
  cases e'
  exact ⟨i, j, rfl, q _ G H (Le.refl _) w rfl⟩
theorem EvX.bits {i : Int} (h : EvX te Γ ω ω1 (is K i)) : EvX (tBits te) Γ ω ω1 (is K (Builtin.Int.intBits i : Int)) := fun σ G H Q r w q => h σ G H _ r w fun v G2 H2 s w2 p => ⟨i, p, q _ G2 H2 s w2 rfl⟩
/-! comprehensions -/
theorem mapO_map {γ δ : Type} (f : γ → δ) : ∀ xs : List γ, mapO (fun x => some (some (f x))) xs = some (xs.map f)
  | [] => rfl
  | x :: xs => by
    unfold mapO
    rw [mapO_map f xs]
    rfl
theorem mapO_fil {γ δ : Type} (c : γ → Bool) (f : γ → δ) : ∀ xs : List γ, mapO (fun x => if c x then some (some (f x)) else some none) xs = some ((xs.filter c).map f)
  | [] => rfl
  | x :: xs => by
    unfold mapO
    rw [mapO_fil c f xs]
    cases h : c x with
    | true => rw [List.filter_cons_of_pos h]; rfl
    | false => rw [List.filter_cons_of_neg (by rw [h]; decide)]; rfl
theorem Elt.all {y : β} {o : Option β} (h : EvX te Γ ω ω (is K y)) (e : some (some y) = some o) : Elt K tYes te Γ ω o := ⟨true, EvT.yes, fun z => (nomatch z), fun _ => ⟨y, (Option.some.inj e).symm, h⟩⟩
theorem Elt.iteO {c : Bool} {oA : Option (Option β)} {o : Option β} (h : EvT tt Γ ω ω c) (h1 : c = true → oA = some o → ∃ y, o = some y ∧ EvX te Γ ω ω (is K y)) (e : (if c then oA else some none) = some o) : Elt K tt te Γ ω o := by
  cases c with
  | true => exact ⟨true, h, fun z => (nomatch z), fun _ => h1 rfl e⟩
  | false => exact ⟨false, h, fun _ => (Option.some.inj e).symm, fun z => (nomatch z)⟩
theorem Elt.ite {c : Bool} {y : β} {o : Option β} (h : EvT tt Γ ω ω c) (h1 : c = true → EvX te Γ ω ω (is K y)) (e : (if c then some (some y) else some none) = some o) : Elt K tt te Γ ω o := Elt.iteO h (fun z q => ⟨y, (Option.some.inj q).symm, h1 z⟩) e
/-! a, b = e; raise; what is not reached -/
theorem Go.asgT {g : TG} {y : α} {Γ2 : α → Gm} {x : Res X} (h : EvX te Γ ω ω1 (is K y)) (ht : TgX K g Γ Γ2) (k : Go u (Γ2 y) ω1 Z x) : Go (tSeq (tAsg te g) u) Γ ω Z x := fun σ G H D rp w z => h σ G H _ rp w fun v G2 H2 s w2 p => ht y σ G2 H2 _ v _ (rp.mono s) w2 p fun σ' r' => k σ' G2 H2 D r' w2 (Z.mono s z)
theorem Go.never : Go tNever Γ ω Z (.bad : Res X) := fun σ G H D rp w z => absurd z Z.nobad
/-! tuples: +, slices, [::-1] -/
def catT (xs ys : Tu α) : Option (Tu α) := if xs.l.length + ys.l.length ≤ sizeLine then some ⟨xs.l ++ ys.l⟩ else none
theorem OpX.catT {xs ys zs : Tu α} (e : Lf.catT xs ys = some zs) : OpX (rCatA K) ω ω (is K xs) (is K ys) (is K zs) := fun G H u v Q w p1 p2 q => by
  obtain ⟨a, us, rfl, ea, ha, la⟩ := p1
  obtain ⟨b, vs, rfl, eb, hb, lb⟩ := p2
  unfold Lf.catT at e
  split at e
  · rename_i c
    cases e
    refine ⟨a, b, us, vs, rfl, rfl, RC.st_of (w.tup ea), RC.st_of (w.tup eb), by rw [Paired.len ha, Paired.len hb]; exact c, fun z => ?_, fun _ z => ?_, fun _ _ p hp => ?_⟩
    · subst z
      have : xs.l = [] := List.eq_nil_of_length_eq_zero (Paired.len ha).symm
      exact q _ G H (Le.refl _) w ⟨b, vs, rfl, eb, by rw [this]; exact hb, by rw [this]; exact lb⟩
    · subst z
      have : ys.l = [] := List.eq_nil_of_length_eq_zero (Paired.len hb).symm
      exact q _ G H (Le.refl _) w ⟨a, us, rfl, ea, by rw [this, List.append_nil]; exact ha, by rw [this, List.append_nil]; exact la⟩
    · obtain ⟨w2, s2⟩ := w.new (o := .tup (us ++ vs)) hp
      exact q _ _ _ s2 w2 ⟨p, _, rfl, upd_same, Paired.app' (All.mono s2 ha) (All.mono s2 hb), by show (xs.l ++ ys.l).length ≤ _; rw [List.length_append]; exact c⟩
  · cases e
theorem cut_whole {γ : Type} {xs : List γ} {lo hi : Option Int} (h : HT.sIx xs.length 0 lo = 0 ∧ HT.sIx xs.length xs.length hi = xs.length) : cut xs lo hi = xs := by
  unfold cut
  rw [h.1, h.2, List.drop_zero, Nat.sub_zero, List.take_length]
theorem EvX.slT {xs : Tu α} {tl th : TO} {lo hi : Option Int} (h : EvX te Γ ω ω1 (is K xs)) (h1 : EvO tl Γ ω1 ω2 lo) (h2 : EvO th Γ ω2 ω3 hi) : EvX (tSl (rSlA K) te tl th) Γ ω ω3 (is K (Tu.mk (cut xs.l lo hi))) := fun σ G H Q r w q =>
  h σ G H _ r w fun v G1 H1 s1 w1 p1 => h1 σ G1 H1 _ (r.mono s1) w1 fun G2 H2 s2 w2 => h2 σ G2 H2 _ (r.mono (s1.trans s2)) w2 fun G3 H3 s3 w3 => by
    obtain ⟨a, us, rfl, e, ha, l⟩ := (is K xs).mono (s2.trans s3) p1
    refine ⟨a, us, rfl, RC.st_of (w3.tup e), fun z => ?_, fun _ p hp => ?_⟩
    · rw [Paired.len ha] at z
      exact q _ G3 H3 (s1.trans (s2.trans s3)) w3 ⟨a, us, rfl, e, by rw [cut_whole z]; exact ha, by rw [cut_whole z]; exact l⟩
    · obtain ⟨w4, s4⟩ := w3.new (o := .tup (cutV us lo hi)) hp
      exact q _ _ _ (s1.trans (s2.trans (s3.trans s4))) w4 ⟨p, _, rfl, upd_same, All.cut (All.mono s4 ha), Nat.le_trans (cut_len _ _ _) l⟩
theorem EvX.revT {xs : Tu α} (h : EvX te Γ ω ω1 (is K xs)) : EvX (RC.tRevT K te) Γ ω ω1 (is K (Tu.mk xs.l.reverse)) := fun σ G H Q r w q => h σ G H _ r w fun v G1 H1 s1 w1 p1 => by
  obtain ⟨a, us, rfl, e, ha, l⟩ := p1
  refine ⟨a, us, rfl, RC.st_of (w1.tup e), fun p hp => ?_⟩
  obtain ⟨w2, s2⟩ := w1.new (o := .tup us.reverse) hp
  exact q _ _ _ (s1.trans s2) w2 ⟨p, _, rfl, upd_same, Paired.rev' (All.mono s2 ha), by show xs.l.reverse.length ≤ _; rw [List.length_reverse]; exact l⟩
/-! [*xs, a, ..] -/
theorem EvF.starL {xs ys zs : List α} {tr : TA} {ms : List MP} (h : EvX te Γ ω ω1 (is K xs)) (hr : EvA tr Γ ω1 ω2 ms) (e : ms = ys.map (is K)) (ec : cat xs ys = some zs) : EvF (tLst (StX.tStar K te tr)) Γ ω ω2 (olst K zs) := fun σ G H Q r w q => h σ G H _ r w fun v G1 H1 s1 w1 p1 => by
  obtain ⟨a, us, rfl, ea, ha, l⟩ := p1
  refine ⟨a, us, rfl, .inr (RC.sq_of (w1.lst ea)), hr σ G1 H1 _ (r.mono s1) w1 fun vs G2 H2 s2 w2 p2 => ?_⟩
  unfold cat at ec
  split at ec
  · rename_i c
    cases ec
    have hv : All K G2 vs ys := all_of (e ▸ p2)
    have hl : (us ++ vs).length ≤ sizeLine := by rw [List.length_append, Paired.len ha, Paired.len hv]; exact c
    exact ⟨hl, fun p hp => q p G2 _ (s1.trans s2) (newL w2 hp (Paired.app' (All.mono s2 ha) hv) (by rw [List.length_append]; exact c))⟩
  · cases ec
/-! in -/
theorem any_in {G : Hp} {n : Int} {vs : List V} {ns : List Int} (h : All K G vs ns) : inV (.int n) vs = decide (n ∈ ns) ∧ vs.all flatV = true := by
  rw [ints_of h]
  clear h
  induction ns with
  | nil => exact ⟨rfl, rfl⟩
  | cons x ns ih =>
    refine ⟨?_, ?_⟩
    · have h1 := ih.1
      unfold inV at h1 ⊢
      rw [List.map_cons, List.any_cons, h1]
      by_cases e : n = x
      · subst e
        simp [eqV]
      · have : (x == n) = false := by simpa using fun z => e z.symm
        simp [eqV, this, e]
    · rw [List.map_cons, List.all_cons, ih.2]
      rfl
theorem OpX.inL {n : Int} {xs : List Int} : OpX (rIn K false) ω ω (is K n) (is K xs) (is K (decide (n ∈ xs))) := fun G H u v Q w p1 p2 q => by
  cases p1
  obtain ⟨a, us, rfl, ea, ha, _⟩ := p2
  obtain ⟨h1, h2⟩ := any_in (n := n) ha
  exact ⟨a, us, rfl, .inl (RC.sq_of (w.lst ea)), rfl, h2, by rw [if_neg (by decide), h1]; exact q _ G H (Le.refl _) w rfl⟩
theorem OpX.niL {n : Int} {xs : List Int} : OpX (rIn K true) ω ω (is K n) (is K xs) (is K (!decide (n ∈ xs))) := fun G H u v Q w p1 p2 q => by
  cases p1
  obtain ⟨a, us, rfl, ea, ha, _⟩ := p2
  obtain ⟨h1, h2⟩ := any_in (n := n) ha
  exact ⟨a, us, rfl, .inl (RC.sq_of (w.lst ea)), rfl, h2, by rw [if_pos rfl, h1]; exact q _ G H (Le.refl _) w rfl⟩
/-! ### dicts -/
def Dic.get? {κ : Type} [DecidableEq κ] (d : Dic κ α) (k : κ) : Option α := (d.l.find? fun p => decide (p.1 = k)).map (·.2)
def Dic.has {κ : Type} [DecidableEq κ] (d : Dic κ α) (k : κ) : Bool := (d.get? k).isSome
def putL {κ : Type} [DecidableEq κ] (l : List (κ × α)) (k : κ) (x : α) : List (κ × α) := if (l.any fun p => decide (p.1 = k)) = true then l.map (fun p => if p.1 = k then (p.1, x) else p) else l ++ [(k, x)]
def Dic.put {κ : Type} [DecidableEq κ] (d : Dic κ α) (k : κ) (x : α) : Option (Dic κ α) := if d.l.length < sizeLine then some ⟨putL d.l k x⟩ else none
class KpV (κ : Type) extends Kp κ, Rp κ where
  dec : DecidableEq κ
  rp : ∀ {K : Frag} {H : Hp} {k : κ}, Rp.rep K H (kV (Kp.key k)) k
  kv : ∀ {K : Frag} {H : Hp} {v : V} {k : κ}, Rp.rep K H v k → v = kV (Kp.key k)
instance : KpV Int := { dec := inferInstance, rp := rfl, kv := fun h => h }
instance : KpV Str := { dec := inferInstance, rp := rfl, kv := fun h => h }
section
variable {κ : Type} [kp : KpV κ] [DecidableEq κ]
theorem valV_of {G : Hp} {k : κ} {kvs : List (Key × V)} {l : List (κ × α)} (h : AllD K G kvs l) : match (l.find? fun p => decide (p.1 = k)).map (·.2) with
    | none => valV kvs (Kp.key k) = none
    | some x => ∃ v, valV kvs (Kp.key k) = some v ∧ Rp.rep K G v x := by
  induction h with
  | nil => exact rfl
  | @cons kv p _ _ r t ih =>
    by_cases e : p.1 = k
    · rw [List.find?_cons, decide_eq_true e]
      refine ⟨kv.2, valV_pos ?_, r.2⟩
      rw [r.1, e]
    · rw [List.find?_cons, decide_eq_false e]
      have ne : ¬ kv.1 = Kp.key k := fun z => e (Kp.inj (r.1.symm.trans z))
      rw [valV_neg ne]
      exact ih
theorem dget_of {G H : Hp} {a : Addr} {kvs : List (Key × V)} {d : Dic κ α} {k : κ} {v : V} (e : Rd H a (.dK kvs)) (h : AllD K G kvs d.l) (hk : Rp.rep K G v k) : ∃ o, DGet H a v o ∧ match d.get? k with
    | none => o = none
    | some x => ∃ v, o = some v ∧ Rp.rep K G v x := by
  refine ⟨valV kvs (Kp.key k), .inl ⟨kvs, Kp.key k, e, KpV.kv hk, rfl⟩, ?_⟩
  have := valV_of (k := k) h
  unfold Dic.get?
  split at this <;> exact this
/-- where a dict stands: still, or one's own -/
def DicAt (K : Frag) (ω : List Ent) (a : MP) (d : Dic κ α) : Prop := ∀ (G H : Hp) (v : V), At G ω H → a.p G v → ∃ p kvs, v = .ref p ∧ Rd H p (.dK kvs) ∧ AllD K G kvs d.l
theorem DicAt.of {d : Dic κ α} : DicAt K ω (is K d) d := fun G H v w p => by
  obtain ⟨a, kvs, rfl, e, h, _⟩ := p
  exact ⟨a, kvs, rfl, w.rd e, h⟩
theorem DicAt.own {d : Dic κ α} {k : Nat} {p : Addr} (ho : ω[k]? = some (Ent.own p (odic K d))) : DicAt K ω (adr p) d := fun G H v w e => by
  obtain ⟨o, eo, kvs, rfl, h, _⟩ := w.ownAt ho
  exact ⟨p, kvs, e, .inl eo, h⟩
theorem EvF.dnew {K : Frag} {Γ : Gm} {ω : List Ent} {κ : Type} [KpV κ] {α : Type} [Rp α] : EvF tDNewK Γ ω ω (odic K (Dic.mk [] : Dic κ α)) := fun σ G H Q r w q p hp => q p G _ (Le.refl _) (w.newOwn hp ⟨[], rfl, .nil, Nat.zero_le _⟩)
theorem EvX.dget' {d : Dic κ α} {k : κ} {x : α} (h : EvX ta Γ ω ω1 a) (hk : EvX tb Γ ω1 ω2 (is K k)) (hd : DicAt K ω2 a d) (e : d.get? k = some x) : EvX (tDGet ta tb) Γ ω ω2 (is K x) := fun σ G H Q r w q => h σ G H _ r w fun v G1 H1 s1 w1 p1 => hk σ G1 H1 _ (r.mono s1) w1 fun y G2 H2 s2 w2 p2 => by
  obtain ⟨p, kvs, rfl, hr, hv⟩ := hd G2 H2 v w2 (a.mono s2 p1)
  obtain ⟨o, ho, hm⟩ := dget_of hr hv p2
  rw [e] at hm
  obtain ⟨u, rfl, hu⟩ := hm
  exact ⟨p, u, rfl, ho, q u G2 H2 (s1.trans s2) w2 hu⟩
theorem EvX.din' {d : Dic κ α} {k : κ} (hk : EvX tb Γ ω ω1 (is K k)) (h : EvX ta Γ ω1 ω2 a) (hd : DicAt K ω2 a d) : EvX (tDIn tb ta) Γ ω ω2 (is K (d.has k)) := fun σ G H Q r w q => hk σ G H _ r w fun y G1 H1 s1 w1 p1 => h σ G1 H1 _ (r.mono s1) w1 fun v G2 H2 s2 w2 p2 => by
  obtain ⟨p, kvs, rfl, hr, hv⟩ := hd G2 H2 v w2 p2
  obtain ⟨o, ho, hm⟩ := dget_of (k := k) hr hv ((is K k).mono s2 p1)
  refine ⟨p, o, rfl, ho, q _ G2 H2 (s1.trans s2) w2 ?_⟩
  show V.bl _ = V.bl _
  unfold Dic.has
  cases e : d.get? k with
  | none =>
    rw [e] at hm
    rw [hm]
    rfl
  | some x =>
    rw [e] at hm
    obtain ⟨u, rfl, _⟩ := hm
    rfl
theorem EvX.dni' {d : Dic κ α} {k : κ} (hk : EvX tb Γ ω ω1 (is K k)) (h : EvX ta Γ ω1 ω2 a) (hd : DicAt K ω2 a d) : EvX (tDNotIn tb ta) Γ ω ω2 (is K (!d.has k)) := fun σ G H Q r w q => hk σ G H _ r w fun y G1 H1 s1 w1 p1 => h σ G1 H1 _ (r.mono s1) w1 fun v G2 H2 s2 w2 p2 => by
  obtain ⟨p, kvs, rfl, hr, hv⟩ := hd G2 H2 v w2 p2
  obtain ⟨o, ho, hm⟩ := dget_of (k := k) hr hv ((is K k).mono s2 p1)
  refine ⟨p, o, rfl, ho, q _ G2 H2 (s1.trans s2) w2 ?_⟩
  show V.bl _ = V.bl _
  unfold Dic.has
  cases e : d.get? k with
  | none =>
    rw [e] at hm
    rw [hm]
    rfl
  | some x =>
    rw [e] at hm
    obtain ⟨u, rfl, _⟩ := hm
    rfl
theorem isD_of {H : Hp} {p : Addr} {kvs : List (Key × V)} (h : Rd H p (.dK kvs)) : IsD H p := .inl ⟨kvs, h⟩
theorem EvX.dget2' {d : Dic κ α} {k : κ} {z : α} (h : EvX ta Γ ω ω1 a) (hk : EvX tb Γ ω1 ω2 (is K k)) (hz : EvX tc Γ ω2 ω3 (is K z)) (hd1 : DicAt K ω1 a d) (hd : DicAt K ω3 a d) : EvX (tDGet2 ta tb tc) Γ ω ω3 (is K ((d.get? k).getD z)) := fun σ G H Q r w q => h σ G H _ r w fun v G1 H1 s1 w1 p1 => by
  obtain ⟨p, kvs, rfl, hr, hv⟩ := hd1 G1 H1 v w1 p1
  refine ⟨p, rfl, isD_of hr, hk σ G1 H1 _ (r.mono s1) w1 fun y G2 H2 s2 w2 p2 => hz σ G2 H2 _ (r.mono (s1.trans s2)) w2 fun u G3 H3 s3 w3 p3 => ?_⟩
  obtain ⟨p', kvs, e, hr, hv⟩ := hd G3 H3 (.ref p) w3 (a.mono (s2.trans s3) p1)
  cases e
  obtain ⟨o, ho, hm⟩ := dget_of (k := k) hr hv ((is K k).mono s3 p2)
  refine ⟨o, ho, q _ G3 H3 (s1.trans (s2.trans s3)) w3 ?_⟩
  cases e : d.get? k with
  | none =>
    rw [e] at hm
    rw [hm]
    exact p3
  | some x =>
    rw [e] at hm
    obtain ⟨t, rfl, ht⟩ := hm
    exact ht
theorem EvX.dgetN' {α : Type} [n : NN α] {d : Dic κ α} {k : κ} (h : EvX ta Γ ω ω1 a) (hk : EvX tb Γ ω1 ω2 (is K k)) (hd1 : DicAt K ω1 a d) (hd : DicAt K ω2 a d) : EvX (tDGet2 ta tb (tC .non)) Γ ω ω2 (is K (d.get? k)) := fun σ G H Q r w q => h σ G H _ r w fun v G1 H1 s1 w1 p1 => by
  obtain ⟨p, kvs, rfl, hr, hv⟩ := hd1 G1 H1 v w1 p1
  refine ⟨p, rfl, isD_of hr, hk σ G1 H1 _ (r.mono s1) w1 fun y G2 H2 s2 w2 p2 => ?_⟩
  obtain ⟨p', kvs, e, hr, hv⟩ := hd G2 H2 (.ref p) w2 (a.mono s2 p1)
  cases e
  obtain ⟨o, ho, hm⟩ := dget_of (k := k) hr hv p2
  refine ⟨o, ho, q _ G2 H2 (s1.trans s2) w2 ?_⟩
  cases e : d.get? k with
  | none =>
    rw [e] at hm
    rw [hm]
    rfl
  | some x =>
    rw [e] at hm
    obtain ⟨t, rfl, ht⟩ := hm
    exact ⟨ht, n.nn ht⟩
theorem any_of {G : Hp} {k : κ} {kvs : List (Key × V)} {l : List (κ × α)} (h : AllD K G kvs l) : (kvs.any fun kv => decide (kv.1 = Kp.key k)) = l.any fun p => decide (p.1 = k) := by
  induction h with
  | nil => rfl
  | @cons kv p _ _ r t ih =>
    rw [List.any_cons, List.any_cons, ih]
    congr 1
    exact decide_eq_decide.mpr ⟨fun z => Kp.inj (r.1.symm.trans z), fun z => by rw [r.1, z]⟩
theorem putM_of {G : Hp} {k : κ} {x : α} {v : V} (hv : Rp.rep K G v x) {kvs : List (Key × V)} {l : List (κ × α)} (h : AllD K G kvs l) : AllD K G (kvs.map fun kv => if kv.1 = Kp.key k then (kv.1, v) else kv) (l.map fun p => if p.1 = k then (p.1, x) else p) := by
  induction h with
  | nil => exact .nil
  | @cons kv p _ _ r t ih =>
    refine .cons ?_ ih
    show (if kv.1 = Kp.key k then (kv.1, v) else kv).1 = Kp.key (if p.1 = k then (p.1, x) else p).1 ∧ Rp.rep K G (if kv.1 = Kp.key k then (kv.1, v) else kv).2 (if p.1 = k then (p.1, x) else p).2
    by_cases e : p.1 = k
    · rw [if_pos e, if_pos (by rw [r.1, e])]
      exact ⟨r.1, hv⟩
    · rw [if_neg e, if_neg (fun z => e (Kp.inj (r.1.symm.trans z)))]
      exact r
theorem putK_of {G : Hp} {k : κ} {x : α} {v : V} (hv : Rp.rep K G v x) {kvs : List (Key × V)} {l : List (κ × α)} (h : AllD K G kvs l) : AllD K G (putK kvs (Kp.key k) v) (putL l k x) := by
  unfold putK putL
  rw [any_of h]
  split
  · exact putM_of hv h
  · exact Paired.app' h (.cons ⟨rfl, hv⟩ .nil)
theorem putL_len (l : List (κ × α)) (k : κ) (x : α) : (putL l k x).length ≤ l.length + 1 := by
  unfold putL
  split
  · rw [List.length_map]
    omega
  · rw [List.length_append]
    exact Nat.le_refl _
theorem Go.dput {d d' : Dic κ α} {i : κ} {y : α} {to ti : TE} {p : Addr} {k : Nat} {x : Res X} (h : EvX te Γ ω ω1 (is K y)) (ht : EvX to Γ ω1 ω1 (adr p)) (hi : EvX ti Γ ω1 ω1 (is K i)) (ho : ω1[k]? = some (Ent.own p (odic K d))) (e : d.put i y = some d') (hk : Go u Γ (ω1.set k (.own p (odic K d'))) Z x) :
    Go (tSeq (sDPut to ti te) u) Γ ω Z x := fun σ G H D rp w z => h σ G H _ rp w fun v G1 H1 s1 w1 p1 => ht σ G1 H1 _ (rp.mono s1) w1 fun v2 G2 H2 s2 w2 p2 => hi σ G2 H2 _ (rp.mono (s1.trans s2)) w2 fun v3 G3 H3 s3 w3 p3 => by
  cases p2
  obtain ⟨o, eo, kvs, rfl, hv, l⟩ := w3.ownAt ho
  unfold Dic.put at e
  split at e
  · rename_i c
    cases e
    have s := s1.trans (s2.trans s3)
    refine ⟨p, _, rfl, .inl ⟨kvs, Kp.key i, eo, KpV.kv p3, by rw [Paired.len hv]; exact c, rfl⟩, ?_⟩
    refine hk σ G3 _ D (rp.mono s) (w3.put ho ⟨_, rfl, putK_of ((is K y).mono (s2.trans s3) p1) hv, ?_⟩) (Z.mono s z)
    exact Nat.le_trans (putL_len _ _ _) c
  · cases e
end
end
end Lf
namespace Lf
open PySem PySem.Spec PyProof.Rows L2
theorem paired_cons {G : Hp} {f : Str} {m : MP} {ms : List (Str × MP)} {fs : List (Str × V)} (h : Paired (fun (f : Str × V) (m : Str × MP) => f.1 = m.1 ∧ m.2.p G f.2) fs ((f, m) :: ms)) : ∃ x fs', fs = (f, x) :: fs' ∧ m.p G x ∧ Paired (fun (f : Str × V) (m : Str × MP) => f.1 = m.1 ∧ m.2.p G f.2) fs' ms := by
  cases h with
  | @cons a b l1 l2 r t =>
    obtain ⟨g, x⟩ := a
    have e : g = f := r.1
    subst e
    exact ⟨x, _, rfl, r.2, t⟩
/-! isinstance -/

def eqv (v : V) : MP := ⟨fun _ u => u = v, fun _ h => h⟩
theorem EvX.c {v : V} {Γ : Gm} {ω : List Ent} : EvX (tC v) Γ ω ω (eqv v) := fun σ G H Q r w q => q v G H (Le.refl _) w rfl
class PyT (α : Type) extends Rp α where
  t : String
  ty : ∀ {K : PySem.W.Frag} {G H : Hp} {ω : List Ent} {v : V} {x : α}, At G ω H → Rp.rep K G v x → TyX K H v (.type t)
instance : PyT Int := { t := "int", ty := fun _ h => by cases h; exact .base (.int _) }
instance : PyT Bool := { t := "bool", ty := fun _ h => by cases h; exact .base (.bl _) }
instance : PyT Str := { t := "str", ty := fun _ h => by cases h; exact .base (.str _) }
instance {α : Type} [Rp α] : PyT (List α) := { t := "list", ty := fun w ⟨a, vs, e, h, _⟩ => by subst e; exact .base (.lst (w.lst h)) }
instance {α : Type} [Rp α] : PyT (Tu α) := { t := "tuple", ty := fun w ⟨a, vs, e, h, _⟩ => by subst e; exact .base (.tup (w.tup h)) }
theorem CaX.isi {K : PySem.W.Frag} {ω : List Ent} {α : Type} [p : PyT α] {x : α} {c : V} {u : Value} {b : Bool} (hc : ClsV c u) (e : PySem.W.kitOne K (.type p.t) u = some b) : CaX (rIsi K) ω ω [is K x, eqv c] (is K b) := fun G H vs Q w pa q => by
  obtain ⟨v, v', rfl, h, rfl⟩ := PArgs.two pa
  exact ⟨v, _, _, _, b, rfl, hc, p.ty w h, e, q _ G H (Le.refl _) w rfl⟩
end Lf
namespace RC
open PySem PySem.Spec PyProof.Rows L2
/-! ### min of a list of data -/
section
variable {X : Cx}
def rMinD (K : PySem.W.Frag) : List V → Hp → VK → Prop := fun vs H Q => ∃ (a : Addr) (xs : List V) (d : PyData) (ds : List PyData), vs = [.ref a] ∧ SqL K H a xs ∧ DpAll K H xs (d :: ds) ∧ PySem.W.AlikeAll (d :: ds) ∧ PyData.depthAll (d :: ds) ≤ 40 ∧
  ∀ (i : Nat) v, xs[i]? = some v → (d :: ds)[i]? = some (PySem.W.minD d ds) → Q v H
theorem vals_at : ∀ {xs : List V} {us : List Value} {i : Nat} {u : Value}, Vals xs us → us[i]? = some u → ∃ x, xs[i]? = some x ∧ RelV x u
  | _, _, _, _, .nil, h => by simp at h
  | _, _, 0, _, .cons (a := x) r rs, h => by
    have e := Option.some.inj (show some _ = some _ from h)
    subst e
    exact ⟨x, rfl, r⟩
  | _, _, i + 1, _, .cons r rs, h => by
    obtain ⟨x, a, b⟩ := vals_at (i := i) rs (by simpa using h)
    exact ⟨x, by simpa using a, b⟩
theorem cr_minLL (hc : X.calm = true) (hr : Room 1 X.A) : CallR X (.builtin "min") (rMinD X.K) := by
  intro pins s σ H vs us Q I r h
  obtain ⟨a, xs, d, ds, rfl, hs, hd, al, dep, q⟩ := h
  obtain ⟨its, rv, hl, _⟩ := I.list hs
  rw [Vals.ref1 r]
  obtain ⟨as, hr0⟩ := Dp.readsAll I (d :: ds) xs its hd rv
  have hr' : ReadsAll s.heap its.toArray.toList (d :: ds) as := by rw [List.toList_toArray]; exact hr0
  have hu := hr.units
  have hn : its.toArray.size = ds.length + 1 := PySem.W.readsAll_len hr'
  have hh : X.A.handled = none := I.ok.hd hc
  refine call_min_walkH (PySem.W.iter_listW (A := X.A.in1) hh hl.isList fun s₂ e W st hfp hw hk => ?_)
  refine ⟨_, _, _, _, _, _, _, s.heap, _, rfl, W, st, hfp, by omega, hw, hk, PySem.W.cmpIn_lt (A := X.A.in1) hr' al (by show X.A.units + 1 + _ < _; omega), fun v s' hP m => ?_⟩
  obtain ⟨h', tk, rfl, hk'⟩ := PySem.W.moved_old e rfl m
  obtain ⟨bs, r2, hi, _, _⟩ := PySem.W.readsAll_atA hr' _ v hP
  have e1 : its.toArray.size - 1 = ds.length := by omega
  have e2 := (PySem.W.argBest_fold PySem.W.dataLt PyData.none d ds ds.length (Nat.le_refl _)).2
  rw [List.take_length] at e2
  have hv : its[argBest (fun i j => PySem.W.dataLt ((d :: ds).getD i .none) ((d :: ds).getD j .none)) (its.toArray.size - 1)]? = some v := by
    have := hP
    simpa using this
  obtain ⟨x, hx, rx⟩ := vals_at rv hv
  refine ⟨x, H, I.kept hk', rx, q _ x hx ?_⟩
  have e3 : (d :: ds).getD (argBest (fun i j => PySem.W.dataLt ((d :: ds).getD i .none) ((d :: ds).getD j .none)) (its.toArray.size - 1)) .none = PySem.W.minD d ds := by
    rw [e1]
    exact e2
  rw [List.getD_eq_getElem?_getD, List.getElem?_eq_getElem hi] at e3
  rw [List.getElem?_eq_getElem hi]
  exact congrArg some e3
end
end RC
/-! ## Readings told by plain data: walks over dicts, orders, texts of data -/
namespace Lf
open PySem PySem.Spec PyProof.Rows L2
open PySem.W (Frag)
open He (ga)
section
variable {X : Cx} {e : Expr} {td : TE}
/-- a dict is locked as soon as it has come (and stays so) -/
def tLockV (td : TE) : TE := fun σ H Q => td σ H fun x H1 => ∃ d, x = .ref d ∧ ((∃ u, H1 d = some u ∧ LockD u ∧ ∀ od, Q x (upd H1 d (.frz od u))) ∨ ∃ od u, H1 d = some (.frz od u) ∧ Q x H1)
theorem pe_lockV (he : PE X e td) : PE X e (tLockV td) := by
  refine ⟨fun pins s σ H Q I h => wpAny_mono (he.run pins s σ H _ I h) (fun v s1 hv => ?_) fun _ _ z => z⟩
  obtain ⟨x, H1, I1, rx, d, ex, q⟩ := hv
  rcases q with ⟨u, hu, lu, q⟩ | ⟨od, u, hu, q⟩
  · have mu : Mut (some u) := by
      cases u <;> first | exact trivial | exact lu.elim
    obtain ⟨od, I2⟩ := I1.lock hu mu
    exact ⟨x, _, I2, rx, q od⟩
  · exact ⟨x, H1, I1, rx, q⟩
end
section
variable {K : Frag} {W : WX} {E : XK} {ωe : List Ent} {X R S T : Type} {Γ Γ' : Gm} {ω ω1 ω2 ω3 : List Ent} {Z : ZF K W ωe X} {t u ts : TS} {te ta tb tc : TE} {tt uu : TT} {a b m : MP} {fr : R → RS} {fn : S → Gm × List Ent} {φ : OC} {sp : Sp} {tA : TA} {ms : List MP} {fo : R → RS} {α β : Type} [Rp α] [Rp β]
section
variable {κ : Type} [kp : KpV κ]
theorem lockV {d : Dic κ α} {σ : L2.St} {G H : Hp} {R : V → Hp → Prop} (h : EvX te Γ ω ω1 (is K d)) (r : Reps G σ Γ) (w : At G ω H)
    (q : ∀ (p : Addr) (od : Obj) (kvs : List (Key × V)) (G2 H2 : Hp), Le G G2 → At G2 ω1 H2 → G2 p = some (.frz od (.dK kvs)) → AllD K G2 kvs d.l → d.l.length ≤ sizeLine → R (.ref p) H2) : tLockV te σ H R := h σ G H _ r w fun v G1 H1 s1 w1 p1 => by
  obtain ⟨p, kvs, rfl, e, hv, l⟩ := p1
  rcases e with e | ⟨od, e⟩
  · refine ⟨p, rfl, .inl ⟨_, w1.get e, trivial, fun od => ?_⟩⟩
    obtain ⟨w2, s2⟩ := w1.lock (od := od) e trivial
    exact q p od kvs _ _ (s1.trans s2) w2 upd_same (AllD.mono s2 hv) l
  · exact ⟨p, rfl, .inr ⟨od, _, w1.get e, q p od kvs G1 H1 s1 w1 e hv l⟩⟩
theorem allD_at {G : Hp} {kvs : List (Key × V)} {l : List (κ × α)} (h : AllD K G kvs l) {i : Nat} {x : κ × α} (e : l[i]? = some x) : ∃ v, kvs[i]? = some (Kp.key x.1, v) ∧ Rp.rep K G v x.2 := by
  obtain ⟨kv, ek, r1, r2⟩ := Paired.at_ h e
  exact ⟨kv.2, by rw [ek, ← r1], r2⟩
theorem IterX.keys {d : Dic κ α} (h : EvX te Γ ω ω1 (is K d)) : IterX K (iKeys (tLockV te)) Γ ω ω1 Any (d.l.map (·.1)) := fun σ G H R r w q => by
  refine lockV h r w fun p od kvs G2 H2 s2 w2 e hv l => ⟨p, od, rfl, .inl ⟨kvs, w2.get e, q _ G2 H2 s2 w2 ⟨by rw [List.length_map]; exact l, fun G ω H i s w _ hi => ⟨w.get (s.at e), by rw [List.length_map, ← Paired.len hv] at hi; exact hi⟩, fun G ω H s w _ => ⟨w.get (s.at e), by rw [List.length_map, Paired.len hv]; exact Nat.le_refl _⟩, fun G ω H i x H' k s w _ hk y => ?_⟩⟩⟩
  obtain ⟨rfl, k', v', ek, rfl⟩ := y
  rw [List.getElem?_map] at hk
  cases z : d.l[i]? with
  | none =>
    rw [z] at hk
    cases hk
  | some kx =>
    rw [z] at hk
    cases hk
    obtain ⟨v, ev, _⟩ := allD_at hv z
    rw [ev] at ek
    cases ek
    exact ⟨G, Le.refl _, w, kp.rp⟩
theorem IterX.keysM {d : Dic κ α} (h : EvX te Γ ω ω1 (is K d)) : IterX K (iKeysM (tLockV te)) Γ ω ω1 Any (d.l.map (·.1)) := fun σ G H R r w q => by
  refine lockV h r w fun p od kvs G2 H2 s2 w2 e hv l => ⟨p, od, kvs, rfl, w2.get e, q _ G2 H2 s2 w2 ⟨by rw [List.length_map]; exact l, fun G ω H i s w _ hi => ⟨w.get (s.at e), by rw [List.length_map, ← Paired.len hv] at hi; exact hi⟩, fun G ω H s w _ => ⟨w.get (s.at e), by rw [List.length_map, Paired.len hv]; exact Nat.le_refl _⟩, fun G ω H i x H' k s w _ hk y => ?_⟩⟩
  obtain ⟨rfl, k', v', ek, rfl⟩ := y
  rw [List.getElem?_map] at hk
  cases z : d.l[i]? with
  | none =>
    rw [z] at hk
    cases hk
  | some kx =>
    rw [z] at hk
    cases hk
    obtain ⟨v, ev, _⟩ := allD_at hv z
    rw [ev] at ek
    cases ek
    exact ⟨G, Le.refl _, w, kp.rp⟩
theorem IterX.vals {d : Dic κ α} (h : EvX te Γ ω ω1 (is K d)) : IterX K (iVals (tLockV te)) Γ ω ω1 Any (d.l.map (·.2)) := fun σ G H R r w q => by
  refine lockV h r w fun p od kvs G2 H2 s2 w2 e hv l => ⟨p, od, kvs, rfl, w2.get e, q _ G2 H2 s2 w2 ⟨by rw [List.length_map]; exact l, fun G ω H i s w _ hi => ⟨w.get (s.at e), by rw [List.length_map, ← Paired.len hv] at hi; exact hi⟩, fun G ω H s w _ => ⟨w.get (s.at e), by rw [List.length_map, Paired.len hv]; exact Nat.le_refl _⟩, fun G ω H i x H' k s w _ hk y => ?_⟩⟩
  obtain ⟨rfl, k', ek⟩ := y
  rw [List.getElem?_map] at hk
  cases z : d.l[i]? with
  | none =>
    rw [z] at hk
    cases hk
  | some kx =>
    rw [z] at hk
    cases hk
    obtain ⟨v, ev, pv⟩ := allD_at hv z
    rw [ev] at ek
    cases ek
    exact ⟨G, Le.refl _, w, Rp.mono s pv⟩
theorem IterX.items {d : Dic κ α} (h : EvX te Γ ω ω1 (is K d)) : IterX K (iItems (tLockV te)) Γ ω ω1 Any d.l := fun σ G H R r w q => by
  refine lockV h r w fun p od kvs G2 H2 s2 w2 e hv l => ⟨p, od, kvs, rfl, w2.get e, q _ G2 H2 s2 w2 ⟨l, fun G ω H i s w _ hi => ⟨w.get (s.at e), by rw [← Paired.len hv] at hi; exact hi⟩, fun G ω H s w _ => ⟨w.get (s.at e), by rw [Paired.len hv]; exact Nat.le_refl _⟩, fun G ω H i x H' k s w _ hk y => ?_⟩⟩
  obtain ⟨t, k', v', ek, rfl, nt, rfl⟩ := y
  obtain ⟨v, ev, pv⟩ := allD_at hv hk
  have ee := Prod.mk.inj (Option.some.inj (ev.symm.trans ek))
  obtain ⟨w2, s2⟩ := w.new (o := .tup [kV k', v']) nt
  rw [← ee.1, ← ee.2] at w2 s2 ⊢
  exact ⟨_, s2, w2, t, _, _, rfl, upd_same, kp.rp, Rp.mono (s.trans s2) pv⟩
end
/-! two at once, the second new -/
theorem Go.parF {i j : Nat} {x : Res X} (ha : EvX ta Γ ω ω1 a) (hb : EvF tb Γ ω1 ω2 φ) (k : ∀ p, Go u ((Γ.set i (some a)).set j (some (adr p))) (.own p φ :: ω2) Z x) : Go (tSeq (tPar i j (tCons ta (tCons tb tNil))) u) Γ ω Z x := fun σ G H D rp w z => ha σ G H _ rp w fun v G1 H1 s1 w1 p1 => hb σ G1 H1 _ (rp.mono s1) w1 fun p G2 H2 s2 w2 =>
  ⟨v, .ref p, rfl, k p _ G2 H2 D (((rp.mono (s1.trans s2)).set (a.mono s2 p1)).set (m := adr p) rfl) w2 (Z.mono (s1.trans s2) z)⟩
/-- the first new, the second a value -/
theorem Go.parF1 {i j : Nat} {x : Res X} (ha : EvF ta Γ ω ω1 φ) (hb : ∀ p, EvX tb Γ (.own p φ :: ω1) (.own p φ :: ω1) b) (k : ∀ p, Go u ((Γ.set i (some (adr p))).set j (some b)) (.own p φ :: ω1) Z x) : Go (tSeq (tPar i j (tCons ta (tCons tb tNil))) u) Γ ω Z x := fun σ G H D rp w z => ha σ G H _ rp w fun p G1 H1 s1 w1 => hb p σ G1 H1 _ (rp.mono s1) w1 fun v G2 H2 s2 w2 p2 =>
  ⟨.ref p, v, rfl, k p _ G2 H2 D (((rp.mono (s1.trans s2)).set (m := adr p) rfl).set p2) w2 (Z.mono (s1.trans s2) z)⟩
/-! one's own list, of which nothing more is told -/
def ojunk : OC := ⟨fun _ o => ∃ vs, o = .lst vs, fun _ h => h⟩
def more {α : Type} (xs : List α) : Option Unit := if xs.length < sizeLine then some () else none
theorem Go.appJ {xs : List α} {y : Unit} {to : TE} {p : Addr} {k : Nat} {x : Res X} (ht : EvX to Γ ω ω (adr p)) (h : EvX te Γ ω ω1 m) (h0 : ∃ zs : List α, ω[k]? = some (Ent.own p (olst K zs))) (ho : ω1[k]? = some (Ent.own p (olst K xs))) (e : more xs = some y) (hk : Go u Γ (ω1.set k (.own p ojunk)) Z x) :
    Go (tSeq (tDrop (tBM K "list" rAppend to (tCons te tNil))) u) Γ ω Z x := fun σ G H D rp w z => ht σ G H _ rp w fun v G1 H1 s1 w1 p1 => by
  cases p1
  obtain ⟨zs, h0⟩ := h0
  obtain ⟨o, eo, us, rfl, _, _⟩ := w1.ownAt h0
  refine ⟨RC.ty_l eo, h σ G1 H1 _ (rp.mono s1) w1 fun v G2 H2 s2 w2 p2 => ?_⟩
  obtain ⟨o, eo, us, rfl, hu, _⟩ := w2.ownAt ho
  unfold more at e
  split at e
  · rename_i c
    refine ⟨p, us, v, rfl, rfl, eo, by rw [Paired.len hu]; exact c, ?_⟩
    exact hk σ G2 _ D (rp.mono (s1.trans s2)) (w2.put ho ⟨_, rfl⟩) (Z.mono (s1.trans s2) z)
  · cases e
/-! a value that is not None -/
theorem EvX.unopt {x : Option α} {y : α} (h : EvX te Γ ω ω1 (is K x)) (e : x = some y) : EvX te Γ ω ω1 (is K y) := h.as fun _ _ p => by
  subst e
  exact p.1
/-! order of pairs of ints -/
def ltP (x y : Int × Int) : Bool := HT.lexLt [x.1, x.2] [y.1, y.2]
theorem OpX.ltP {x y : Int × Int} : OpX (rLtT K) ω ω (is K x) (is K y) (is K (Lf.ltP x y)) := fun G H u v Q w p1 p2 q => by
  obtain ⟨a, u1, u2, rfl, ea, h1, h2⟩ := p1
  obtain ⟨b, v1, v2, rfl, eb, g1, g2⟩ := p2
  cases h1
  cases h2
  cases g1
  cases g2
  exact ⟨a, b, [x.1, x.2], [y.1, y.2], rfl, rfl, RC.st_of (w.tup ea), RC.st_of (w.tup eb), q _ G H (Le.refl _) w rfl⟩
/-! the least of a list of data -/
class Ord1 (α : Type) extends Dat α where
  alike : ∀ xs : List α, PySem.W.AlikeAll (xs.map d)
def leastD {α : Type} [t : Ord1 α] (x : α) (xs : List α) : α := xs.foldl (fun a y => if PySem.W.dataLt (t.d y) (t.d a) then y else a) x
def minL {α : Type} [Ord1 α] : List α → Option α
  | [] => none
  | x :: xs => some (leastD x xs)
theorem minD_of {α : Type} [t : Ord1 α] : ∀ (xs : List α) (x : α), PySem.W.minD (t.d x) (xs.map t.d) = t.d (leastD x xs)
  | [], x => rfl
  | y :: xs, x => by
    have ih := minD_of xs (if PySem.W.dataLt (t.d y) (t.d x) then y else x)
    unfold PySem.W.minD at ih ⊢
    rw [List.map_cons, List.foldl_cons]
    show List.foldl _ (if PySem.W.dataLt (t.d y) (t.d x) = true then t.d y else t.d x) _ = _
    have e : (if PySem.W.dataLt (t.d y) (t.d x) = true then t.d y else t.d x) = t.d (if PySem.W.dataLt (t.d y) (t.d x) then y else x) := by split <;> rfl
    rw [e]
    exact ih
theorem d_inj {α : Type} [t : Dat α] {x y : α} (h : t.d x = t.d y) : x = y := by
  have e := t.eqv x y
  rw [h, t.eqv y y] at e
  letI := t.dec
  have e2 : decide (x = y) = true := by
    rw [← e]
    exact decide_eq_true rfl
  exact of_decide_eq_true e2
theorem CaX.minD {α : Type} [t : Ord1 α] {xs : List α} {y : α} (h : minL xs = some y) (hd : t.deep ≤ 40) : CaX (RC.rMinD K) ω ω [is K xs] (is K y) := fun G H vs Q w p q => by
  obtain ⟨v, rfl, a, us, rfl, e, ha, l⟩ := PArgs.one p
  cases xs with
  | nil => cases h
  | cons x xs =>
    cases h
    have hp := dpa w ha
    refine ⟨a, us, t.d x, xs.map t.d, rfl, RC.sq_of (w.lst e), hp, t.alike (x :: xs), Nat.le_trans (depAll (x :: xs)) hd, fun i v hv hi => ?_⟩
    rw [minD_of] at hi
    have hi' : ((x :: xs).map t.d)[i]? = some (t.d (leastD x xs)) := hi
    rw [List.getElem?_map] at hi'
    cases z : (x :: xs)[i]? with
    | none =>
      rw [z] at hi'
      cases hi'
    | some y =>
      rw [z] at hi'
      have ey : y = leastD x xs := d_inj (Option.some.inj hi')
      obtain ⟨v', ev, pv⟩ := Paired.at_ ha z
      have e2 : v' = v := Option.some.inj (ev.symm.trans hv)
      rw [ey, e2] at pv
      exact q v G H (Le.refl _) w pv
instance : Ord1 (Int × Int) where
  alike xs := by
    constructor
    · intro x hx y hy
      obtain ⟨a, _, rfl⟩ := List.mem_map.mp hx
      obtain ⟨b, _, rfl⟩ := List.mem_map.mp hy
      simp [Dat.d, PySem.W.alike, PySem.W.alikeAll]
    · intro x hx e
      obtain ⟨a, _, rfl⟩ := List.mem_map.mp hx
      cases e
/-! repr of data -/
def shown {α : Type} [t : Dat α] (x : α) : Option Str := if (t.d x).showable = true ∧ (t.d x).shown.length ≤ sizeLine then some (t.d x).shown else none
theorem CaX.repr {α : Type} [t : Dat α] {x : α} {y : Str} (h : shown x = some y) (hd : t.deep ≤ 40) : CaX (RC.rReprD K) ω ω [is K x] (is K y) := fun G H vs Q w p q => by
  obtain ⟨v, rfl, e⟩ := PArgs.one p
  unfold shown at h
  split at h
  · rename_i c
    cases h
    exact ⟨v, t.d x, rfl, t.dp w e, c.1, t.lay x, Nat.le_trans (t.dep x) hd, c.2, q _ G H (Le.refl _) w rfl⟩
  · cases h
end
end Lf
namespace Lf
open PySem PySem.Spec PyProof.Rows L2
open PySem.W (Frag)
section
variable {K : Frag} {W : WX} {ωe : List Ent} {X : Type} {Γ : Gm} {ω ω1 : List Ent} {Z : ZF K W ωe X} {t u : TS} {tt : TT}
/-- a block that raises or is never reached -/
def zE (K : Frag) (W : WX) (ωe : List Ent) (X : Type) : ZF K W ωe X where
  z m D G := m ≠ .bad ∧ (∀ r, m ≠ .ok r) ∧ ∀ x, m = .err x → PostE K W ωe G x
  mono s h := ⟨h.1, h.2.1, fun x e => (h.2.2 x e).mono s⟩
  nobad h := h.1 rfl
  err h := h.2.2 _ rfl
theorem Go.ifX {c : Bool} {m1 m2 : Res X} (h : EvT tt Γ ω ω1 c) (h1 : c = true → Go t Γ ω1 (zE K W ωe X) m1) (hn : ∀ r, m1 ≠ .ok r) (h2 : c = false → Go u Γ ω1 Z m2) : Go (tSeq (tIfS tt t tNext) u) Γ ω Z (if c then m1 else m2) := fun σ G H D rp w z => h σ G H _ rp w fun G2 H2 s w2 => by
  have z2 := Z.mono s z
  cases c with
  | true =>
    have z3 : Z.z m1 D G2 := z2
    exact RC.if_t rfl (h1 rfl σ G2 H2 _ (rp.mono s) w2 ⟨fun e => Z.nobad (by rw [e] at z3; exact z3), hn, fun x e => Z.err (by rw [e] at z3; exact z3)⟩)
  | false => exact RC.if_f rfl (h2 rfl σ G2 H2 D (rp.mono s) w2 z2)
end
end Lf
namespace Lf
open PySem PySem.Spec PyProof.Rows L2
open PySem.W (Frag)
section
variable {K : Frag} {Γ : Gm} {ω ω1 ω2 ω3 : List Ent} {ta tb tc : TE} {α κ : Type} [Rp α] [KpV κ] [DecidableEq κ] {d : Dic κ α} {q : κ} {x z : α} {p : Addr} {k : Nat}
theorem EvX.dget (h : EvX ta Γ ω ω1 (is K d)) (hk : EvX tb Γ ω1 ω2 (is K q)) (e : d.get? q = some x) : EvX (tDGet ta tb) Γ ω ω2 (is K x) := EvX.dget' h hk DicAt.of e
theorem EvX.dgetO (h : EvX ta Γ ω ω1 (adr p)) (hk : EvX tb Γ ω1 ω2 (is K q)) (ho : ω2[k]? = some (Ent.own p (odic K d))) (e : d.get? q = some x) : EvX (tDGet ta tb) Γ ω ω2 (is K x) := EvX.dget' h hk (DicAt.own ho) e
theorem EvX.dget2 (h : EvX ta Γ ω ω1 (is K d)) (hk : EvX tb Γ ω1 ω2 (is K q)) (hz : EvX tc Γ ω2 ω3 (is K z)) : EvX (tDGet2 ta tb tc) Γ ω ω3 (is K ((d.get? q).getD z)) := EvX.dget2' h hk hz DicAt.of DicAt.of
theorem EvX.dget2O (h : EvX ta Γ ω ω1 (adr p)) (hk : EvX tb Γ ω1 ω2 (is K q)) (hz : EvX tc Γ ω2 ω3 (is K z)) (ho1 : ω1[k]? = some (Ent.own p (odic K d))) (ho : ω3[k]? = some (Ent.own p (odic K d))) : EvX (tDGet2 ta tb tc) Γ ω ω3 (is K ((d.get? q).getD z)) := EvX.dget2' h hk hz (DicAt.own ho1) (DicAt.own ho)
theorem EvX.din (hk : EvX tb Γ ω ω1 (is K q)) (h : EvX ta Γ ω1 ω2 (is K d)) : EvX (tDIn tb ta) Γ ω ω2 (is K (d.has q)) := EvX.din' hk h DicAt.of
theorem EvX.dni (hk : EvX tb Γ ω ω1 (is K q)) (h : EvX ta Γ ω1 ω2 (is K d)) : EvX (tDNotIn tb ta) Γ ω ω2 (is K (!d.has q)) := EvX.dni' hk h DicAt.of
theorem EvX.dinO (hk : EvX tb Γ ω ω1 (is K q)) (h : EvX ta Γ ω1 ω2 (adr p)) (ho : ω2[k]? = some (Ent.own p (odic K d))) : EvX (tDIn tb ta) Γ ω ω2 (is K (d.has q)) := EvX.din' hk h (DicAt.own ho)
theorem EvX.dniO (hk : EvX tb Γ ω ω1 (is K q)) (h : EvX ta Γ ω1 ω2 (adr p)) (ho : ω2[k]? = some (Ent.own p (odic K d))) : EvX (tDNotIn tb ta) Γ ω ω2 (is K (!d.has q)) := EvX.dni' hk h (DicAt.own ho)
end
section
variable {K : Frag} {Γ : Gm} {ω ω1 ω2 : List Ent} {ta tb : TE} {α κ : Type} [NN α] [KpV κ] [DecidableEq κ] {d : Dic κ α} {q : κ} {p : Addr} {k : Nat}
theorem EvX.dgetN (h : EvX ta Γ ω ω1 (is K d)) (hk : EvX tb Γ ω1 ω2 (is K q)) : EvX (tDGet2 ta tb (tC .non)) Γ ω ω2 (is K (d.get? q)) := EvX.dgetN' h hk DicAt.of DicAt.of
theorem EvX.dgetNO (h : EvX ta Γ ω ω1 (adr p)) (hk : EvX tb Γ ω1 ω2 (is K q)) (ho1 : ω1[k]? = some (Ent.own p (odic K d))) (ho : ω2[k]? = some (Ent.own p (odic K d))) : EvX (tDGet2 ta tb (tC .non)) Γ ω ω2 (is K (d.get? q)) := EvX.dgetN' h hk (DicAt.own ho1) (DicAt.own ho)
end
end Lf
/-! ## set(xs) of a list of ints; sorted of a set of ints, however many -/
namespace SetL
open PySem PySem.Spec PyProof.Rows L2
/-- the set as it is first laid -/
def bare (w : World) : Obj := { cls := .type "set", dict := none, data := .set #[] 0 (.fresh 0 0 (!w.params.followText "set-order")) }
section
variable {P : Program} {w : World} {A : Around} {E : Value → Shared → Prop} {s : Shared}
theorem bare_set {h : Heap} (e : h.get? h.objs.size = none) : (h.push (bare w)).get? h.objs.size = some (bare w) := Heap.get?_push_size _ rfl
theorem bare_is {h : Heap} {a : Addr} {ns : List Int} (e : h.get? a = some (bare w)) : SetR w h a (fun j => decide (j ∈ ns.take 0)) 0 := setR_new_at e
/-- old objects are not among the two new ones -/
theorem old_ne {h : Heap} {b : Addr} {o u : Obj} (e : h.get? b = some o) : b ∉ [h.objs.size, (h.push u).objs.size] := by
  have lt := Heap.lt_size e
  rw [Heap.size_push]
  intro m
  rcases List.mem_cons.mp m with z | m
  · exact Nat.ne_of_lt lt z
  · exact Nat.ne_of_lt (Nat.lt_succ_of_lt lt) (List.mem_singleton.mp m)
set_option maxRecDepth 100000 in
set_option maxHeartbeats 3200000 in
/-- what set(l) leaves: the members are those of the list -/
theorem made {l : Addr} {xs : Array Value} {ns : List Int} {Q : Value → Shared → Prop} (calm : A.handled = none) (hl : s.heap.IsList l xs) (hi : IntsAre xs.toList ns) (few : ns.length + 1 < scanBound)
    (q : ∀ (g : Heap) (tk c : Nat), SetR w g s.heap.objs.size (fun j => decide (j ∈ ns)) c → c ≤ ns.length → (∀ b o, s.heap.get? b = some o → g.get? b = some o) → Q (.ref s.heap.objs.size) { s with heap := g, toks := tk }) :
    wpAny (model P w) A (call (.type "set") [.ref l]) Q E s := by
  have size : xs.size = ns.length := by simpa using IntsAre.length hi
  obtain ⟨_, _, m1⟩ := F.called_set.mro
  have m2 := F.called_set.made
  have m3 := F.called_set.sub
  have m4 := F.called_set.notType
  have m5 := F.called_set.canCreate
  have m6 := F.typeCall_set_1 (.ref l)
  have m7 := F.called_set.init.lookup
  refine wpAny_call (codeAny_of_tree ?_)
  show wpAny (model P w) _ (callAny (.type "set") ⟨[.ref l], []⟩) _ _ s
  refine wpAny_pure ⟨Code.quiet_builtin _ (by decide +kernel), codeAny_builtin F.entry_type_call ?_⟩
  rw [Around.under_plain (weight_type_call_type "set" [.ref l] []) rfl]
  repeat any_goals first | wp_step | assumption
  refine codeAny_mono (code_set_led1 (.ref l) (E := E) (Q₁ := fun v t => v = .ref s.heap.objs.size ∧ t = { s with heap := s.heap.push (bare w) }) ⟨rfl, rfl⟩) fun r t hr => ?_
  match r, hr with
  | .error _, hr => exact hr
  | .ok (.ret _), ⟨e1, e2⟩ =>
    subst e1 e2
    have at0 : (s.heap.push (bare w)).get? s.heap.objs.size = some (bare w) := Heap.get?_push_size _ rfl
    have ty0 : Shared.TypeIs { s with heap := s.heap.push (bare w) } (.ref s.heap.objs.size) "set" := ⟨_, at0, rfl⟩
    have m8 := F.called_set.init.bind (.ref s.heap.objs.size)
    repeat any_goals first | wp_step | assumption
    refine codeAny_mono (codeAny_call_builtin (R := wants (fun v t => v = .none ∧ ∃ g tk c, t = { s with heap := g, toks := tk } ∧ SetR w g s.heap.objs.size (fun j => decide (j ∈ ns)) c ∧ c ≤ ns.length ∧ ∀ b o, s.heap.get? b = some o → g.get? b = some o) E) F.called_set.init.plain F.entry_set_init (check_set_init_1 ty0 ?_)) fun r t hr => ?_
    · obtain ⟨⟨cls0, dict0, dat0, sl0⟩, at1, c1, n1, d1⟩ := hl
      dsimp only at c1 d1
      subst c1 d1
      have at2 : (s.heap.push (bare w)).get? l = some { cls := .type "list", dict := dict0, data := .seq xs n1, slots := sl0 } := Heap.get?_push_of_some _ at1
      have is2 : (s.heap.push (bare w)).IsList l xs := ⟨_, at2, rfl, n1, rfl⟩
      have s1 := F.sub_list_set
      have s2 := F.sub_list_frozenset
      have s3 : ((Value.type "list") == (Value.type "dict")) = false := by decide
      have apart := old_ne (u := bare w) at1
      unfold Builtin.«set.__init__» noKeywords Builtin.Frozenset.updateFrom
      generalize pi : pyIter = it
      wp_walk
      subst pi
      refine wpAny_pyIter_list is2 (wpAny_bind (wpAny_runValue ?_))
      have ne1 : l ≠ (s.heap.push (bare w)).objs.size := fun z => apart (by rw [z]; simp)
      have ne0 : s.heap.objs.size ∉ [(s.heap.push (bare w)).objs.size, l] := fun z => by
        rcases List.mem_cons.mp z with z | z
        · rw [Heap.size_push] at z
          exact absurd z (Nat.ne_of_lt (Nat.lt_succ_self _))
        · exact apart (by rw [← List.mem_singleton.mp z]; simp)
      have each : ∀ (i : Nat) (v : Value), xs[i]? = some v → ∃ k t, ns[i]? = some k ∧ v = .int k t := fun i v hv => by
        have li : i < ns.length := size ▸ (Array.getElem?_eq_some_iff.mp hv).1
        obtain ⟨t, e⟩ := IntsAre.int_at hi i v (by rw [Array.getElem?_toList]; exact hv)
        exact ⟨ns[i], t, List.getElem?_eq_getElem li, by rw [e, List.getD_eq_getElem?_getD, List.getElem?_eq_getElem li]; rfl⟩
      have calm3 : A.in1.in1.in1.handled = none := by simp [calm]
      refine set_update_ints ((Walks.list calm3 _ l ne1 xs).toS) s.heap.objs.size ne0 ns size few each xs.size 0 _ (Nat.sub_zero _) (Nat.zero_le _) ⟨⟨_, Heap.get?_push_size _ rfl, rfl, rfl⟩, is2.push _⟩ ⟨0, Nat.le_refl 0, bare_is (Heap.get?_push_of_some _ at0)⟩ fun t c mv hc hs => ?_
      obtain ⟨g, gs, dr, tk, os⟩ := t
      obtain rfl : gs = s.gens := mv.gens
      obtain rfl : dr = s.drawn := mv.drawn
      obtain rfl : os = s.os := mv.os
      refine wpAny_pure (wpAny_pure ⟨rfl, g, tk, c, rfl, hs, size ▸ hc, fun b o e => mv.heap b o (old_ne e) (Heap.get?_push_of_some _ (Heap.get?_push_of_some _ e))⟩)
    · match r, hr with
      | .error _, hr => exact hr
      | .ok (.ret _), ⟨e1, g, tk, c, e2, hs, hc, old⟩ =>
        subst e1 e2
        repeat any_goals first | wp_step | assumption
        exact q g tk c hs hc old
/-- sorted(x) of a set of ints -/
theorem inOrder {a : Addr} {S : Int → Bool} {n : Nat} {Q : Value → Shared → Prop} (R : SetR w s.heap a S n) (calm : A.handled = none)
    (q : ∀ (t : Shared) (b : Addr) (out : Array Value) (c : Nat) (ns : List Int), (∀ x o, s.heap.get? x = some o → t.heap.get? x = some o) ∧ t.gens = s.gens ∧ t.os = s.os ∧ s.heap.objs.size ≤ b → t.heap.get? b = some (seqObj "list" out c) → IntsAre out.toList ns →
      ns.Pairwise (· < ·) ∧ (∀ k, k ∈ ns ↔ S k = true) ∧ ns.length = n → Q (.ref b) t) :
    wpAny (model P w) A (call (.builtin "sorted") [.ref a]) Q E s := by
  obtain ⟨o, es, ep, tb, r1, r2, r3, good, once, mem, few, fits, len, ris, led⟩ := R
  apply Calls.call_function_entry kind_sorted plain_sorted entry_sorted (args_sorted1 _)
  unfold Builtin.«sorted»
  apply wpAny_bind (m := checkCount "sorted" 1 1 _)
  apply wpAny_pure
  apply wpAny_bind
  refine collect_set (A := A.in1) calm ⟨o, r1, r2.1, r3⟩ fits few ris led fun t us old more g1 g2 perm => ?_
  have lu : us.length = n := by
    rw [perm.length_eq, List.length_map, Array.length_toList, len]
  have small : us.length ≤ sizeLine := by
    have : n < scanBound := len ▸ few
    unfold scanBound at this
    rw [lu, sizeLine_eq]
    omega
  have whole : IntsAre us (us.map SrtO.iv) := SrtO.ints_iv fun v hv => by
    obtain ⟨x, hx, e⟩ := List.mem_map.mp (perm.mem_iff.mp hv)
    obtain ⟨k, tk, e2, _⟩ := good x hx
    exact ⟨k, tk, by rw [← e, e2]⟩
  have keys : (us.map SrtO.iv).Perm (es.toList.map keyOf) := by
    have z := perm.map SrtO.iv
    rw [List.map_map] at z
    refine z.trans (List.Perm.of_eq (List.map_congr_left fun x hx => ?_))
    obtain ⟨k, tk, e2, _⟩ := good x hx
    show SrtO.iv x.2 = keyOf x
    unfold keyOf
    rw [e2]
    rfl
  apply wpAny_bind
  refine wpAny_newList ?_ small
  have at0 : (t.heap.push (seqObj "list" us.toArray 0)).get? t.heap.objs.size = some (seqObj "list" us.toArray 0) := Heap.get?_push_size _ rfl
  apply wpAny_bind
  apply wpAny_holding
  refine wpAny_call_entry slot_list_sort ⟨_, at0, rfl⟩ entry_list_sort (SrtO.list_sort_ord SrtO.swo_int at0 small (fun h2 => SrtO.ints_sortable whole h2) fun out h1 h2 => ?_) (args_list_sort _)
  obtain ⟨k1, k2, k3⟩ := SrtO.ints_out whole h1 h2
  obtain ⟨c, hc⟩ := sortedHeap_at (vs := us) (out := out.toArray) at0
  have pn := k2.trans keys
  refine ⟨_, rfl, wpAny_pure ⟨_, rfl, q _ t.heap.objs.size out.toArray c (out.map SrtO.iv) ⟨fun x u e => ?_, g1, g2, more⟩ hc k1 ⟨?_, fun k => by rw [pn.mem_iff, ← mem k], by rw [pn.length_eq, List.length_map, Array.length_toList, len]⟩⟩⟩
  · have e1 := old x u e
    have lt := Heap.lt_size e1
    show (sortedHeap (t.heap.push (seqObj "list" us.toArray 0)) t.heap.objs.size us out.toArray).get? x = some u
    rw [sortedHeap_old (Nat.ne_of_lt lt) (by rw [size_push']; exact Nat.lt_succ_of_lt lt)]
    exact Heap.get?_push_of_some _ e1
  · exact lt_of_le_nodup _ k3 (pn.nodup_iff.mpr once)
end
end SetL
/-! ## Readings told by plain data: sets of ints, lists in order -/
namespace Lf
open PySem PySem.Spec PyProof.Rows L2
open PySem.W (Frag)
section
variable {X : Cx}
def rSetL (K : Frag) (w : World) : List V → Hp → VK → Prop := fun vs H Q => ∃ (a : Addr) (ns : List Int), vs = [.ref a] ∧ SqL K H a (ns.map V.int) ∧ ns.length + 1 < scanBound ∧ ∀ (p : Addr) (c : Nat), H p = none → Q (.ref p) (upd H p (SetO w p (fun j => decide (j ∈ ns)) c))
theorem cr_setL (hc : X.calm = true) : CallR X (.type "set") (rSetL X.K X.w) := by
  intro pins s σ H xs us Q I r h
  obtain ⟨a, ns, rfl, hs, few, q⟩ := h
  obtain ⟨its, rv, hl, _⟩ := I.list hs
  rw [Vals.ref1 r]
  refine SetL.made (I.ok.hd hc) hl.isList (by simpa using rv.ints) few fun g tk c R _ old => ?_
  exact ⟨.ref _, upd H s.heap.objs.size (SetO X.w s.heap.objs.size (fun j => decide (j ∈ ns)) c), I.laid (t' := tk) old (Nat.le_refl _) (setO_new R), rfl, q _ c (I.hok.fresh (Nat.le_refl _))⟩
def rSortS (w : World) : List V → Hp → VK → Prop := fun vs H Q => ∃ (a : Addr) (S : Int → Bool) (n : Nat), vs = [V.ref a] ∧ H a = some (SetO w a S n) ∧
  ∀ (ns : List Int) (p : Addr), ns.Pairwise (· < ·) → (∀ k : Int, k ∈ ns ↔ S k = true) → ns.length ≤ sizeLine → H p = none → Q (.ref p) (upd H p (.lst (ns.map V.int)))
theorem cr_sortS (hc : X.calm = true) : CallR X (.builtin "sorted") (rSortS X.w) := by
  intro pins s σ H vs us Q I r h
  obtain ⟨a, S, n, rfl, ha, q⟩ := h
  have R := setO_get I ha
  have few : n < scanBound := by
    obtain ⟨_, es, _, _, _, _, _, _, _, _, few, _, len, _⟩ := R
    exact len ▸ few
  rw [Vals.ref1 r]
  refine SetL.inOrder R (I.ok.hd hc) fun t b out c ns old at_ isI facts => ?_
  obtain ⟨k, g, o, new⟩ := old
  obtain ⟨inc, mem, len⟩ := facts
  have small : ns.length ≤ sizeLine := by
    unfold scanBound at few
    rw [len, sizeLine_eq]
    omega
  have free : H b = none := I.hok.fresh new
  have J : Inv X pins σ (upd H b (.lst (ns.map V.int))) { s with heap := t.heap, gens := t.gens, drawn := t.drawn, toks := t.toks } :=
    I.call (ch := []) (Un.laid k new free) (I.hok.laid k new ⟨by rw [List.length_map]; exact small, out.toList, c, vals_of_ints isI, at_⟩) (by rw [g]; exact I.bare) (fun _ z => nomatch z)
  obtain ⟨_, _, _, _, _⟩ := t
  subst o
  exact ⟨.ref b, _, J, rfl, q ns b inc mem small free⟩
end
/-- a set of ints, told by a list of its members -/
structure ISet (w : World) where
  l : List Int
instance {w : World} : Rp (ISet w) := ⟨fun _ G v x => ∃ p S n, v = .ref p ∧ G p = some (SetO w p S n) ∧ ∀ k : Int, S k = true ↔ k ∈ x.l, fun s ⟨p, S, n, e, h, m⟩ => ⟨p, S, n, e, s.at h, m⟩⟩
def mkSet (w : World) (xs : List Int) : Option (ISet w) := if xs.length < 4000 then some ⟨xs⟩ else none
/-- the members in order, each once -/
def insU (x : Int) : List Int → List Int
  | [] => [x]
  | y :: ys => if x < y then x :: y :: ys else if x = y then y :: ys else y :: insU x ys
def sortU (l : List Int) : List Int := l.foldr insU []
theorem insU_mem (x k : Int) : ∀ l : List Int, k ∈ insU x l ↔ k = x ∨ k ∈ l
  | [] => by simp [insU]
  | y :: ys => by
    unfold insU
    split
    · simp
    · split
      · rename_i e
        subst e
        simp
      · rw [List.mem_cons, insU_mem x k ys, List.mem_cons]
        constructor
        · rintro (h | h | h) <;> simp [h]
        · rintro (h | h | h) <;> simp [h]
theorem insU_inc (x : Int) : ∀ {l : List Int}, l.Pairwise (· < ·) → (insU x l).Pairwise (· < ·)
  | [], _ => by simp [insU]
  | y :: ys, h => by
    obtain ⟨h1, h2⟩ := List.pairwise_cons.mp h
    unfold insU
    split
    · rename_i c
      refine List.pairwise_cons.mpr ⟨fun z hz => ?_, h⟩
      rcases List.mem_cons.mp hz with e | e
      · subst e
        exact c
      · have := h1 z e
        omega
    · split
      · exact h
      · refine List.pairwise_cons.mpr ⟨fun z hz => ?_, insU_inc x h2⟩
        rcases (insU_mem x z ys).mp hz with e | e
        · subst e
          omega
        · exact h1 z e
theorem sortU_inc : ∀ l : List Int, (sortU l).Pairwise (· < ·)
  | [] => .nil
  | x :: l => insU_inc x (sortU_inc l)
theorem sortU_mem (k : Int) : ∀ l : List Int, k ∈ sortU l ↔ k ∈ l
  | [] => by simp [sortU]
  | x :: l => by
    show k ∈ insU x (sortU l) ↔ _
    rw [insU_mem, sortU_mem k l, List.mem_cons]
theorem inc_eq : ∀ {xs ys : List Int}, xs.Pairwise (· < ·) → ys.Pairwise (· < ·) → (∀ k, k ∈ xs ↔ k ∈ ys) → xs = ys
  | [], [], _, _, _ => rfl
  | [], y :: ys, _, _, h => by
    have := (h y).mpr List.mem_cons_self
    cases this
  | x :: xs, [], _, _, h => by
    have := (h x).mp List.mem_cons_self
    cases this
  | x :: xs, y :: ys, h1, h2, h => by
    obtain ⟨a1, a2⟩ := List.pairwise_cons.mp h1
    obtain ⟨b1, b2⟩ := List.pairwise_cons.mp h2
    have e : x = y := by
      rcases List.mem_cons.mp ((h x).mp List.mem_cons_self) with e | e
      · exact e
      · rcases List.mem_cons.mp ((h y).mpr List.mem_cons_self) with e' | e'
        · exact e'.symm
        · have := b1 x e
          have := a1 y e'
          omega
    subst e
    rw [inc_eq a2 b2 fun k => ?_]
    constructor
    · intro hk
      rcases List.mem_cons.mp ((h k).mp (List.mem_cons_of_mem _ hk)) with e | e
      · subst e
        exact absurd (a1 _ hk) (by omega)
      · exact e
    · intro hk
      rcases List.mem_cons.mp ((h k).mpr (List.mem_cons_of_mem _ hk)) with e | e
      · subst e
        exact absurd (b1 _ hk) (by omega)
      · exact e
theorem le_eq : ∀ {xs ys : List Int}, xs.Pairwise (· ≤ ·) → ys.Pairwise (· ≤ ·) → xs.Perm ys → xs = ys := fun h1 h2 p => List.Perm.eq_of_pairwise (fun a b _ _ x y => by omega) h1 h2 p
/-- in order -/
def insI (x : Int) : List Int → List Int
  | [] => [x]
  | y :: ys => if x ≤ y then x :: y :: ys else y :: insI x ys
def sortI (l : List Int) : List Int := l.foldr insI []
theorem insI_perm (x : Int) : ∀ l : List Int, (insI x l).Perm (x :: l)
  | [] => .refl _
  | y :: ys => by
    unfold insI
    split
    · exact .refl _
    · exact ((insI_perm x ys).cons y).trans (.swap x y ys)
theorem insI_inc (x : Int) : ∀ {l : List Int}, l.Pairwise (· ≤ ·) → (insI x l).Pairwise (· ≤ ·)
  | [], _ => by simp [insI]
  | y :: ys, h => by
    obtain ⟨h1, h2⟩ := List.pairwise_cons.mp h
    unfold insI
    split
    · rename_i c
      refine List.pairwise_cons.mpr ⟨fun z hz => ?_, h⟩
      rcases List.mem_cons.mp hz with e | e
      · subst e
        exact c
      · have := h1 z e
        omega
    · refine List.pairwise_cons.mpr ⟨fun z hz => ?_, insI_inc x h2⟩
      rcases List.mem_cons.mp ((insI_perm x ys).mem_iff.mp hz) with e | e
      · subst e
        omega
      · exact h1 z e
theorem sortI_perm : ∀ l : List Int, (sortI l).Perm l
  | [] => .refl _
  | x :: l => (insI_perm x _).trans ((sortI_perm l).cons x)
theorem sortI_inc : ∀ l : List Int, (sortI l).Pairwise (· ≤ ·)
  | [] => .nil
  | x :: l => insI_inc x (sortI_inc l)
section
variable {K : Frag} {w : World} {ω : List Ent}
theorem all_ints {G : Hp} (ns : List Int) : All K G (ns.map V.int) ns := by
  induction ns with
  | nil => exact .nil
  | cons x ns ih => exact .cons rfl ih
theorem CaX.setL {xs : List Int} {s : ISet w} (h : mkSet w xs = some s) : CaX (rSetL K w) ω ω [is K xs] (is K s) := fun G H vs Q wA pa q => by
  obtain ⟨v, rfl, a, us, rfl, e, ha, l⟩ := PArgs.one pa
  unfold mkSet at h
  split at h
  · rename_i c
    cases h
    refine ⟨a, xs, rfl, by rw [← ints_of ha]; exact RC.sq_of (wA.lst e), by unfold scanBound; omega, fun p c hp => ?_⟩
    obtain ⟨w2, s2⟩ := wA.new (o := SetO w p (fun j => decide (j ∈ xs)) c) hp
    exact q _ _ _ s2 w2 ⟨p, _, c, rfl, upd_same, fun k => by simp⟩
  · cases h
theorem CaF.sortS {s : ISet w} : CaF (rSortS w) ω ω [is K s] (olst K (sortU s.l)) := fun G H vs Q wA pa q => by
  obtain ⟨v, rfl, p, S, n, rfl, e, m⟩ := PArgs.one pa
  refine ⟨p, S, n, rfl, wA.get e, fun ns b inc mem small free => ?_⟩
  have en : ns = sortU s.l := inc_eq inc (sortU_inc _) fun k => by rw [mem k, m k, sortU_mem]
  rw [en] at small ⊢
  exact q b G _ (Le.refl _) (newL wA free (all_ints _) small)
theorem CaF.sortI {xs : List Int} : CaF (rSortedI K) ω ω [is K xs] (olst K (Lf.sortI xs)) := fun G H vs Q wA pa q => by
  obtain ⟨v, rfl, a, us, rfl, e, ha, l⟩ := PArgs.one pa
  refine ⟨a, xs, rfl, by rw [← ints_of ha]; exact RC.sq_of (wA.lst e), fun ns b perm inc free => ?_⟩
  have en : ns = Lf.sortI xs := le_eq inc (sortI_inc _) (perm.trans (sortI_perm xs).symm)
  rw [en]
  exact q b G _ (Le.refl _) (newL wA free (all_ints _) (by rw [(sortI_perm xs).length_eq]; exact l))
end
end Lf
namespace Lf
open PySem PySem.Spec PyProof.Rows L2
open PySem.W (Frag)
def setOk (xs : List Int) : Option (List Int) := if xs.length < 4000 then some (sortU xs) else none
theorem EvF.sortedSet {K : Frag} {w : World} {Γ : Gm} {ω ω1 : List Ent} {tA : TA} {xs ys : List Int} (h : EvA tA Γ ω ω1 [is K xs]) (e : setOk xs = some ys) : EvF (tCB (rSortS w) (tCons (tCB (rSetL K w) tA) tNil)) Γ ω ω1 (olst K ys) := by
  unfold setOk at e
  split at e
  · rename_i c
    cases e
    exact EvF.ca (EvA.cons (EvX.ca h (CaX.setL (w := w) (s := ⟨xs⟩) (by unfold mkSet; rw [if_pos c]))) EvA.nil) CaF.sortS
  · cases e
end Lf
namespace Lf
open PySem PySem.Spec PyProof.Rows L2
open PySem.W (Frag)
section
variable {K : Frag} {ω : List Ent} {a b : MP} {α : Type} [t : Dat α]
/-- data that stand still or are one's own -/
def DtAt (K : Frag) (ω : List Ent) (a : MP) (x : α) : Prop := ∀ (G H : Hp) (v : V), At G ω H → a.p G v → Dp K H v (t.d x)
theorem DtAt.of {x : α} : DtAt K ω (is K x) x := fun G H v w p => t.dp w p
theorem DtAt.own {xs : List α} {k : Nat} {p : Addr} (ho : ω[k]? = some (Ent.own p (olst K xs))) : DtAt K ω (adr p) xs := fun G H v w e => by
  obtain ⟨o, eo, us, rfl, hu, _⟩ := w.ownAt ho
  cases e
  exact .lst (RC.sq_of eo) (dpa w hu)
theorem OpX.eqA [DecidableEq α] {x y : α} (ha : DtAt K ω a x) (hb : DtAt K ω b y) (h : t.deep ≤ 64) : OpX (rEqD K) ω ω a b (is K (decide (x = y))) := fun G H u v Q w p1 p2 q => by
  refine ⟨t.d x, t.d y, ha G H u w p1, hb G H v w p2, Dat.shaped h x, Dat.shaped h y, q _ G H (Le.refl _) w ?_⟩
  show V.bl _ = V.bl _
  rw [t.eqv]
  congr
theorem OpX.neA [DecidableEq α] {x y : α} (ha : DtAt K ω a x) (hb : DtAt K ω b y) (h : t.deep ≤ 64) : OpX (rNeD K) ω ω a b (is K (!decide (x = y))) := fun G H u v Q w p1 p2 q => by
  refine ⟨t.d x, t.d y, ha G H u w p1, hb G H v w p2, Dat.shaped h x, Dat.shaped h y, q _ G H (Le.refl _) w ?_⟩
  show V.bl _ = V.bl _
  rw [t.eqv]
  congr
end
/-! repr of what may be None, too -/
class Shw (α : Type) extends Rp α where
  d : α → PyData
  dp : ∀ {K : Frag} {G H : Hp} {ω : List Ent} {v : V} {x : α}, At G ω H → Rp.rep K G v x → Dp K H v (d x)
  lay : ∀ x : α, (d x).canLay0 = true
  deep : Nat
  dep : ∀ x : α, (d x).depth ≤ deep
instance {α : Type} [t : Dat α] : Shw α := { d := t.d, dp := t.dp, lay := t.lay, deep := t.deep, dep := t.dep }
instance : Shw Bool where
  d := .bool
  dp _ h := by
    cases h
    exact .bl _
  lay _ := by simp [PyData.canLay0]
  deep := 0
  dep _ := by simp [PyData.depth]
instance {α : Type} [t : Shw α] : Shw (Option α) where
  d x := match x with
    | none => .none
    | some x => t.d x
  dp {K G H ω v x} w h := match x, h with
    | none, h => by
      cases h
      exact .non
    | some x, h => t.dp w h.1
  lay x := match x with
    | none => by simp [PyData.canLay0]
    | some x => t.lay x
  deep := t.deep
  dep x := match x with
    | none => by simp [PyData.depth]
    | some x => t.dep x
section
variable {K : Frag} {ω : List Ent} {a b : MP}
def ShAt {α : Type} [t : Shw α] (K : Frag) (ω : List Ent) (a : MP) (x : α) : Prop := ∀ (G H : Hp) (v : V), At G ω H → a.p G v → Dp K H v (t.d x)
theorem ShAt.of {α : Type} [t : Shw α] {x : α} : ShAt K ω (is K x) x := fun G H v w p => t.dp w p
theorem ShAt.own {α : Type} [t : Dat α] {xs : List α} {k : Nat} {p : Addr} (ho : ω[k]? = some (Ent.own p (olst K xs))) : ShAt K ω (adr p) xs := DtAt.own ho
def told {α : Type} [t : Shw α] (x : α) : Option Str := if (t.d x).showable = true ∧ (t.d x).shown.length ≤ sizeLine then some (t.d x).shown else none
theorem CaX.told {α : Type} [t : Shw α] {x : α} {y : Str} (ha : ShAt K ω a x) (h : told x = some y) (hd : t.deep ≤ 40) : CaX (RC.rReprD K) ω ω [a] (is K y) := fun G H vs Q w p q => by
  obtain ⟨v, rfl, e⟩ := PArgs.one p
  unfold Lf.told at h
  split at h
  · rename_i c
    cases h
    exact ⟨v, t.d x, rfl, ha G H v w e, c.1, t.lay x, Nat.le_trans (t.dep x) hd, c.2, q _ G H (Le.refl _) w rfl⟩
  · cases h
end
end Lf
/-! ## set(xs) of a long list of few ints -/
namespace SetM
open PySem PySem.Spec PyProof.Rows L2 SetL
/-- members enough are never met -/
def Few (ns : List Int) : Prop := ∀ as : List Int, as.Nodup → (∀ x ∈ as, x ∈ ns) → as.length + 1 < scanBound
theorem nodup_le : ∀ {as bs : List Int}, as.Nodup → (∀ x ∈ as, x ∈ bs) → as.length ≤ bs.length
  | [], _, _, _ => Nat.zero_le _
  | x :: as, bs, u, h => by
    obtain ⟨u1, u2⟩ := List.nodup_cons.mp u
    have m := h x List.mem_cons_self
    have le := nodup_le (as := as) (bs := bs.erase x) u2 fun y hy => (List.mem_erase_of_ne (fun e => u1 (by rw [← e]; exact hy))).mpr (h y (List.mem_cons_of_mem _ hy))
    have l := List.length_erase_of_mem m
    have := List.length_pos_of_mem m
    rw [List.length_cons]
    omega
section
variable {P : Program} {w : World} {A : Around} {E : Value → Shared → Prop} {s : Shared}
/-- the members so far, one more item: kept as a list without repeats -/
theorem grown {ns as : List Int} {i : Nat} {z : Int} (hz : ns[i]? = some z) (nd : as.Nodup) (mem : ∀ x, x ∈ as ↔ x ∈ ns.take i) : ∃ bs : List Int, bs.Nodup ∧ (∀ x, x ∈ bs ↔ x ∈ ns.take (i + 1)) ∧ bs.length = (if decide (z ∈ ns.take i) = true then as.length else as.length + 1) := by
  have tk : ∀ x, x ∈ ns.take (i + 1) ↔ x ∈ ns.take i ∨ x = z := fun x => by
    rw [List.take_add_one, hz]
    simp
  by_cases c : z ∈ ns.take i
  · refine ⟨as, nd, fun x => ?_, by rw [if_pos (decide_eq_true c)]⟩
    rw [tk, mem]
    exact ⟨.inl, fun h => h.elim id fun e => e ▸ c⟩
  · refine ⟨z :: as, List.nodup_cons.mpr ⟨fun h => c ((mem z).mp h), nd⟩, fun x => ?_, by rw [if_neg (by rw [decide_eq_false c]; decide)]; rfl⟩
    rw [tk, List.mem_cons, mem]
    exact Or.comm
/-- the update from the i-th item on -/
theorem onward {it S : Addr} {fp wr : List Addr} {gr : Array GenState → Array GenState → Prop} {n : Nat} {item : Nat → Value → Prop} {st : Nat → Shared → Prop} {R : Result → Shared → Prop}
    (walk : WalksS P w A.in1 it fp wr gr n item st) (apart : S ∉ fp) {ns : List Int} (size : ns.length = n) (few : Few ns) (allI : ∀ i v, item i v → ∃ k t, ns[i]? = some k ∧ v = .int k t) (left : Nat) :
    ∀ (i : Nat) (s : Shared), i + left = n → st i s → (∃ as : List Int, as.Nodup ∧ (∀ x, x ∈ as ↔ x ∈ ns.take i) ∧ SetR w s.heap S (fun j => decide (j ∈ ns.take i)) as.length) →
      (∀ t c, Moved (S :: wr) gr s t → SetR w t.heap S (fun j => decide (j ∈ ns)) c → R (.ok (.ret .none)) t) → codeAny (model P w) A (.builtin "set.update.loop" ⟨[.ref S, .ref it], []⟩) R s := by
  have other : S ∉ wr := fun m => apart (walk.sub _ m)
  have wider : ∀ a ∈ wr, a ∈ S :: wr := fun a m => .tail _ m
  induction left with
  | zero =>
    rintro i s full here ⟨as, nd, mem, set⟩ done
    obtain rfl : i = ns.length := by omega
    rw [List.take_length] at set
    apply codeAny_builtin F.entry_set_update_loop
    rw [Around.under_plainId F.plain_set_update_loop _]
    exact wpAny_bind (m := pyNext (.ref it)) (walk.done s _ _ (size ▸ here) fun t mv => wpAny_pure (done t _ (mv.mono wider) (set.at fun o e => mv.heap S o other e)))
  | succ left more =>
    rintro i s part here ⟨as, nd, mem, set⟩ done
    have more_ : i < n := by omega
    apply codeAny_builtin F.entry_set_update_loop
    rw [Around.under_plainId F.plain_set_update_loop _]
    refine wpAny_bind (m := pyNext (.ref it)) (walk.item i s _ _ more_ here fun v t isItem next mv => ?_)
    obtain ⟨z, tok, hz, rfl⟩ := allI i v isItem
    obtain ⟨bs, nd2, mem2, len2⟩ := grown hz nd mem
    have room := few as nd fun x hx => List.mem_of_mem_take ((mem x).mp hx)
    have set1 := set.at (fun o e => mv.heap S o other e : ∀ o, s.heap.get? S = some o → t.heap.get? S = some o)
    refine wpAny_bind (m := holding [Value.int z tok] (setAdd S (.int z tok))) (wpAny_holding ?_)
    unfold setAdd
    apply wpAny_holding
    apply wpAny_bind
    refine (intKind P w).pyHash (k := z) (intKind_is _ _ _ _) (setR_add_hashed (s := { t with toks := t.toks + 1 }) set1 room fun g same set2 => wpAny_pure ⟨plainId_quiet F.plain_set_update_loop _, ?_⟩)
    have old : ∀ a o, a ≠ S → t.heap.get? a = some o → g.get? a = some o := fun a o ne e => by
      rw [same.2 a ne]
      exact e
    refine more (i + 1) _ (by omega) (walk.frame _ t _ _ next (Nat.le_succ _) fun a m o e => old a o (fun z => apart (z ▸ m)) e) ⟨bs, nd2, mem2, ?_⟩ fun u c mv2 last => ?_
    · rw [len2]
      refine set2.congr fun j => ?_
      rw [← Bool.decide_or]
      refine decide_eq_decide.mpr ?_
      rw [List.take_add_one, hz]
      simp
    · exact done u c (Moved.trans walk.gtrans ((mv.mono wider).then_heap (Nat.le_succ _) fun a o no e => old a o (fun z => no (z ▸ .head _)) e) mv2) last
set_option maxRecDepth 100000 in
set_option maxHeartbeats 3200000 in
/-- what set(l) leaves: the members are those of the list -/
theorem made {l : Addr} {xs : Array Value} {ns : List Int} {Q : Value → Shared → Prop} (calm : A.handled = none) (hl : s.heap.IsList l xs) (hi : IntsAre xs.toList ns) (few : Few ns)
    (q : ∀ (g : Heap) (tk c : Nat), SetR w g s.heap.objs.size (fun j => decide (j ∈ ns)) c → (∀ b o, s.heap.get? b = some o → g.get? b = some o) → Q (.ref s.heap.objs.size) { s with heap := g, toks := tk }) :
    wpAny (model P w) A (call (.type "set") [.ref l]) Q E s := by
  have size : xs.size = ns.length := by simpa using IntsAre.length hi
  obtain ⟨_, _, m1⟩ := F.called_set.mro
  have m2 := F.called_set.made
  have m3 := F.called_set.sub
  have m4 := F.called_set.notType
  have m5 := F.called_set.canCreate
  have m6 := F.typeCall_set_1 (.ref l)
  have m7 := F.called_set.init.lookup
  refine wpAny_call (codeAny_of_tree ?_)
  show wpAny (model P w) _ (callAny (.type "set") ⟨[.ref l], []⟩) _ _ s
  refine wpAny_pure ⟨Code.quiet_builtin _ (by decide +kernel), codeAny_builtin F.entry_type_call ?_⟩
  rw [Around.under_plain (weight_type_call_type "set" [.ref l] []) rfl]
  repeat any_goals first | wp_step | assumption
  refine codeAny_mono (code_set_led1 (.ref l) (E := E) (Q₁ := fun v t => v = .ref s.heap.objs.size ∧ t = { s with heap := s.heap.push (bare w) }) ⟨rfl, rfl⟩) fun r t hr => ?_
  match r, hr with
  | .error _, hr => exact hr
  | .ok (.ret _), ⟨e1, e2⟩ =>
    subst e1 e2
    have at0 : (s.heap.push (bare w)).get? s.heap.objs.size = some (bare w) := Heap.get?_push_size _ rfl
    have ty0 : Shared.TypeIs { s with heap := s.heap.push (bare w) } (.ref s.heap.objs.size) "set" := ⟨_, at0, rfl⟩
    have m8 := F.called_set.init.bind (.ref s.heap.objs.size)
    repeat any_goals first | wp_step | assumption
    refine codeAny_mono (codeAny_call_builtin (R := wants (fun v t => v = .none ∧ ∃ g tk c, t = { s with heap := g, toks := tk } ∧ SetR w g s.heap.objs.size (fun j => decide (j ∈ ns)) c ∧ ∀ b o, s.heap.get? b = some o → g.get? b = some o) E) F.called_set.init.plain F.entry_set_init (check_set_init_1 ty0 ?_)) fun r t hr => ?_
    · obtain ⟨⟨cls0, dict0, dat0, sl0⟩, at1, c1, n1, d1⟩ := hl
      dsimp only at c1 d1
      subst c1 d1
      have at2 : (s.heap.push (bare w)).get? l = some { cls := .type "list", dict := dict0, data := .seq xs n1, slots := sl0 } := Heap.get?_push_of_some _ at1
      have is2 : (s.heap.push (bare w)).IsList l xs := ⟨_, at2, rfl, n1, rfl⟩
      have s1 := F.sub_list_set
      have s2 := F.sub_list_frozenset
      have s3 : ((Value.type "list") == (Value.type "dict")) = false := by decide
      have apart := old_ne (u := bare w) at1
      unfold Builtin.«set.__init__» noKeywords Builtin.Frozenset.updateFrom
      generalize pi : pyIter = it
      wp_walk
      subst pi
      refine wpAny_pyIter_list is2 (wpAny_bind (wpAny_runValue ?_))
      have ne1 : l ≠ (s.heap.push (bare w)).objs.size := fun z => apart (by rw [z]; simp)
      have ne0 : s.heap.objs.size ∉ [(s.heap.push (bare w)).objs.size, l] := fun z => by
        rcases List.mem_cons.mp z with z | z
        · rw [Heap.size_push] at z
          exact absurd z (Nat.ne_of_lt (Nat.lt_succ_self _))
        · exact apart (by rw [← List.mem_singleton.mp z]; simp)
      have each : ∀ (i : Nat) (v : Value), xs[i]? = some v → ∃ k t, ns[i]? = some k ∧ v = .int k t := fun i v hv => by
        have li : i < ns.length := size ▸ (Array.getElem?_eq_some_iff.mp hv).1
        obtain ⟨t, e⟩ := IntsAre.int_at hi i v (by rw [Array.getElem?_toList]; exact hv)
        exact ⟨ns[i], t, List.getElem?_eq_getElem li, by rw [e, List.getD_eq_getElem?_getD, List.getElem?_eq_getElem li]; rfl⟩
      have calm3 : A.in1.in1.in1.handled = none := by simp [calm]
      refine onward ((Walks.list calm3 _ l ne1 xs).toS) ne0 size.symm few each xs.size 0 _ (Nat.zero_add _) ⟨⟨_, Heap.get?_push_size _ rfl, rfl, rfl⟩, is2.push _⟩ ⟨[], List.nodup_nil, fun x => by rw [List.take_zero], bare_is (Heap.get?_push_of_some _ at0)⟩ fun t c mv hs => ?_
      obtain ⟨g, gs, dr, tk, os⟩ := t
      obtain rfl : gs = s.gens := mv.gens
      obtain rfl : dr = s.drawn := mv.drawn
      obtain rfl : os = s.os := mv.os
      refine wpAny_pure (wpAny_pure ⟨rfl, g, tk, c, rfl, hs, fun b o e => mv.heap b o (old_ne e) (Heap.get?_push_of_some _ (Heap.get?_push_of_some _ e))⟩)
    · match r, hr with
      | .error _, hr => exact hr
      | .ok (.ret _), ⟨e1, g, tk, c, e2, hs, old⟩ =>
        subst e1 e2
        repeat any_goals first | wp_step | assumption
        exact q g tk c hs old
end
end SetM
namespace Lf
open PySem PySem.Spec PyProof.Rows L2
open PySem.W (Frag)
section
variable {X : Cx}
def rSetM (K : Frag) (w : World) : List V → Hp → VK → Prop := fun vs H Q => ∃ (a : Addr) (ns : List Int), vs = [.ref a] ∧ SqL K H a (ns.map V.int) ∧ SetM.Few ns ∧ ∀ (p : Addr) (c : Nat), H p = none → Q (.ref p) (upd H p (SetO w p (fun j => decide (j ∈ ns)) c))
theorem cr_setM (hc : X.calm = true) : CallR X (.type "set") (rSetM X.K X.w) := by
  intro pins s σ H xs us Q I r h
  obtain ⟨a, ns, rfl, hs, few, q⟩ := h
  obtain ⟨its, rv, hl, _⟩ := I.list hs
  rw [Vals.ref1 r]
  refine SetM.made (I.ok.hd hc) hl.isList (by simpa using rv.ints) few fun g tk c R old => ?_
  exact ⟨.ref _, upd H s.heap.objs.size (SetO X.w s.heap.objs.size (fun j => decide (j ∈ ns)) c), I.laid (t' := tk) old (Nat.le_refl _) (setO_new R), rfl, q _ c (I.hok.fresh (Nat.le_refl _))⟩
end
/-- set(xs), told in order: not too many members -/
def setFew (xs : List Int) : Option (List Int) := if (sortU xs).length < 4000 then some (sortU xs) else none
theorem few_of {xs : List Int} (h : (sortU xs).length < 4000) : SetM.Few xs := fun as nd sub => by
  have := SetM.nodup_le (as := as) (bs := sortU xs) nd fun x hx => (sortU_mem x xs).mpr (sub x hx)
  unfold scanBound
  omega
section
variable {K : Frag} {w : World} {ω : List Ent}
theorem CaX.setM {xs : List Int} (few : SetM.Few xs) : CaX (rSetM K w) ω ω [is K xs] (is K (ISet.mk (w := w) xs)) := fun G H vs Q wA pa q => by
  obtain ⟨v, rfl, a, us, rfl, e, ha, l⟩ := PArgs.one pa
  refine ⟨a, xs, rfl, by rw [← ints_of ha]; exact RC.sq_of (wA.lst e), few, fun p c hp => ?_⟩
  obtain ⟨w2, s2⟩ := wA.new (o := SetO w p (fun j => decide (j ∈ xs)) c) hp
  exact q _ _ _ s2 w2 ⟨p, _, c, rfl, upd_same, fun k => by simp⟩
end
theorem EvF.sortedSetM {K : Frag} {w : World} {Γ : Gm} {ω ω1 : List Ent} {tA : TA} {xs ys : List Int} (h : EvA tA Γ ω ω1 [is K xs]) (e : setFew xs = some ys) : EvF (tCB (rSortS w) (tCons (tCB (rSetM K w) tA) tNil)) Γ ω ω1 (olst K ys) := by
  unfold setFew at e
  split at e
  · rename_i c
    cases e
    exact EvF.ca (EvA.cons (EvX.ca h (CaX.setM (w := w) (few_of c))) EvA.nil) CaF.sortS
  · cases e
end Lf
/-! ## sorted(d), d a dict by ints -/
namespace SortD
open PySem PySem.Calls PySem.Spec PyProof.Rows PyProof.V L2
section
variable {P : Program} {w : World} {A : Around} {E : Value → Shared → Prop} {s : Shared}
/-- what is gathered out of a source lies behind what was there -/
theorem gather {T : String} {r d : Addr} {n : Nat} {G : Nat → Value → Prop} {OK : Heap → Prop} {R : List Value → Shared → Prop} (K : PySem.W.KdlSrc P w T r d n G OK) (calm : A.handled = none) (ok : OK s.heap) (small : n ≤ sizeLine)
    (h : ∀ (h' : Heap) (tk : Nat) (acc : Array Value), (∀ b o, s.heap.get? b = some o → h'.get? b = some o) → s.heap.objs.size < h'.objs.size → ItemsOf G acc n → R acc.toList { s with heap := h', toks := tk }) : wpAny (model P w) A (collect (.ref r)) R E s := by
  obtain ⟨lr, ld⟩ := K.there _ ok
  have at0 : (s.heap.push { cls := .type "list", data := .seq ([] : List Value).toArray }).get? s.heap.objs.size = some { cls := .type "list", data := .seq #[] } := Heap.get?_push_size _ rfl
  have walk := PySem.W.kdl_extend (A := A) (s := { s with heap := s.heap.push { cls := .type "list", data := .seq ([] : List Value).toArray } }) (R := fun fin t => fin = .ok (.ret (.ref s.heap.objs.size)) ∧ ∃ (h' : Heap) (tk : Nat) (acc : Array Value) (c : Nat), t = { s with heap := h', toks := tk } ∧ (∀ b o, s.heap.get? b = some o → h'.get? b = some o) ∧ h'.get? s.heap.objs.size = some { cls := .type "list", dict := none, data := .seq acc c, slots := #[] } ∧ ItemsOf G acc n) K calm
    (K.keep _ _ ok fun b _ o e => Heap.get?_push_of_some _ e) s.heap.objs.size (Nat.ne_of_gt lr) (Nat.ne_of_gt ld) (.ref s.heap.objs.size) 0 at0
    (fun h' tk acc c old here items => ⟨rfl, h', tk, acc, c, rfl, fun b o e => old b o (Nat.ne_of_lt (Heap.lt_size e)) (Heap.get?_push_of_some _ e), here, items⟩) small
  have back : ∀ (t : Shared), (∃ (h' : Heap) (tk : Nat) (acc : Array Value) (c : Nat), t = { s with heap := h', toks := tk } ∧ (∀ b o, s.heap.get? b = some o → h'.get? b = some o) ∧ h'.get? s.heap.objs.size = some { cls := .type "list", dict := none, data := .seq acc c, slots := #[] } ∧ ItemsOf G acc n) →
      ∃ (acc : Array Value) (c : Nat), t.heap.get? s.heap.objs.size = some { cls := .type "list", dict := none, data := .seq acc c, slots := #[] } ∧ R acc.toList t := fun t ⟨h', tk, acc, c, e, old, here, items⟩ => by
    subst e
    exact ⟨acc, c, here, h h' tk acc old (Heap.lt_size here) items⟩
  unfold collect
  apply wpAny_bind
  apply wpAny_runValue
  apply codeAny_builtin F.entry_proto_collect
  rewrite [Around.under_plainId F.plain_proto_collect _]
  apply wpAny_bind
  refine wpAny_newObj_type ?_
  refine wpAny_pure (And.intro (plainId_quiet F.plain_list_iadd _) ?_)
  apply codeAny_builtin F.entry_list_iadd
  rewrite [Around.under_plainId F.plain_list_iadd _]
  refine wpAny_mono walk (fun fin t end_ => ?_) fun e t no => absurd no.1 (fun z => nomatch z)
  match fin, end_ with
  | .done f, ⟨e, more⟩ =>
    cases e
    obtain ⟨acc, c, here, done⟩ := back t more
    exact wpAny_bind (wpAny_load here (wpAny_pure done))
  | .again c', ⟨q, run⟩ =>
    refine ⟨q, codeAny_mono run fun fin t2 end2 => ?_⟩
    obtain ⟨e, more⟩ := end2
    subst e
    obtain ⟨acc, c, here, done⟩ := back t2 more
    exact wpAny_bind (wpAny_load here (wpAny_pure done))
/-- the keys of the dict at a, in order, as a new list -/
theorem keysInOrder {a : Addr} {kvs : List (Key × Value)} {ns : List Int} {Q : Value → Shared → Prop} (calm : A.handled = none) (lo : (a == sysModules) = false) (df : s.heap.DictOf (mixKind P w) a kvs) (small : kvs.length ≤ sizeLine) (ek : kvs.map (·.1) = ns.map Sum.inl)
    (q : ∀ (h' : Heap) (tk : Nat) (b : Addr) (out : Array Value) (c : Nat) (ms : List Int), (∀ x o, s.heap.get? x = some o → h'.get? x = some o) → s.heap.objs.size ≤ b → h'.get? b = some (seqObj "list" out c) → IntsAre out.toList ms → ms.Perm ns → ms.Pairwise (· ≤ ·) → Q (.ref b) { s with heap := h', toks := tk }) :
    wpAny (model P w) A (call (.builtin "sorted") [.ref a]) Q E s := by
  have nl : kvs.length = ns.length := by
    have := congrArg List.length ek
    rw [List.length_map, List.length_map] at this
    exact this
  obtain ⟨ep, hat⟩ := df.dictAt
  apply Calls.call_function_entry kind_sorted plain_sorted entry_sorted (args_sorted1 _)
  unfold Builtin.«sorted»
  apply wpAny_bind (m := checkCount "sorted" 1 1 _)
  apply wpAny_pure
  apply wpAny_bind
  refine gather (A := A.in1) (PySem.W.kdl_dict (knd := mixKind P w) (kvs := kvs) (ep := ep) lo) calm hat small fun h' tk acc old more items => ?_
  obtain ⟨il, ip⟩ := items
  have each : ∀ (j : Nat) (v : Value), acc.toList[j]? = some v → ∃ k t, ns[j]? = some k ∧ v = .int k t := fun j v hv => by
    obtain ⟨k, x, e, ik⟩ := ip j v (by rw [← Array.getElem?_toList]; exact hv)
    have e2 : (kvs.map (·.1))[j]? = some k := by
      rw [List.getElem?_map, e]
      rfl
    rw [ek, List.getElem?_map] at e2
    cases z : ns[j]? with
    | none =>
      rw [z] at e2
      cases e2
    | some n =>
      rw [z] at e2
      cases e2
      have e3 : ∃ t, v = .int n t := by
        cases v <;> first | exact ⟨_, by rw [eq_of_beq ik]⟩ | exact Bool.noConfusion ik
      obtain ⟨t, e3⟩ := e3
      exact ⟨n, t, rfl, e3⟩
  have len : acc.toList.length = ns.length := by rw [Array.length_toList, il, nl]
  have whole : IntsAre acc.toList (acc.toList.map SrtO.iv) := SrtO.ints_iv fun v hv => by
    obtain ⟨j, hj⟩ := List.mem_iff_getElem?.mp hv
    obtain ⟨k, t, _, e⟩ := each j v hj
    exact ⟨k, t, e⟩
  have keys : acc.toList.map SrtO.iv = ns := by
    refine List.ext_getElem? fun j => ?_
    rw [List.getElem?_map]
    cases z : acc.toList[j]? with
    | none =>
      rw [List.getElem?_eq_none (by rw [← len]; exact List.getElem?_eq_none_iff.mp z)]
      rfl
    | some v =>
      obtain ⟨k, t, e, e2⟩ := each j v z
      rw [e, e2]
      rfl
  apply wpAny_bind
  refine wpAny_newList ?_ (by rw [len, ← nl]; exact small)
  have at0 : (h'.push (seqObj "list" acc.toList.toArray 0)).get? h'.objs.size = some (seqObj "list" acc.toList.toArray 0) := Heap.get?_push_size _ rfl
  apply wpAny_bind
  apply wpAny_holding
  refine wpAny_call_entry slot_list_sort ⟨_, at0, rfl⟩ entry_list_sort (SrtO.list_sort_ord SrtO.swo_int at0 (by rw [len, ← nl]; exact small) (fun h2 => SrtO.ints_sortable whole h2) fun out h1 h2 => ?_) (args_list_sort _)
  obtain ⟨k1, k2, k3⟩ := SrtO.ints_out whole h1 h2
  obtain ⟨c, hc⟩ := sortedHeap_at (vs := acc.toList) (out := out.toArray) at0
  refine ⟨_, rfl, wpAny_pure ⟨_, rfl, q _ _ h'.objs.size out.toArray c (out.map SrtO.iv) (fun x u e => ?_) (Nat.le_of_lt more) hc k1 (keys ▸ k2) k3⟩⟩
  have e1 := old x u e
  have lt := Heap.lt_size e1
  show (sortedHeap (h'.push (seqObj "list" acc.toList.toArray 0)) h'.objs.size acc.toList out.toArray).get? x = some u
  rw [sortedHeap_old (Nat.ne_of_lt lt) (by rw [size_push']; exact Nat.lt_succ_of_lt lt)]
  exact Heap.get?_push_of_some _ e1
end
end SortD
namespace Lf
open PySem PySem.Spec PyProof.Rows L2
open PySem.W (Frag)
section
variable {X : Cx}
def rSortD : List V → Hp → VK → Prop := fun xs H Q => ∃ (a : Addr) (kvs : List (Key × V)) (ns : List Int), xs = [.ref a] ∧ Rd H a (.dK kvs) ∧ kvs.map (·.1) = ns.map Sum.inl ∧
  ∀ (ms : List Int) (p : Addr), ms.Perm ns → ms.Pairwise (· ≤ ·) → ms.length ≤ sizeLine → H p = none → Q (.ref p) (upd H p (.lst (ms.map V.int)))
theorem kv_keys : ∀ {kvs : List (Key × V)} {vs : List (Key × Value)}, KV kvs vs → vs.map (·.1) = kvs.map (·.1)
  | _, _, .nil => rfl
  | _, _, .cons r t => by rw [List.map_cons, List.map_cons, kv_keys t, r.1]
theorem cr_sortD (hc : X.calm = true) : CallR X (.builtin "sorted") rSortD := by
  intro pins s σ H xs us Q I r h
  obtain ⟨a, kvs, ns, rfl, hd, ek, q⟩ := h
  rw [Vals.ref1 r]
  have ok : ObjOk X.prog X.w H s.heap a (.dK kvs) := by
    rcases hd with e | ⟨o, e⟩
    · exact I.hok a _ e
    · exact (I.hok a _ e).2
  obtain ⟨small, lo, vs, kv, df⟩ := ok
  have ev := kv_keys kv
  have nl : kvs.length = ns.length := by
    have := congrArg List.length ek
    rw [List.length_map, List.length_map] at this
    exact this
  have vl : vs.length = kvs.length := by
    have := congrArg List.length ev
    rw [List.length_map, List.length_map] at this
    exact this
  refine SortD.keysInOrder (I.ok.hd hc) lo df (by rw [vl]; exact small) (ev.trans ek) fun h' tk b out c ms k new at_ isI perm inc => ?_
  have sm : ms.length ≤ sizeLine := by
    rw [perm.length_eq, ← nl]
    exact small
  have free : H b = none := I.hok.fresh new
  exact ⟨.ref b, upd H b (.lst (ms.map V.int)), I.laid (t' := tk) k new ⟨by rw [List.length_map]; exact sm, out.toList, c, vals_of_ints isI, at_⟩, rfl, q ms b perm inc sm free⟩
end
end Lf
/-! ## Readings told by plain data: loops with break, more walks, sorted lists, displays -/
namespace Lf
open PySem PySem.Spec PyProof.Rows L2
open PySem.W (Frag)
open He (ga)
/-! a loop that may be broken off -/
inductive Brk (S : Type) where
  | go (s : S) | out (s : S)
def Res.until {α S : Type} (f : S → α → Res (Brk S)) : List α → S → Res S
  | [], s => .ok s
  | x :: xs, s => Res.bind (f s x) fun c => match c with
    | .go s' => Res.until f xs s'
    | .out s' => .ok s'
def BkPost (D : Ends) (G : Hp) (p : Gm × List Ent) : Prop := ∀ (σ : L2.St) (G2 H2 : Hp), Le G G2 → Reps G2 σ p.1 → At G2 p.2 H2 → D.bk σ H2
section
variable {K : Frag} {W : WX} {ωe : List Ent} {X R S T : Type} {Γ : Gm} {ω ω1 ω2 ω3 : List Ent} {Z : ZF K W ωe X} {t u tbs : TS} {te ta tb : TE} {tt : TT} {fn : S → Gm × List Ent} {α β : Type} [Rp α] [Rp β] {a b m : MP}
def zK (K : Frag) (W : WX) (ωe : List Ent) (fn : S → Gm × List Ent) : ZF K W ωe (Brk S) where
  z m D G := m ≠ .bad ∧ (∀ s, m = .ok (.go s) → NxPost D G (fn s)) ∧ (∀ s, m = .ok (.out s) → BkPost D G (fn s)) ∧ ∀ x, m = .err x → PostE K W ωe G x
  mono s h := ⟨h.1, fun r e => (h.2.1 r e).mono s, fun r e v G3 H3 s3 => h.2.2.1 r e v G3 H3 (s.trans s3), fun x e => (h.2.2.2 x e).mono s⟩
  nobad h := h.1 rfl
  err h := h.2.2.2 _ rfl
theorem Go.nextK {s : S} (a : Sub Γ (fn s).1) (d : Dr ω (fn s).2) : Go tNext Γ ω (zK K W ωe fn) (.ok (.go s)) := fun σ G H D rp w z => z.2.1 s rfl σ G H (Le.refl _) (rp.sub a) (d.at w)
theorem Go.brk {s : S} (a : Sub Γ (fn s).1) (d : Dr ω (fn s).2) : Go tBreak Γ ω (zK K W ωe fn) (.ok (.out s)) := fun σ G H D rp w z => z.2.2.1 s rfl σ G H (Le.refl _) (rp.sub a) (d.at w)
theorem until_drop {fb : S → α → Res (Brk S)} {xs : List α} {i : Nat} {a : α} (h : xs[i]? = some a) (s : S) : Res.until fb (xs.drop i) s = Res.bind (fb s a) fun c => match c with
    | .go s' => Res.until fb (xs.drop (i + 1)) s'
    | .out s' => .ok s' := by
  have lt := (List.getElem?_eq_some_iff.mp h).1
  rw [List.drop_eq_getElem_cons lt, (List.getElem?_eq_some_iff.mp h).2]
  rfl
theorem Go.forK {wi : TI} {g : TG} {P : List Ent → Prop} {xs : List α} {fb : S → α → Res (Brk S)} {s0 : S} {Γb : S → α → Gm} (hi : IterX K wi Γ ω ω1 P xs) (h0 : Sub Γ (fn s0).1) (d0 : Dr ω1 (fn s0).2) (hP : ∀ s, P (fn s).2) (ht : ∀ s, TgX K g (fn s).1 (Γb s)) (hb : ∀ s a, Go tbs (Γb s a) (fn s).2 (zK K W ωe fn) (fb s a)) :
    Go (tFor wi g tbs) Γ ω (zN K W ωe fn) (Res.until fb xs s0) := fun σ G H D rp w z => hi σ G H _ rp w fun J G2 H2 s2 w2 wk => by
  refine ⟨fun i m σ' H' => m = xs.length - i ∧ i ≤ xs.length ∧ ∃ s G', Le G2 G' ∧ Reps G' σ' (fn s).1 ∧ At G' (fn s).2 H' ∧ Res.until fb (xs.drop i) s = Res.until fb xs s0, ⟨xs.length, by simp, Nat.zero_le _, s0, G2, Le.refl _, (rp.mono s2).sub h0, d0.at w2, rfl⟩, ?_⟩
  rintro i m σ' H' ⟨rfl, hle, s, G', sG, r', w', ef⟩
  by_cases hlt : i < xs.length
  · obtain ⟨y, hx⟩ : ∃ y, xs[i]? = some y := ⟨_, List.getElem?_eq_getElem hlt⟩
    rw [until_drop hx] at ef
    refine .inr ⟨wk.go G' _ H' i sG w' (hP s) hlt, fun σ3 H3 => ∃ s3 G3, Le G2 G3 ∧ Reps G3 σ3 (fn s3).1 ∧ At G3 (fn s3).2 H3 ∧ Res.until fb (xs.drop (i + 1)) s3 = Res.until fb xs s0, fun σ3 H3 q => ⟨xs.length - (i + 1), by omega, rfl, hlt, q⟩, fun x H3 y => ?_⟩
    obtain ⟨G3, s3, w3, px⟩ := wk.yld G' _ H' i x H3 _ sG w' (hP s) hx y
    refine ht s _ σ' G3 H3 _ x _ (r'.mono s3) w3 px fun σ4 r4 => ?_
    refine hb s _ σ4 G3 H3 _ r4 w3 ⟨fun q => ?_, fun s5 q σ5 G5 H5 s5' r5 w5 => ?_, fun s5 q σ5 G5 H5 s5' r5 w5 => ?_, fun e q => ?_⟩
    · rw [q] at ef
      exact z.1 ef.symm
    · rw [q] at ef
      exact ⟨s5, G5, sG.trans (s3.trans s5'), r5, w5, ef⟩
    · rw [q] at ef
      exact z.2.1 s5 ef.symm σ5 G5 H5 (s2.trans (sG.trans (s3.trans s5'))) r5 w5
    · rw [q] at ef
      exact PostE.mono (s2.trans (sG.trans s3)) (z.2.2 e ef.symm)
  · obtain rfl : i = xs.length := by omega
    rw [List.drop_length] at ef
    exact .inl ⟨wk.stop G' _ H' sG w' (hP s), z.2.1 s ef.symm σ' G' H' (s2.trans sG) r' w'⟩
/-! range(a, b, -1) -/
def idown (hi lo : Int) : Option (List Int) := if -(2 ^ 60) ≤ lo ∧ lo < 2 ^ 60 ∧ -(2 ^ 60) ≤ hi ∧ hi < 2 ^ 60 ∧ (hi - lo).toNat ≤ sizeLine then some ((List.range (hi - lo).toNat).map fun (i : Nat) => hi + (i : Int) * (-1)) else none
theorem walk_down {G0 : Hp} {hi : Int} {n : Nat} (hn : n ≤ sizeLine) : WalkX K G0 Any (Itc hi (-1) n) ((List.range n).map fun (i : Nat) => hi + (i : Int) * (-1)) := by
  have lw := walk_rng (K := K) (G0 := G0) (lo := hi) hn
  refine ⟨by simpa using lw.len, fun G ω H i s w q h => by simpa [Itc] using h, fun G ω H s w q => by simp [Itc], fun G ω H i x H' a _ w _ h y => ?_⟩
  obtain ⟨rfl, rfl⟩ := y
  rw [List.getElem?_map] at h
  cases z : (List.range n)[i]? with
  | none =>
    rw [z] at h
    cases h
  | some j =>
    rw [z] at h
    obtain ⟨l, e⟩ := List.getElem?_eq_some_iff.mp z
    rw [List.getElem_range] at e
    subst e
    cases h
    exact ⟨G, Le.refl _, w, rfl⟩
theorem IterX.down {tA : TA} {hi lo : Int} {xs : List Int} (h : EvA tA Γ ω ω1 [is K hi, is K lo, is K (-1 : Int)]) (e : idown hi lo = some xs) : IterX K (iRng3 tA) Γ ω ω1 Any xs := fun σ G H R r w q => h σ G H _ r w fun vs G1 H1 s1 w1 p1 => by
  cases p1 with
  | cons p1 t => cases t with
    | cons p2 t => cases t with
      | cons p3 t =>
        cases t
        cases p1
        cases p2
        cases p3
        unfold idown at e
        split at e
        · rename_i c
          cases e
          exact ⟨hi, lo, -1, (hi - lo).toNat, rfl, RgC.neg (by omega) (by omega) (by omega) (by omega), q _ G1 H1 s1 w1 (walk_down c.2.2.2.2)⟩
        · cases e
/-! range(a, b) of great ints -/
def irngL (lo hi : Int) : Option (List Int) := if (hi - lo).toNat ≤ sizeLine then some ((List.range (hi - lo).toNat).map fun (i : Nat) => lo + (i : Int)) else none
theorem IterX.rngL {tA : TA} {lo hi : Int} {xs : List Int} (h : EvA tA Γ ω ω1 [is K lo, is K hi]) (e : irngL lo hi = some xs) : IterX K (RC.iRngL tA) Γ ω ω1 Any xs := fun σ G H R r w q => h σ G H _ r w fun vs G1 H1 s1 w1 p1 => by
  obtain ⟨v, v', rfl, pv, pv'⟩ := PArgs.two p1
  cases pv
  cases pv'
  unfold irngL at e
  split at e
  · rename_i c
    cases e
    exact ⟨lo, hi, rfl, q _ G1 H1 s1 w1 (walk_rng c)⟩
  · cases e
/-! enumerate(xs) -/
def nums : Nat → List α → List (Int × α)
  | _, [] => []
  | n, x :: xs => ((n : Int), x) :: nums (n + 1) xs
theorem nums_len {γ : Type} : ∀ (n : Nat) (xs : List γ), (nums n xs).length = xs.length
  | _, [] => rfl
  | n, x :: xs => by
    show (nums (n + 1) xs).length + 1 = xs.length + 1
    rw [nums_len]
theorem nums_at {γ : Type} : ∀ (n i : Nat) (xs : List γ), (nums n xs)[i]? = (xs[i]?).map fun x => (((n + i : Nat) : Int), x)
  | _, _, [] => rfl
  | n, 0, x :: xs => rfl
  | n, i + 1, x :: xs => by
    show (nums (n + 1) xs)[i]? = (xs[i]?).map _
    rw [nums_at, show n + 1 + i = n + (i + 1) by omega]
theorem IterX.enum {tA : TA} {xs : List α} (h : EvA tA Γ ω ω1 [is K xs]) : IterX K (iEnum K tA) Γ ω ω1 Any (nums 0 xs) := fun σ G H R r w q => h σ G H _ r w fun vs G1 H1 s1 w1 p1 => by
  obtain ⟨v, rfl, a, us, rfl, e, ha, l⟩ := PArgs.one p1
  refine ⟨a, us, rfl, RC.sq_of (w1.lst e), q _ G1 H1 s1 w1 ⟨by rw [nums_len]; exact l, fun G ω H i s w _ hi => ?_, fun G ω H s w _ => ?_, fun G ω H i x H' b s w _ hi y => ?_⟩⟩
  · rw [nums_len, ← Paired.len ha] at hi
    exact ⟨us, us[i], RC.sq_of (w.lst (s.at e)), List.getElem?_eq_getElem hi⟩
  · exact ⟨us, RC.sq_of (w.lst (s.at e)), by rw [nums_len]; exact Nat.le_of_eq (Paired.len ha)⟩
  · obtain ⟨T, u, rfl, free, rfl, hu⟩ := y
    rw [nums_at, Nat.zero_add] at hi
    cases z : xs[i]? with
    | none =>
      rw [z] at hi
      cases hi
    | some x =>
      rw [z] at hi
      cases hi
      obtain ⟨v', ev, pv⟩ := Paired.at_ ha z
      have e2 := hu us (RC.sq_of (w.lst (s.at e)))
      obtain rfl : v' = u := Option.some.inj (ev.symm.trans e2)
      obtain ⟨w2, s2⟩ := w.new (o := .tup [.int (i : Nat), v']) free
      exact ⟨_, s2, w2, T, _, v', rfl, upd_same, rfl, Rp.mono (s.trans s2) pv⟩
/-! sorted(d); the greatest, the least of a list of ints -/
theorem keys_of {G : Hp} : ∀ {kvs : List (Key × V)} {l : List (Int × α)}, AllD K G kvs l → kvs.map (·.1) = (l.map (·.1)).map Sum.inl
  | _, _, .nil => rfl
  | _, _, .cons r t => by
    rw [List.map_cons, List.map_cons, List.map_cons, keys_of t, r.1]
    rfl
theorem CaF.sortD {d : Dic Int α} : CaF rSortD ω ω [is K d] (olst K (Lf.sortI (d.l.map (·.1)))) := fun G H vs Q wA pa q => by
  obtain ⟨v, rfl, pv⟩ := PArgs.one pa
  obtain ⟨p, kvs, rfl, rd, al⟩ := DicAt.of (K := K) (ω := ω) (d := d) G H v wA pv
  refine ⟨p, kvs, d.l.map (·.1), rfl, rd, keys_of al, fun ms b perm inc small free => ?_⟩
  have en : ms = Lf.sortI (d.l.map (·.1)) := le_eq inc (sortI_inc _) (perm.trans (sortI_perm _).symm)
  rw [en] at small ⊢
  exact q b G _ (Le.refl _) (newL wA free (all_ints _) small)
def maxL : List Int → Option Int
  | [] => none
  | x :: xs => some (xs.foldl max x)
theorem fold_max : ∀ (xs : List Int) (x : Int), xs.foldl max x ∈ x :: xs ∧ ∀ y ∈ x :: xs, y ≤ xs.foldl max x
  | [], x => ⟨List.mem_cons_self, fun y h => by
    rw [List.mem_singleton.mp h]
    exact Int.le_refl _⟩
  | z :: xs, x => by
    obtain ⟨h1, h2⟩ := fold_max xs (max x z)
    rw [List.foldl_cons]
    refine ⟨?_, fun y hy => ?_⟩
    · rcases List.mem_cons.mp h1 with e | e
      · rw [e]
        rcases Int.le_total x z with l | l
        · rw [Int.max_eq_right l]
          exact List.mem_cons_of_mem _ List.mem_cons_self
        · rw [Int.max_eq_left l]
          exact List.mem_cons_self
      · exact List.mem_cons_of_mem _ (List.mem_cons_of_mem _ e)
    · have top := h2 _ List.mem_cons_self
      rcases List.mem_cons.mp hy with e | e
      · rw [e]
        exact Int.le_trans (Int.le_max_left _ _) top
      · rcases List.mem_cons.mp e with e | e
        · rw [e]
          exact Int.le_trans (Int.le_max_right _ _) top
        · exact h2 y (List.mem_cons_of_mem _ e)
theorem CaX.maxI {xs : List Int} {y : Int} (h : maxL xs = some y) : CaX (rMax K) ω ω [is K xs] (is K y) := fun G H vs Q w p q => by
  obtain ⟨v, rfl, a, us, rfl, e, ha, l⟩ := PArgs.one p
  cases xs with
  | nil => cases h
  | cons x xs =>
    cases h
    refine ⟨a, x :: xs, rfl, by rw [← ints_of ha]; exact RC.sq_of (w.lst e), Nat.succ_pos _, fun m hm top => ?_⟩
    obtain ⟨h1, h2⟩ := fold_max xs x
    have e1 := top _ h1
    have e2 := h2 _ hm
    obtain rfl : m = xs.foldl max x := by omega
    exact q _ G H (Le.refl _) w rfl
def minI : List Int → Option Int
  | [] => none
  | x :: xs => some (xs.foldl min x)
theorem fold_min : ∀ (xs : List Int) (x : Int), xs.foldl min x ∈ x :: xs ∧ ∀ y ∈ x :: xs, xs.foldl min x ≤ y
  | [], x => ⟨List.mem_cons_self, fun y h => by
    rw [List.mem_singleton.mp h]
    exact Int.le_refl _⟩
  | z :: xs, x => by
    obtain ⟨h1, h2⟩ := fold_min xs (min x z)
    rw [List.foldl_cons]
    refine ⟨?_, fun y hy => ?_⟩
    · rcases List.mem_cons.mp h1 with e | e
      · rw [e]
        rcases Int.le_total x z with l | l
        · rw [Int.min_eq_left l]
          exact List.mem_cons_self
        · rw [Int.min_eq_right l]
          exact List.mem_cons_of_mem _ List.mem_cons_self
      · exact List.mem_cons_of_mem _ (List.mem_cons_of_mem _ e)
    · have low := h2 _ List.mem_cons_self
      rcases List.mem_cons.mp hy with e | e
      · rw [e]
        exact Int.le_trans low (Int.min_le_left _ _)
      · rcases List.mem_cons.mp e with e | e
        · rw [e]
          exact Int.le_trans low (Int.min_le_right _ _)
        · exact h2 y (List.mem_cons_of_mem _ e)
theorem CaX.minI {xs : List Int} {y : Int} (h : minI xs = some y) : CaX (rMin K) ω ω [is K xs] (is K y) := fun G H vs Q w p q => by
  obtain ⟨v, rfl, a, us, rfl, e, ha, l⟩ := PArgs.one p
  cases xs with
  | nil => cases h
  | cons x xs =>
    cases h
    refine ⟨a, x :: xs, rfl, by rw [← ints_of ha]; exact RC.sq_of (w.lst e), Nat.succ_pos _, fun m hm low => ?_⟩
    obtain ⟨h1, h2⟩ := fold_min xs x
    have e1 := low _ h1
    have e2 := h2 _ hm
    obtain rfl : m = xs.foldl min x := by omega
    exact q _ G H (Le.refl _) w rfl
/-! sorted(xs), pairs of ints -/
def leQ (x y : Int × Int) : Prop := x.1 < y.1 ∨ (x.1 = y.1 ∧ x.2 ≤ y.2)
instance (x y : Int × Int) : Decidable (leQ x y) := inferInstanceAs (Decidable (_ ∨ _))
def insP (x : Int × Int) : List (Int × Int) → List (Int × Int)
  | [] => [x]
  | y :: ys => if leQ x y then x :: y :: ys else y :: insP x ys
def sortP (l : List (Int × Int)) : List (Int × Int) := l.foldr insP []
theorem insP_perm (x : Int × Int) : ∀ l : List (Int × Int), (insP x l).Perm (x :: l)
  | [] => .refl _
  | y :: ys => by
    unfold insP
    split
    · exact .refl _
    · exact ((insP_perm x ys).cons y).trans (.swap x y ys)
theorem insP_inc (x : Int × Int) : ∀ {l : List (Int × Int)}, l.Pairwise leQ → (insP x l).Pairwise leQ
  | [], _ => by simp [insP]
  | y :: ys, h => by
    have h1 := (List.pairwise_cons.mp h).1
    have h2 := (List.pairwise_cons.mp h).2
    unfold insP
    split
    · rename_i c
      refine List.pairwise_cons.mpr ⟨fun z hz => ?_, h⟩
      rcases List.mem_cons.mp hz with e | e
      · rw [e]
        exact c
      · have := h1 z e
        unfold leQ at *
        omega
    · rename_i c
      refine List.pairwise_cons.mpr ⟨fun z hz => ?_, insP_inc x h2⟩
      rcases List.mem_cons.mp ((insP_perm x ys).mem_iff.mp hz) with e | e
      · rw [e]
        unfold leQ at *
        omega
      · exact h1 z e
theorem sortP_perm : ∀ l : List (Int × Int), (sortP l).Perm l
  | [] => .refl _
  | x :: l => (insP_perm x _).trans ((sortP_perm l).cons x)
theorem sortP_inc : ∀ l : List (Int × Int), (sortP l).Pairwise leQ
  | [] => .nil
  | x :: l => insP_inc x (sortP_inc l)
theorem leQ_eq {xs ys : List (Int × Int)} (h1 : xs.Pairwise leQ) (h2 : ys.Pairwise leQ) (p : xs.Perm ys) : xs = ys := List.Perm.eq_of_pairwise (fun a b _ _ x y => by
  unfold leQ at x y
  exact Prod.ext (by omega) (by omega)) h1 h2 p
/-- the pair at a place -/
def pairAt (H : Hp) : V → Int × Int
  | .ref t => match H t with
    | some (.tup [.int i, .int j]) => (i, j)
    | _ => (0, 0)
  | _ => (0, 0)
theorem pairAt_of {G H : Hp} {v : V} {x : Int × Int} (w : At G ω H) (h : Rp.rep K G v x) : (∃ t, v = .ref t ∧ H t = some (.tup [.int (pairAt H v).1, .int (pairAt H v).2])) ∧ pairAt H v = x := by
  obtain ⟨t, i, j, rfl, e, h1, h2⟩ := h
  cases h1
  cases h2
  have e2 := w.get e
  have q : pairAt H (.ref t) = x := by
    unfold pairAt
    dsimp only
    rw [e2]
  rw [q]
  exact ⟨⟨t, rfl, e2⟩, rfl⟩
theorem CaF.sortP {xs : List (Int × Int)} : CaF (rSortedPO K) ω ω [is K xs] (olst K (Lf.sortP xs)) := fun G H vs Q wA pa q => by
  obtain ⟨v, rfl, a, us, rfl, e, ha, l⟩ := PArgs.one pa
  have each : ∀ u ∈ us, ∃ x, Rp.rep K G u x ∧ pairAt H u = x := fun u hu => by
    obtain ⟨i, hi⟩ := List.mem_iff_getElem?.mp hu
    have li : i < xs.length := by
      rw [← Paired.len ha]
      exact (List.getElem?_eq_some_iff.mp hi).1
    obtain ⟨v', ev, pv⟩ := Paired.at_ ha (List.getElem?_eq_getElem li)
    obtain rfl : v' = u := Option.some.inj (ev.symm.trans hi)
    exact ⟨_, pv, (pairAt_of wA pv).2⟩
  have keys : ∀ {vs : List V} {ys : List (Int × Int)}, All K G vs ys → vs.map (pairAt H) = ys := fun h => by
    induction h with
    | nil => rfl
    | cons r t ih => rw [List.map_cons, ih, (pairAt_of wA r).2]
  refine ⟨a, us, pairAt H, rfl, RC.sq_of (wA.lst e), fun u hu => ?_, fun ys b srt stb free => ?_⟩
  · obtain ⟨x, px, _⟩ := each u hu
    exact (pairAt_of wA px).1
  · have al : All K G ys (ys.map (pairAt H)) := by
      have : ∀ zs : List V, (∀ z ∈ zs, z ∈ us) → All K G zs (zs.map (pairAt H)) := fun zs => by
        induction zs with
        | nil => exact fun _ => .nil
        | cons z zs ih =>
          intro h
          obtain ⟨x, px, ex⟩ := each z (h z List.mem_cons_self)
          exact .cons (by rw [ex]; exact px) (ih fun y hy => h y (List.mem_cons_of_mem _ hy))
      exact this ys fun z hz => stb.perm.mem_iff.mp hz
    have en : ys.map (pairAt H) = Lf.sortP xs := by
      refine leQ_eq ?_ (sortP_inc _) (((stb.perm.map _).trans (List.Perm.of_eq (keys ha))).trans (sortP_perm xs).symm)
      rw [List.pairwise_map]
      refine List.Pairwise.imp (fun {x y} h => ?_) srt
      have := SrtO.lexB_no.mp h
      unfold leQ
      omega
    rw [en] at al
    exact q b G _ (Le.refl _) (newL wA free al (by rw [(sortP_perm xs).length_eq]; exact l))
/-! None in a list; x == 1 of what may be None -/
theorem flat_opt {G : Hp} {vs : List V} {xs : List (Option Int)} (h : All K G vs xs) : inV .non vs = decide (none ∈ xs) ∧ vs.all flatV = true := by
  induction h with
  | nil => exact ⟨rfl, rfl⟩
  | @cons v x vs xs r t ih =>
    obtain ⟨h1, h2⟩ := ih
    cases x with
    | none =>
      cases (show v = .non from r)
      refine ⟨by simp [inV, eqV], ?_⟩
      rw [List.all_cons, h2]
      rfl
    | some i =>
      cases (show v = .int i from r.1)
      refine ⟨?_, by rw [List.all_cons, h2]; rfl⟩
      unfold inV at h1 ⊢
      rw [List.any_cons, h1]
      simp [eqV]
theorem OpX.inN {xs : List (Option Int)} : OpX (rIn K false) ω ω (is K ()) (is K xs) (is K (decide (none ∈ xs))) := fun G H u v Q w p1 p2 q => by
  cases (show u = .non from p1)
  obtain ⟨a, us, rfl, ea, ha, _⟩ := p2
  obtain ⟨h1, h2⟩ := flat_opt ha
  exact ⟨a, us, rfl, .inl (RC.sq_of (w.lst ea)), rfl, h2, by rw [if_neg (by decide), h1]; exact q _ G H (Le.refl _) w rfl⟩
/-! {k: x} -/
theorem EvF.done {κ : Type} [KpV κ] {k : κ} {x : α} {tk tv : TE} (h1 : ∀ p, EvX tk Γ (.own p (odic K (Dic.mk [] : Dic κ α)) :: ω) (.own p (odic K (Dic.mk [] : Dic κ α)) :: ω) (is K k)) (h2 : ∀ p, EvX tv Γ (.own p (odic K (Dic.mk [] : Dic κ α)) :: ω) (.own p (odic K (Dic.mk [] : Dic κ α)) :: ω) (is K x)) :
    EvF (tDisp [(tk, tv)]) Γ ω ω (odic K (Dic.mk [(k, x)])) := fun σ G H Q r w q p hp => by
  have w1 : At G (.own p (odic K (Dic.mk [] : Dic κ α)) :: ω) (upd H p (.dK [])) := w.newOwn hp ⟨[], rfl, .nil, Nat.zero_le _⟩
  refine h1 p σ G _ _ r w1 fun v1 G1 H1 s1 w2 p1 => h2 p σ G1 H1 _ (r.mono s1) w2 fun v2 G2 H2 s2 w3 p2 => ?_
  obtain ⟨o, ho, kvs, rfl, ha, _⟩ := w3.ownAt (k := 0) rfl
  cases ha
  have ek : v1 = kV (Kp.key k) := KpV.kv p1
  refine ⟨ho, [(Kp.key k, v2)], by rw [ek]; rfl, by show 1 ≤ 15; decide, q p G2 _ (s1.trans s2) ?_⟩
  exact w3.put (k := 0) (φ' := odic K (Dic.mk [(k, x)])) rfl ⟨_, rfl, .cons ⟨rfl, p2⟩ .nil, by show 1 ≤ sizeLine; decide⟩
/-! a, b, c = .. -/
theorem Go.par3 {i j l : Nat} {tA : TA} {c : MP} {x : Res X} (h : EvA tA Γ ω ω1 [a, b, c]) (k : Go u (((Γ.set i (some a)).set j (some b)).set l (some c)) ω1 Z x) :
    Go (tSeq (tAsg (tTup tA) (gTup K 3 (gCons (gName i) (gCons (gName j) (gCons (gName l) gNil))))) u) Γ ω Z x := fun σ G H D rp w z => h σ G H _ rp w fun vs G2 H2 s w2 p => by
  cases p with
  | @cons v1 _ _ _ p1 t => cases t with
    | @cons v2 _ _ _ p2 t => cases t with
      | @cons v3 _ _ _ p3 t =>
        cases t
        refine ⟨by show 3 ≤ sizeLine; decide, fun e he => ?_⟩
        obtain ⟨w3, s3⟩ := w2.new (o := .tup [v1, v2, v3]) he
        refine ⟨e, [v1, v2, v3], rfl, RC.st_of upd_same, rfl, v1, [v2, v3], rfl, v2, [v3], rfl, v3, [], rfl, rfl, ?_⟩
        exact k _ _ _ D (((((rp.mono s).mono s3).set (a.mono s3 p1)).set (b.mono s3 p2)).set (c.mono s3 p3)) w3 (Z.mono (s.trans s3) z)
/-! [a, .., *xs] -/
theorem EvF.starR {xs zs : List α} {tl : TE} {t0 : TE} {y : α} (h0 : EvX t0 Γ ω ω1 (is K y)) (h : EvX tl Γ ω1 ω2 (is K xs)) (ec : cat [y] xs = some zs) : EvF (tLst (tCons t0 (StX.tStar K tl tNil))) Γ ω ω2 (olst K zs) := fun σ G H Q r w q => h0 σ G H _ r w fun v0 G0 H0 s0 w0 p0 => h σ G0 H0 _ (r.mono s0) w0 fun v G1 H1 s1 w1 p1 => by
  obtain ⟨a, us, rfl, ea, ha, l⟩ := p1
  refine ⟨a, us, rfl, .inr (RC.sq_of (w1.lst ea)), ?_⟩
  unfold cat at ec
  split at ec
  · rename_i c
    cases ec
    have al : All K G1 (v0 :: (us ++ [])) ([y] ++ xs) := by
      rw [List.append_nil]
      exact .cons (Rp.mono s1 p0) ha
    have hl : (v0 :: (us ++ [])).length ≤ sizeLine := by rw [Paired.len al, List.length_append]; exact c
    exact ⟨hl, fun p hp => q p G1 _ (s0.trans s1) (newL w1 hp al (by rw [List.length_append]; exact c))⟩
  · cases ec
end
end Lf
/-! ## The end of a law's walk -/
namespace Lf
open PySem PySem.Spec PyProof.Rows L2 RC
open PySem.W (Frag)
section
variable {P : Program} {w : World} {K : Frag} {mg : Str → Option Value} {base : Heap} {k : Nat} {f : Addr} {fd : FuncData} {ps : List Str} {sp : Sp}
/-- where no error is promised: one cannot come -/
def quiet (sp : Sp) : Sp := fun vs H Q _ => sp vs H Q fun _ _ _ => False
theorem quiet_cr {outer : List Env} {H : Hp} {s : Shared} {Q : VK} {E : XK} {r : Result} {s' : Shared} (h : CR (L2.CX P w) outer P w H s Q (fun _ _ _ => False) r s') : CR CX0 outer P w H s Q E r s' := by
  match r, h with
  | .error e, h =>
    obtain ⟨_, _, _, _, _, _, _, _, _, _, _, _, no⟩ := h
    exact no.elim
  | .ok (.ret u), h => exact h
theorem quietG (F : FnOkG P w K mg base (L2.CX P w) k f fd ps sp) : FnOkG P w K mg base CX0 k f fd ps (quiet sp) :=
  ⟨fun vs H Q _ h => F.len vs H Q _ h, fun A outer s H args us vs Q E hg hr e0 hb r h => codeAny_mono (F.run A outer s H args us vs Q _ hg hr e0 hb r h) fun _ _ h => quiet_cr h⟩
theorem quiet1 (F : FnOk P w K mg base (L2.CX P w) k f fd ps sp) : FnOk P w K mg base CX0 k f fd ps (quiet sp) :=
  ⟨fun vs H Q _ h => F.len vs H Q _ h, fun A outer s H args us vs Q E hr e0 hb r h => codeAny_mono (F.run A outer s H args us vs Q _ hr e0 hb r h) fun _ _ h => quiet_cr h⟩
theorem At.nil (H : Hp) : At H [] H := ⟨fun _ _ e => e, fun _ _ _ e => (nomatch e), fun _ _ _ _ e => (nomatch e)⟩
theorem Says.yes {H : Hp} {m : Res Bool} {E : XK} (e : m = .ok true) : Says K H [] m (fun (r : Bool) => RS.val (is K r) []) (fun v _ => v = .bl true) E := Says.ok' e fun _ _ _ _ _ p => p
theorem PArgs.sc {H : Hp} {a : Addr} {ns : List Int} (h : SqL K H a (ns.map V.int)) : PArgs H [.ref a] [is K (Sc.mk ns)] := .cons ⟨a, rfl, h⟩ .nil
end
end Lf
/-! ## Readings told by plain data: errors raised, caught and kept -/
namespace Lf
open PySem PySem.Spec PyProof.Rows L2
open PySem.W (Frag)
open He (ga)
/-- a kept error -/
instance : Rp Exn := ⟨fun K G v x => ∃ a d u, v = .ref a ∧ G a = some (RC.ErrO (.ref (ga K x.cls)) (some d) a) ∧ G d = some (.xd [(("value" : Str), u)]) ∧ Rp.rep K G u x.val, fun s ⟨a, d, u, e, h1, h2, h3⟩ => ⟨a, d, u, e, s.at h1, s.at h2, Rp.mono s h3⟩⟩
/-- what a try keeps: the error, if it is one of these -/
def Res.caught {R : Type} (L : List Str) : Res R → Res (Option Exn)
  | .ok _ => .ok none
  | .err e => if e.cls ∈ L then .ok (some e) else .bad
  | .bad => .bad
theorem Reps.off {G : Hp} {σ : L2.St} {Γ : Gm} {i : Nat} {o : Option V} (h : Reps G σ Γ) : Reps G (σ.set i o) (Γ.set i none) := by
  refine ⟨by rw [List.length_set, List.length_set, h.1], fun j m e => ?_⟩
  by_cases z : i = j
  · subst z
    by_cases l : i < Γ.length
    · rw [List.getElem?_set_self l] at e
      cases e
    · rw [List.getElem?_eq_none (by rw [List.length_set]; omega)] at e
      cases e
  · rw [List.getElem?_set_ne z] at e ⊢
    exact h.2 j m e
section
variable {K : Frag} {W : WX} {ωe : List Ent} {X R : Type} {Γ : Gm} {ω ω1 : List Ent} {Z : ZF K W ωe X} {u : TS} {ta : TA} {ms : List MP} {sp : Sp} {fo : R → RS}
theorem Go.raise {c : Str} {x : PV} (h : EvA ta Γ ω ω1 [is K x]) (hd : Dr ω1 ωe) : Go (RC.tRaiseE (ga K c) W ta) Γ ω Z (.err ⟨c, x⟩ : Res X) := fun σ G H D rp w z => h σ G H _ rp w fun vs G2 H2 s2 w2 p2 => by
  obtain ⟨v, rfl, pv⟩ := PArgs.one p2
  refine ⟨v, rfl, fun d free => ?_⟩
  obtain ⟨w3, s3⟩ := w2.new (o := .xd [(("value" : Str), v)]) free
  exact Z.err z σ d v _ _ (s2.trans s3) (hd.at w3) upd_same (Rp.mono s3 pv)
theorem Go.tryC {mr : Res R} {x : Option Exn → Res X} {L : List Str} {c : Value} {i j : Nat} (h : EvA ta Γ ω ω1 ms) (hs : ∀ E, SpR K sp E ms ω1 ω1 mr fo) (hf : ∀ r, mr = .ok r → (fo r).om = ω1) (hL : ∀ cls ∈ L, PySem.W.exmOne K (.ref (ga K cls)) c = some true)
    (hij : i ≠ j) (hn : Sub Γ ((Γ.set j (some (is K (none : Option Exn)))).set i none)) (k : ∀ y, Res.caught L mr = .ok y → Go u ((Γ.set j (some (is K y))).set i none) ω1 Z (x y)) :
    Go (tSeq (fun D σ H => tSeq (tDrop (tCallS sp (WE (RC.wKeep K c i j D)) ta)) tNext D σ H) u) Γ ω Z (Res.bind (Res.caught L mr) x) := fun σ G H D rp w z => h σ G H _ rp w fun vs G2 H2 s2 w2 p2 => by
  refine hs _ G2 H2 vs _ p2 w2 ⟨fun e => ?_, fun r e => RetQ.lose fun v G3 H3 s3 w3 => ?_, fun e ee σ' d v G3 H3 s3 w3 hd hv => ?_⟩
  · rw [e] at z
    exact Z.nobad z
  · rw [hf r e] at w3
    have ec : Res.caught L mr = .ok none := by rw [e]; rfl
    refine k none ec σ G3 H3 D ((rp.mono (s2.trans s3)).sub hn) w3 (Z.mono (s2.trans s3) ?_)
    rw [ec] at z
    exact z
  · have inL : e.cls ∈ L := by
      by_cases q : e.cls ∈ L
      · exact q
      · have : Res.caught L mr = .bad := by rw [ee]; exact if_neg q
        rw [this] at z
        exact absurd z Z.nobad
    have ec : Res.caught L mr = .ok (some e) := by rw [ee]; exact if_pos inL
    refine ⟨hL _ inL, fun a ha => ?_⟩
    obtain ⟨w4, s4⟩ := w3.new (o := RC.ErrO (.ref (ga K e.cls)) (some d) a) ha
    have pe : (is K (some e)).p (upd G3 a (RC.ErrO (.ref (ga K e.cls)) (some d) a)) (.ref a) := ⟨⟨a, d, v, rfl, upd_same, s4.at hd, Rp.mono s4 hv⟩, fun z => by cases z⟩
    have rp4 := rp.mono (s2.trans (s3.trans s4))
    refine k (some e) ec _ _ _ D ?_ w4 (Z.mono (s2.trans (s3.trans s4)) ?_)
    · have r3 := ((rp4.off (i := i) (o := some (.ref a))).set (i := j) pe).off (i := i) (o := none)
      have eg : ((Γ.set i none).set j (some (is K (some e)))).set i none = (Γ.set j (some (is K (some e)))).set i none := by rw [List.set_comm _ _ hij, List.set_set]
      exact eg ▸ r3
    · rw [ec] at z
      exact z
end
end Lf
/-! ## Readings told by plain data: any values; kept errors asked -/
namespace Lf
open PySem PySem.Spec PyProof.Rows L2
open PySem.W (Frag)
open He (ga)
/-- what is a value of any kind too -/
class ToPV (α : Type) extends Rp α where
  of : α → PV
  conv : ∀ {K : Frag} {G : Hp} {v : V} {x : α}, Rp.rep K G v x → AnyV K G v (of x)
def PV.of {α : Type} [t : ToPV α] (x : α) : PV := t.of x
instance : ToPV PV := { of := fun x => x, conv := fun h => h }
instance : ToPV Int := { of := .int, conv := fun h => by cases h; exact .int _ }
instance : ToPV Bool := { of := .bl, conv := fun h => by cases h; exact .bl _ }
instance : ToPV Str := { of := .str, conv := fun h => by cases h; exact .str _ }
instance : ToPV Unit := { of := fun _ => .non, conv := fun h => by cases h; exact .non }
theorem anyL {α : Type} [t : ToPV α] {K : Frag} {G : Hp} : ∀ {vs : List V} {xs : List α}, All K G vs xs → AnyL K G vs (xs.map t.of)
  | _, _, .nil => .nil
  | _, _, .cons r l => .cons (t.conv r) (anyL l)
instance {α : Type} [t : ToPV α] : ToPV (List α) := { of := fun xs => .lst (xs.map t.of), conv := fun ⟨_, _, e, h, p, _⟩ => e ▸ .lst h (anyL p) }
def PV.isRoll : PV → Bool
  | .roll _ _ => true
  | _ => false
def PV.ty : PV → String
  | .non => "NoneType"
  | .bl _ => "bool"
  | .int _ => "int"
  | .str _ => "str"
  | .lst _ => "list"
  | .tup _ => "tuple"
  | .edict => "dict"
  | .roll _ _ => ""
section
variable {K : Frag} {Γ : Gm} {ω ω1 : List Ent} {te : TE} {α : Type} {a : MP}
theorem EvX.any [t : ToPV α] {x : α} (h : EvX te Γ ω ω1 (is K x)) : EvX te Γ ω ω1 (is K (PV.of x)) := h.as fun _ _ p => t.conv p
theorem EvX.edict (h : EvX te Γ ω ω1 (is K (Dic.mk [] : Dic Int Int))) : EvX te Γ ω ω1 (is K PV.edict) := h.as fun G v p => by
  obtain ⟨a, kvs, rfl, rd, al, _⟩ := p
  cases al
  exact AnyV.edict rd
theorem any_ty {G H : Hp} {v : V} {x : PV} (w : At G ω H) (h : AnyV K G v x) (n : x.isRoll = false) : TyX K H v (.type x.ty) := by
  cases h with
  | non => exact .base .non
  | bl b => exact .base (.bl b)
  | int i => exact .base (.int i)
  | str s => exact .base (.str s)
  | lst h p => exact .base (.lst (w.get h))
  | tup h p => exact .base (.tup (w.get h))
  | edict h =>
    rcases h with e | ⟨o, e⟩
    · exact .base (.dK (w.get e))
    · exact .fDict (w.get e)
  | roll h h1 h2 l1 l2 => cases n
/-! kept errors -/
def rIsE (P : Program) (K : Frag) (mg : Str → Option Value) : List V → Hp → VK → Prop := fun xs H Q => rIsi K xs H Q ∨ RC.rIsErr P K mg xs H Q
theorem call_isE {X : Cx} : CallR X (.builtin "isinstance") (rIsE X.prog X.K X.mg) := fun pins s σ H xs us Q I r h => by
  rcases h with h | h
  · exact call_isi pins s σ H xs us Q I r h
  · exact RC.call_isErr pins s σ H xs us Q I r h
def isE (L : List Str) (o : Option Exn) (c : Str) : Option Bool := match o with
  | none => some false
  | some e => if e.cls ∈ L then some (decide (e.cls = c)) else none
/-- what is asked of the classes of kept errors -/
structure ErrsOk (P : Program) (K : Frag) (mg : Str → Option Value) (L : List Str) (c : Str) : Prop where
  non : PySem.W.kitOne K (.type "NoneType") (.ref (ga K c)) = some false
  err : ∀ e ∈ L, ∃ fI, RC.ErrC P K mg (ga K e) fI ∧ RC.ClsX K (ga K e) ∧ PySem.W.kitOne K (.ref (ga K e)) (.ref (ga K c)) = some (decide (e = c))
theorem CaX.isE {P : Program} {mg : Str → Option Value} {L : List Str} {o : Option Exn} {c : Str} {b : Bool} {u : V} (hu : ClsV u (.ref (ga K c))) (E : ErrsOk P K mg L c) (h : Lf.isE L o c = some b) : CaX (rIsE P K mg) ω ω [is K o, eqv u] (is K b) := fun G H vs Q w pa q => by
  obtain ⟨v, v', rfl, pv, rfl⟩ := PArgs.two pa
  cases o with
  | none =>
    cases h
    cases (show v = .non from pv)
    exact .inl ⟨_, _, _, _, false, rfl, hu, .base .non, E.non, q _ G H (Le.refl _) w rfl⟩
  | some e =>
    unfold Lf.isE at h
    dsimp only at h
    split at h
    · rename_i m
      cases h
      obtain ⟨⟨a, d, y, rfl, ha, hd, _⟩, _⟩ := pv
      obtain ⟨fI, T, X, k⟩ := E.err _ m
      exact .inr ⟨a, ga K e.cls, fI, d, y, _, _, _, rfl, w.get ha, w.get hd, T, X, hu, k, q _ G H (Le.refl _) w rfl⟩
    · cases h
/-- err.value -/
def valE (L : List Str) (o : Option Exn) : Option PV := match o with
  | none => none
  | some e => if e.cls ∈ L then some e.val else none
theorem EvX.valE {P : Program} {mg : Str → Option Value} {L : List Str} {o : Option Exn} {c : Str} {x : PV} (he : EvX te Γ ω ω1 (is K o)) (E : ErrsOk P K mg L c) (h : Lf.valE L o = some x) : EvX (RC.tFldE P K mg te) Γ ω ω1 (is K x) := fun σ G H Q r w q => he σ G H _ r w fun v G1 H1 s1 w1 p1 => by
  cases o with
  | none => cases h
  | some e =>
    unfold Lf.valE at h
    dsimp only at h
    split at h
    · rename_i m
      cases h
      obtain ⟨⟨a, d, y, rfl, ha, hd, hy⟩, _⟩ := p1
      obtain ⟨fI, T, _, _⟩ := E.err _ m
      exact ⟨a, ga K e.cls, fI, d, y, rfl, w1.get ha, T, w1.get hd, q y G1 H1 s1 w1 hy⟩
    · cases h
/-! repr of any value -/
mutual
def PV.d : PV → Option PyData
  | .non => some .none
  | .bl b => some (.bool b)
  | .int i => some (.int i)
  | .str s => some (.str s)
  | .lst xs => (PV.ds xs).map .list
  | .tup xs => (PV.ds xs).map .tuple
  | .edict => none
  | .roll _ _ => none
def PV.ds : List PV → Option (List PyData)
  | [] => some []
  | x :: xs => match x.d, PV.ds xs with
    | some d, some ds => some (d :: ds)
    | _, _ => none
end
mutual
theorem any_dp {G H : Hp} {ω : List Ent} (w : At G ω H) : ∀ {v : V} {x : PV} {d : PyData}, AnyV K G v x → x.d = some d → Dp K H v d
  | _, _, _, .non, e => by
    cases e
    exact .non
  | _, _, _, .bl b, e => by
    cases e
    exact .bl b
  | _, _, _, .int i, e => by
    cases e
    exact .int i
  | _, _, _, .str s, e => by
    cases e
    exact .str s
  | _, _, _, .lst (xs := xs) h p, e => by
    unfold PV.d at e
    cases q : PV.ds xs with
    | none =>
      rw [q] at e
      cases e
    | some ds =>
      rw [q] at e
      cases e
      exact .lst (RC.sq_of (w.lst h)) (any_dps w p q)
  | _, _, _, .tup (xs := xs) h p, e => by
    unfold PV.d at e
    cases q : PV.ds xs with
    | none =>
      rw [q] at e
      cases e
    | some ds =>
      rw [q] at e
      cases e
      exact .tup (RC.st_of (w.tup h)) (any_dps w p q)
  | _, _, _, .edict _, e => by cases e
  | _, _, _, .roll .., e => by cases e
theorem any_dps {G H : Hp} {ω : List Ent} (w : At G ω H) : ∀ {vs : List V} {xs : List PV} {ds : List PyData}, AnyL K G vs xs → PV.ds xs = some ds → DpAll K H vs ds
  | _, _, _, .nil, e => by
    cases e
    exact .nil
  | _, _, _, .cons (x := x) (xs := xs) h t, e => by
    unfold PV.ds at e
    cases q1 : x.d with
    | none =>
      rw [q1] at e
      cases e
    | some d =>
      cases q2 : PV.ds xs with
      | none =>
        rw [q1, q2] at e
        cases e
      | some ds =>
        rw [q1, q2] at e
        cases e
        exact .cons (any_dp w h q1) (any_dps w t q2)
end
def toldP (x : PV) : Option Str := match x with
  | .edict => some (PyData.dict []).shown
  | x => match x.d with
    | none => none
    | some d => if d.showable = true ∧ d.canLay0 = true ∧ d.depth ≤ 40 ∧ d.shown.length ≤ sizeLine then some d.shown else none
theorem show_any {G H : Hp} {ω : List Ent} (w : At G ω H) {v : V} {x : PV} {t : Str} (h : AnyV K G v x) (e : toldP x = some t) : RC.ShowV K H v t := by
  have data : ∀ d, x.d = some d → (if d.showable = true ∧ d.canLay0 = true ∧ d.depth ≤ 40 ∧ d.shown.length ≤ sizeLine then some d.shown else none) = some t → RC.ShowV K H v t := fun d ed e => by
    split at e
    · rename_i c
      cases e
      exact .data (any_dp w h ed) c.1 c.2.1 c.2.2.1 c.2.2.2
    · cases e
  unfold toldP at e
  split at e
  · cases e
    cases h with
    | edict h =>
      rcases h with q | ⟨o, q⟩
      · exact .edict (.inl (w.get q))
      · exact .edict (.inr ⟨o, w.get q⟩)
  · split at e
    · cases e
    · rename_i d ed
      exact data d ed e
theorem CaX.toldP {x : PV} {t : Str} (h : Lf.toldP x = some t) : CaX (RC.rReprX K) ω ω [is K x] (is K t) := fun G H vs Q w p q => by
  obtain ⟨v, rfl, pv⟩ := PArgs.one p
  exact ⟨v, t, rfl, show_any w pv h, q _ G H (Le.refl _) w rfl⟩
end
/-! a slot told otherwise -/
section
variable {K : Frag} {W : WX} {ωe : List Ent} {X : Type} {Γ : Gm} {ω : List Ent} {Z : ZF K W ωe X} {u : TS}
theorem Go.tell {i : Nat} {m m' : MP} {x : Res X} (hi : Γ[i]? = some (some m)) (imp : ∀ G v, m.p G v → m'.p G v) (k : Go u (Γ.set i (some m')) ω Z x) : Go u Γ ω Z x := fun σ G H D rp w z => by
  refine k σ G H D ⟨by rw [List.length_set]; exact rp.1, fun j n e => ?_⟩ w z
  by_cases c : i = j
  · subst c
    rw [List.getElem?_set_self (List.getElem?_eq_some_iff.mp hi).1] at e
    cases e
    obtain ⟨v, a, b⟩ := rp.2 i m hi
    exact ⟨v, a, imp G v b⟩
  · rw [List.getElem?_set_ne c] at e
    exact rp.2 j n e
end
end Lf

namespace Lf
open PySem PySem.Spec PyProof.Rows L2
open PySem.W (Frag)
section
variable {α : Type} [t : Shw α]
theorem shw_all {K : Frag} {G H : Hp} {ω : List Ent} (w : At G ω H) : ∀ {vs : List V} {xs : List (Option α)}, All K G vs xs → DpAll K H vs (xs.map (Shw.d (α := Option α)))
  | _, _, .nil => .nil
  | _, _, .cons r l => .cons (Shw.dp w r) (shw_all w l)
theorem shw_lay : ∀ xs : List (Option α), PyData.canLayAll0 (xs.map (Shw.d (α := Option α))) = true
  | [] => by simp only [List.map_nil, PyData.canLayAll0]
  | x :: xs => by
    have e := shw_lay xs
    simp only [List.map_cons, PyData.canLayAll0, e, Shw.lay x, Bool.and_self]
theorem shw_dep : ∀ xs : List (Option α), PyData.depthAll (xs.map (Shw.d (α := Option α))) ≤ t.deep + 1
  | [] => by simp only [List.map_nil, PyData.depthAll]; omega
  | x :: xs => by
    have e := shw_dep xs
    have d : (Shw.d (α := Option α) x).depth ≤ t.deep := Shw.dep x
    simp only [List.map_cons, PyData.depthAll]
    omega
instance : Shw (List (Option α)) where
  d xs := .list (xs.map (Shw.d (α := Option α)))
  dp w h := by
    obtain ⟨a, vs, rfl, e, ha, _⟩ := h
    exact .lst (RC.sq_of (w.lst e)) (shw_all w ha)
  lay xs := by
    simp only [PyData.canLay0, shw_lay xs]
  deep := t.deep + 2
  dep xs := by
    have := shw_dep xs
    show (PyData.list (xs.map (Shw.d (α := Option α)))).depth ≤ t.deep + 2
    simp only [PyData.depth]
    omega
end
end Lf
/-! ## Readings told by plain data: while -/
namespace Lf
open PySem PySem.Spec PyProof.Rows L2
open PySem.W (Frag)
/-- a while that is left by its test alone: it is asked at most n times -/
def Res.whl {S : Type} (c : S → Option Bool) (f : S → Res S) : Nat → S → Res S
  | 0, _ => .bad
  | n + 1, s => Res.req (c s) fun b => if b then Res.bind (f s) (Res.whl c f n) else .ok s
section
variable {K : Frag} {W : WX} {ωe : List Ent} {S : Type} {Γ : Gm} {ω : List Ent} {fn : S → Gm × List Ent}
theorem Go.whN {tc : TT} {tb : TS} {c : S → Option Bool} {f : S → Res S} {n : Nat} {s0 : S} (h0 : Sub Γ (fn s0).1) (d0 : Dr ω (fn s0).2) (ht : ∀ s b, c s = some b → EvT tc (fn s).1 (fn s).2 (fn s).2 b) (hb : ∀ s, Go tb (fn s).1 (fn s).2 (zN K W ωe fn) (f s)) :
    Go (tWhile tc tb) Γ ω (zN K W ωe fn) (Res.whl c f n s0) := fun σ G H D rp w z => by
  refine ⟨fun m σ' H' => ∃ s G', Le G G' ∧ Reps G' σ' (fn s).1 ∧ At G' (fn s).2 H' ∧ Res.whl c f m s = Res.whl c f n s0, ⟨n, s0, G, Le.refl _, rp.sub h0, d0.at w, rfl⟩, ?_⟩
  rintro m σ' H' ⟨s, G', sG, r', w', ef⟩
  cases m with
  | zero => exact absurd ef.symm z.1
  | succ m =>
    cases hc : c s with
    | none =>
      refine absurd (ef.symm.trans ?_) z.1
      show Res.req (c s) _ = _
      rw [hc]
      rfl
    | some b =>
      have ef2 : (if b then Res.bind (f s) (Res.whl c f m) else .ok s) = Res.whl c f n s0 := by
        rw [← ef]
        show _ = Res.req (c s) _
        rw [hc]
        rfl
      refine ht s b hc σ' G' H' _ r' w' fun G2 H2 s2 w2 => ?_
      cases b with
      | false => exact (if_neg (fun q => Bool.noConfusion q)).mpr (z.2.1 s ef2.symm σ' G2 H2 (sG.trans s2) (r'.mono s2) w2)
      | true =>
        refine (if_pos rfl).mpr ⟨fun σ3 H3 => ∃ s3 G3, Le G G3 ∧ Reps G3 σ3 (fn s3).1 ∧ At G3 (fn s3).2 H3 ∧ Res.whl c f m s3 = Res.whl c f n s0, fun σ3 H3 q => ⟨m, Nat.lt_succ_self m, q⟩, ?_⟩
        have ef3 : Res.bind (f s) (Res.whl c f m) = Res.whl c f n s0 := ef2
        refine hb s σ' G2 H2 _ (r'.mono s2) w2 ⟨fun q => ?_, fun s5 q σ5 G5 H5 s5' r5 w5 => ?_, fun e q => ?_⟩
        · rw [q] at ef3
          exact z.1 ef3.symm
        · rw [q] at ef3
          exact ⟨s5, G5, sG.trans (s2.trans s5'), r5, w5, ef3⟩
        · rw [q] at ef3
          exact PostE.mono (sG.trans s2) (z.2.2 e ef3.symm)
end
end Lf
/-! ## Readings told by plain data: what may be None compared; membership of data -/
namespace Lf
open PySem PySem.Spec PyProof.Rows L2
open PySem.W (Frag)
instance : Fl (Option Int) where
  v := fun o => match o with
    | none => .non
    | some i => .int i
  of {K H u x} h := by
    cases x with
    | none => exact h
    | some i => exact h.1
  dec := inferInstance
  sc x y := by cases x <;> cases y <;> rfl
  eqv x y := by
    cases x with
    | none =>
      cases y with
      | none => exact ⟨fun _ => rfl, fun _ => rfl⟩
      | some j => exact ⟨fun h => V.noConfusion h, fun h => by cases h⟩
    | some i =>
      cases y with
      | none => exact ⟨fun h => V.noConfusion h, fun h => by cases h⟩
      | some j => exact ⟨fun h => congrArg some (V.int.inj h), fun h => by cases h; rfl⟩
instance : Dat Bool where
  d := .bool
  dp _ h := by
    cases h
    exact .bl _
  lay _ := by simp [PyData.canLay0]
  deep := 0
  dep _ := by simp [PyData.depth]
  dec := inferInstance
  eqv x y := by cases x <;> cases y <;> simp [PyData.eqv]
/-- what is never None -/
class Off (α : Type) [t : Dat α] : Prop where
  l : ∀ x : α, PyData.eqv .none (t.d x) = false
  r : ∀ x : α, PyData.eqv (t.d x) .none = false
instance : Off Int := ⟨fun _ => by simp [Dat.d, PyData.eqv], fun _ => by simp [Dat.d, PyData.eqv]⟩
instance : Off Bool := ⟨fun _ => by simp [Dat.d, PyData.eqv], fun _ => by simp [Dat.d, PyData.eqv]⟩
instance {α β : Type} [Dat α] [Dat β] : Off (α × β) := ⟨fun _ => by simp [Dat.d, PyData.eqv], fun _ => by simp [Dat.d, PyData.eqv]⟩
instance {α : Type} [Dat α] : Off (List α) := ⟨fun _ => by simp [Dat.d, PyData.eqv], fun _ => by simp [Dat.d, PyData.eqv]⟩
instance {α : Type} [Dat α] : Off (Tu α) := ⟨fun _ => by simp [Dat.d, PyData.eqv], fun _ => by simp [Dat.d, PyData.eqv]⟩
def datO {α : Type} [t : Dat α] : Option α → PyData
  | none => .none
  | some x => t.d x
instance {α : Type} [t : Dat α] [n : Off α] : Dat (Option α) where
  d := datO
  dp {K G H ω v x} w h := match x, h with
    | none, h => by
      cases h
      exact .non
    | some x, h => t.dp w h.1
  lay x := match x with
    | none => by simp [datO, PyData.canLay0]
    | some x => t.lay x
  deep := t.deep
  dep x := match x with
    | none => by simp [datO, PyData.depth]
    | some x => t.dep x
  dec := letI := t.dec; inferInstance
  eqv x y := by
    letI := t.dec
    cases x with
    | none =>
      cases y with
      | none => simp [datO, PyData.eqv]
      | some y =>
        show PyData.eqv .none (t.d y) = _
        rw [n.l, decide_eq_false (fun h => by cases h)]
    | some x =>
      cases y with
      | none =>
        show PyData.eqv (t.d x) .none = _
        rw [n.r, decide_eq_false (fun h => by cases h)]
      | some y =>
        show PyData.eqv (t.d x) (t.d y) = _
        rw [t.eqv]
        exact decide_eq_decide.mpr ⟨fun h => congrArg some h, Option.some.inj⟩
theorem any_mem {α : Type} [t : Dat α] (x : α) : ∀ xs : List α, ((xs.map t.d).any fun z => PyData.eqv z (t.d x)) = true ↔ x ∈ xs
  | [] => by simp
  | y :: xs => by
    rw [List.map_cons, List.any_cons, Bool.or_eq_true_iff, any_mem x xs, t.eqv, List.mem_cons]
    refine ⟨fun h => ?_, fun h => ?_⟩
    · rcases h with h | h
      · exact .inl (@of_decide_eq_true _ (t.dec y x) h).symm
      · exact .inr h
    · rcases h with h | h
      · exact .inl (@decide_eq_true _ (t.dec y x) h.symm)
      · exact .inr h
section
variable {K : Frag} {ω : List Ent} {a b : MP} {α : Type} [t : Dat α]
theorem OpX.inA {x : α} {xs : List α} [dc : Decidable (x ∈ xs)] (ha : DtAt K ω a x) (hb : DtAt K ω b xs) (h : t.deep ≤ 63) : OpX (rInD K) ω ω a b (is K (decide (x ∈ xs))) := fun G H u v Q w p1 p2 q => by
  have hl : Dat.deep (List α) ≤ 64 := Nat.succ_le_succ h
  refine ⟨t.d x, xs.map t.d, ha G H u w p1, hb G H v w p2, Dat.shaped (Nat.le_succ_of_le h) x, Dat.shaped hl xs, q _ G H (Le.refl _) w ?_⟩
  refine congrArg _ ?_
  have := any_mem x xs
  by_cases c : x ∈ xs
  · rw [this.mpr c, decide_eq_true c]
  · rw [decide_eq_false c]
    cases e : (xs.map t.d).any fun z => PyData.eqv z (t.d x) with
    | true => exact absurd (this.mp e) c
    | false => rfl
theorem OpX.niA {x : α} {xs : List α} [dc : Decidable (x ∈ xs)] (ha : DtAt K ω a x) (hb : DtAt K ω b xs) (h : t.deep ≤ 63) : OpX (rNotInD K) ω ω a b (is K (!decide (x ∈ xs))) := fun G H u v Q w p1 p2 q => by
  have hl : Dat.deep (List α) ≤ 64 := Nat.succ_le_succ h
  refine ⟨t.d x, xs.map t.d, ha G H u w p1, hb G H v w p2, Dat.shaped (Nat.le_succ_of_le h) x, Dat.shaped hl xs, q _ G H (Le.refl _) w ?_⟩
  refine congrArg _ ?_
  have := any_mem x xs
  by_cases c : x ∈ xs
  · rw [this.mpr c, decide_eq_true c]
  · rw [decide_eq_false c]
    cases e : (xs.map t.d).any fun z => PyData.eqv z (t.d x) with
    | true => exact absurd (this.mp e) c
    | false => rfl
end
end Lf
instance : Lf.Ord1 (List Int) where
  alike xs := by
    constructor
    · intro x hx y hy
      obtain ⟨a, _, rfl⟩ := List.mem_map.mp hx
      obtain ⟨b, _, rfl⟩ := List.mem_map.mp hy
      show PySem.W.alike (.list _) (.list _) = true
      rw [PySem.W.alike]
      exact PySem.W.alike_ints a b
    · intro x hx e
      obtain ⟨a, _, rfl⟩ := List.mem_map.mp hx
      cases e
/-- a pair of one kind, walked over -/
theorem Lf.EvX.tuOf {K : PySem.W.Frag} {Γ : Lf.Gm} {ω ω1 : List Lf.Ent} {te : L2.TE} {α : Type} [Lf.Rp α] {x : α × α} (h : Lf.EvX te Γ ω ω1 (Lf.is K x)) : Lf.EvX te Γ ω ω1 (Lf.is K (Lf.Tu.mk [x.1, x.2])) := h.as fun G v p => by
  obtain ⟨a, u, v, rfl, e, h1, h2⟩ := p
  exact ⟨a, _, rfl, e, .cons h1 (.cons h2 .nil), by show 2 ≤ PySem.sizeLine; decide⟩
/-- a, b, c = e1, e2, e3 -/
theorem Lf.Go.parS {K : PySem.W.Frag} {W : L2.WX} {ωe : List Lf.Ent} {X : Type} {Γ : Lf.Gm} {ω ω1 : List Lf.Ent} {Z : Lf.ZF K W ωe X} {u : L2.TS} {i j l : Nat} {tA : L2.TA} {a b c : Lf.MP} {x : Lf.Res X} (h : Lf.EvA tA Γ ω ω1 [a, b, c]) (k : Lf.Go u (((Γ.set i (some a)).set j (some b)).set l (some c)) ω1 Z x) : Lf.Go (L2.tSeq (L2.tPar3 i j l tA) u) Γ ω Z x := fun σ G H D rp w z => h σ G H _ rp w fun vs G2 H2 s w2 p => by
  cases p with
  | cons p1 q =>
    cases q with
    | cons p2 q =>
      cases q with
      | cons p3 q =>
        cases q
        exact ⟨_, _, _, rfl, k _ G2 H2 D ((((rp.mono s).set p1).set p2).set p3) w2 (Z.mono s z)⟩
theorem _root_.L2.Room.units65 {k : Nat} {A : PySem.Around} (r : L2.Room k A) : A.units + 65 < PySem.cLine := by
  have := r.un
  omega
/-! ## Readings told by plain data: a < b < c; list(range(a, b)) -/
namespace Lf
open PySem PySem.Spec PyProof.Rows L2
open PySem.W (Frag)
section
variable {K : Frag} {Γ : Gm} {ω ω1 ω2 ω3 : List Ent} {ta tb tc : TE} {r r' : R2} {a b c : MP} {x y : Bool}
/-- a chain of two comparisons: the second is asked if the first holds -/
theorem EvT.chain (ha : EvX ta Γ ω ω a) (hb : EvX tb Γ ω ω b) (hr : OpX r ω ω a b (is K x)) (hc : EvX tc Γ ω ω c) (hr' : OpX r' ω ω b c (is K y)) : EvT (tTest (tChain r r' ta tb tc)) Γ ω ω (x && y) := fun σ G H Q rp w q => by
  refine ha σ G H _ rp w fun u G1 H1 s1 w1 p1 => hb σ G1 H1 _ (rp.mono s1) w1 fun v G2 H2 s2 w2 p2 => hr G2 H2 u v _ w2 (a.mono s2 p1) p2 fun t G3 H3 s3 w3 p3 => ?_
  cases (show t = .bl x from p3)
  refine ⟨x, rfl, ?_⟩
  cases x with
  | false => exact (if_neg (fun z => Bool.noConfusion z)).mpr ⟨false, rfl, q G3 H3 (s1.trans (s2.trans s3)) w3⟩
  | true =>
    refine (if_pos rfl).mpr (hc σ G3 H3 _ (rp.mono (s1.trans (s2.trans s3))) w3 fun z G4 H4 s4 w4 p4 => hr' G4 H4 v z _ w4 (b.mono (s3.trans s4) p2) p4 fun t' G5 H5 s5 w5 p5 => ?_)
    cases (show t' = .bl y from p5)
    exact ⟨y, rfl, q G5 H5 (s1.trans (s2.trans (s3.trans (s4.trans s5)))) w5⟩
theorem EvF.lrng {i j : Int} {xs : List Int} (hi : EvX ta Γ ω ω1 (is K i)) (hj : EvX tb Γ ω1 ω2 (is K j)) (e : irng i j = some xs) : EvF (tLstRg (tRg2 ta tb)) Γ ω ω2 (olst K xs) := fun σ G H Q rp w q => hi σ G H _ rp w fun u G1 H1 s1 w1 p1 => hj σ G1 H1 _ (rp.mono s1) w1 fun v G2 H2 s2 w2 p2 => by
  cases (show u = .int i from p1)
  cases (show v = .int j from p2)
  unfold irng at e
  split at e
  · rename_i c
    cases e
    have len := c.2.2.2.2
    rw [sizeLine_eq] at len
    have vs : rgV i j = ((List.range (j - i).toNat).map fun (k : Nat) => i + (k : Int)).map V.int := by
      unfold rgV
      rw [List.map_map]
      rfl
    refine ⟨i, j, rfl, rfl, ⟨by omega, by omega, by omega, by omega, by omega⟩, fun p hp => ?_⟩
    rw [vs]
    exact q p G2 _ (s1.trans s2) (newL w2 hp (all_ints _) (by rw [List.length_map, List.length_range]; exact c.2.2.2.2))
  · cases e
end
end Lf
theorem Lf.CaX.lenP {K : PySem.W.Frag} {ω : List Lf.Ent} {α β : Type} [Lf.Rp α] [Lf.Rp β] {x : α × β} : Lf.CaX (Evl.rLenS K) ω ω [Lf.is K x] (Lf.is K (2 : Int)) := fun G H vs Q w pa q => by
  obtain ⟨v, rfl, a, y, z, rfl, e, _, _⟩ := Lf.PArgs.one pa
  exact ⟨a, [y, z], rfl, .inr (RC.st_of (w.tup e)), q _ G H (Lf.Le.refl _) w rfl⟩
instance {α β : Type} [Lf.Rp α] [Lf.Rp β] : Lf.PyT (α × β) := { t := "tuple", ty := fun w ⟨a, x, y, e, h, _⟩ => by subst e; exact .base (.tup (w.tup h)) }
/-! ## Readings told by plain data: any values asked and compared -/
namespace Lf
open PySem PySem.Spec PyProof.Rows L2
open PySem.W (Frag)
open He (ga)
/-- is it of this built-in kind -/
def PV.isTy (c : String) : PV → Bool
  | .non => false
  | .bl _ => c == "bool" || c == "int"
  | .int _ => c == "int"
  | .str _ => c == "str"
  | .lst _ => c == "list"
  | .tup _ => c == "tuple"
  | .edict => c == "dict"
  | .roll _ _ => false
def PV.asI : PV → Option Int
  | .int i => some i
  | _ => none
def PV.asS : PV → Option Str
  | .str s => some s
  | _ => none
def PV.asL : PV → Option (List PV)
  | .lst xs => if xs.length ≤ sizeLine then some xs else none
  | _ => none
instance {α : Type} [t : ToPV α] : ToPV (Option α) where
  of := fun o => match o with
    | none => .non
    | some x => t.of x
  conv {K G v o} h := match o, h with
    | none, h => by
      cases h
      exact .non
    | some x, h => t.conv h.1
instance {α β : Type} [t : ToPV α] [s : ToPV β] : ToPV (α × β) where
  of := fun p => .tup [t.of p.1, s.of p.2]
  conv {K G v p} h := by
    obtain ⟨a, x, y, rfl, e, h1, h2⟩ := h
    exact .tup e (.cons (t.conv h1) (.cons (s.conv h2) .nil))
section
variable {K : Frag} {Γ : Gm} {ω ω1 ω2 : List Ent} {te to : TE} {a b : MP}
theorem allOf {G : Hp} : ∀ {vs : List V} {xs : List PV}, AnyL K G vs xs → All K G vs xs
  | _, _, .nil => .nil
  | _, _, .cons h t => .cons h (allOf t)
theorem asI_imp {x : PV} {i : Int} (e : x.asI = some i) (G : Hp) (v : V) (p : (is K x).p G v) : (is K i).p G v := by
  cases x with
  | int j =>
    cases e
    cases (show AnyV K G v (.int i) from p)
    rfl
  | _ => cases e
theorem asS_imp {x : PV} {i : Str} (e : x.asS = some i) (G : Hp) (v : V) (p : (is K x).p G v) : (is K i).p G v := by
  cases x with
  | str j =>
    cases e
    cases (show AnyV K G v (.str i) from p)
    rfl
  | _ => cases e
theorem asL_imp {x : PV} {xs : List PV} (e : x.asL = some xs) (G : Hp) (v : V) (p : (is K x).p G v) : (is K xs).p G v := by
  cases x with
  | lst ys =>
    unfold PV.asL at e
    dsimp only at e
    split at e
    · rename_i l
      cases e
      cases (show AnyV K G v (.lst xs) from p) with
      | lst hh pp => exact ⟨_, _, rfl, hh, allOf pp, l⟩
    · cases e
  | _ => cases e
theorem EvX.asI {x : PV} {i : Int} (h : EvX te Γ ω ω1 (is K x)) (e : x.asI = some i) : EvX te Γ ω ω1 (is K i) := h.as (asI_imp e)
theorem EvX.asS {x : PV} {i : Str} (h : EvX te Γ ω ω1 (is K x)) (e : x.asS = some i) : EvX te Γ ω ω1 (is K i) := h.as (asS_imp e)
theorem EvX.asL {x : PV} {xs : List PV} (h : EvX te Γ ω ω1 (is K x)) (e : x.asL = some xs) : EvX te Γ ω ω1 (is K xs) := h.as (asL_imp e)
/-! == of any values -/
def eqV (x y : PV) : Option Bool := match x.d, y.d with
  | some a, some b => if SeqAt.shaped a && SeqAt.shaped b then some (PyData.eqv a b) else none
  | _, _ => none
theorem eqV_inv {x y : PV} {r : Bool} (h : eqV x y = some r) : ∃ c d, x.d = some c ∧ y.d = some d ∧ SeqAt.shaped c = true ∧ SeqAt.shaped d = true ∧ PyData.eqv c d = r := by
  unfold eqV at h
  split at h
  · rename_i c d ec ed
    split at h
    · rename_i s
      cases h
      rw [Bool.and_eq_true] at s
      exact ⟨c, d, ec, ed, s.1, s.2, rfl⟩
    · cases h
  · cases h
theorem OpX.eqV {x y : PV} {r : Bool} (h : Lf.eqV x y = some r) : OpX (rEqD K) ω ω (is K x) (is K y) (is K r) := fun G H u v Q w p1 p2 q => by
  obtain ⟨c, d, ec, ed, sc, sd, e⟩ := eqV_inv h
  refine ⟨c, d, any_dp w p1 ec, any_dp w p2 ed, sc, sd, q _ G H (Le.refl _) w ?_⟩
  show V.bl _ = V.bl _
  rw [e]
theorem OpX.neV {x y : PV} {r : Bool} (h : Lf.eqV x y = some r) : OpX (rNeD K) ω ω (is K x) (is K y) (is K (!r)) := fun G H u v Q w p1 p2 q => by
  obtain ⟨c, d, ec, ed, sc, sd, e⟩ := eqV_inv h
  refine ⟨c, d, any_dp w p1 ec, any_dp w p2 ed, sc, sd, q _ G H (Le.refl _) w ?_⟩
  show V.bl _ = V.bl _
  rw [e]
/-! the first place of an item -/
def idxL {α : Type} [DecidableEq α] (xs : List α) (y : α) : Option Int := (xs.findIdx? fun z => decide (z = y)).map fun (j : Nat) => (j : Int)
theorem EvX.index {α : Type} [t : Dat α] [DecidableEq α] {xs : List α} {y : α} {j : Int} (ht : EvX to Γ ω ω1 (is K xs)) (h : EvX te Γ ω1 ω2 (is K y)) (e : idxL xs y = some j) (hd : t.deep ≤ 63) : EvX (tBM K "list" (rIndexD K) to (tCons te tNil)) Γ ω ω2 (is K j) := fun σ G H Q rp w q => ht σ G H _ rp w fun v G1 H1 s1 w1 p1 => by
  obtain ⟨p, us, rfl, ea, ha, l⟩ := p1
  refine ⟨.inl ⟨rfl, _, RC.sq_of (w1.lst ea)⟩, h σ G1 H1 _ (rp.mono s1) w1 fun v G2 H2 s2 w2 p2 => ?_⟩
  unfold idxL at e
  obtain ⟨i, ei, ej⟩ := Option.map_eq_some_iff.mp e
  obtain ⟨li, ci, no⟩ := List.findIdx?_eq_some_iff_getElem.mp ei
  have hl : Dat.deep (List α) ≤ 64 := Nat.succ_le_succ hd
  have px : Rp.rep K G2 (.ref p) xs := Rp.mono s2 ⟨p, us, rfl, ea, ha, l⟩
  refine ⟨p, v, t.d y, xs.map t.d, i, t.d xs[i], rfl, rfl, Dat.dp w2 px, t.dp w2 p2, Dat.shaped hl xs, Dat.shaped (Nat.le_succ_of_le hd) y, ?_, ?_, fun m z' hm hz => ?_, q _ G2 H2 (s1.trans s2) w2 (by show V.int _ = V.int _; rw [← ej])⟩
  · rw [List.getElem?_map, List.getElem?_eq_getElem li]
    rfl
  · rw [t.eqv]
    exact @decide_eq_true _ (t.dec _ _) (of_decide_eq_true ci)
  · rw [List.getElem?_map, List.getElem?_eq_getElem (by omega)] at hz
    cases hz
    rw [t.eqv]
    exact @decide_eq_false _ (t.dec _ _) fun c => no m hm (decide_eq_true c)
end
end Lf
/-! ## calls by keywords alone -/
namespace RC
open PySem PySem.Spec PyProof.Rows L2
/-- these of the values, in this order -/
def pick {α : Type} (p : List Nat) (zs : List α) : List α := p.filterMap fun i => zs[i]?
theorem vals_get : ∀ {vs : List V} {us : List Value}, Vals vs us → ∀ i : Nat, (vs[i]? = none ∧ us[i]? = none) ∨ ∃ v u, vs[i]? = some v ∧ us[i]? = some u ∧ RelV v u
  | _, _, .nil, i => .inl ⟨rfl, rfl⟩
  | _, _, .cons r _, 0 => .inr ⟨_, _, rfl, rfl, r⟩
  | _, _, .cons _ t, i + 1 => vals_get t i
theorem pick_vals {vs : List V} {us : List Value} (r : Vals vs us) : ∀ p : List Nat, Vals (pick p vs) (pick p us)
  | [] => .nil
  | i :: p => by
    have h := pick_vals r p
    rcases vals_get r i with ⟨a, b⟩ | ⟨v, u, a, b, rv⟩
    · unfold pick at h ⊢
      rw [List.filterMap_cons_none a, List.filterMap_cons_none b]
      exact h
    · unfold pick at h ⊢
      rw [List.filterMap_cons_some a, List.filterMap_cons_some b]
      exact .cons rv h
theorem pick_rel {vs zs : List V} {us ws : List Value} (r : Vals vs us) (p : List Nat) (q : Vals zs ws) : Vals (vs ++ pick p zs) (us ++ pick p ws) := r.append (pick_vals q p)
section
variable {K : PySem.W.Frag} {x qual : Str} {params : Arguments} {body : List Stmt} {scope : Scope} {f : Addr} {fd : FuncData} {ps : List Str}
theorem kb_of (F : FunD K x qual params body scope [] [] f fd) {n : Nat} {ks : List Str} {p : List Nat}
    (h : ∀ (kV doc pm : Value) (an : Option Addr) (cdv ct : Value) (us ws : List Value), us.length = n → ws.length = ks.length → bindArgs (PySem.W.fnOf x qual params body scope .none kV doc pm an cdv ct) ⟨us, ks.zip ws⟩ = pure (ps.zip (us ++ pick p ws))) :
    KBn K fd ps n ks (fun us ws => us ++ pick p ws) (fun vs zs => vs ++ pick p zs) where
  rel a b := pick_rel a p b
  to s us ws _ l1 l2 := by
    have ⟨_, _, _, kv, dc, pm, an, cd, ct, _, made, _, _, dfl, _⟩ := F.ex
    subst made
    match dfl with
    | .inl ⟨_, none_⟩ =>
      subst none_
      exact .of_eq (h kv dc pm an cd ct us ws l1 l2)
    | .inr ⟨some_, _⟩ => exact absurd rfl some_
end
/-- the keywords' values, put in the parameters' order -/
def tPick (p : List Nat) (m : Nat) (tk : TA) : TA := fun σ H Q => tk σ H fun zs H1 => zs.length = m ∧ Q (pick p zs) H1
/-- how a call by keywords alone is written: each has a name, these are the names, nothing is starred -/
structure Named (X : Cx) (at_ : Pos) (kws : List Keyword) (ks : List Str) : Prop where
  each : List.all (backToKw at_ (keywordEach kws X.env)) (fun q => q.1.isSome) = true
  names : List.filterMap (fun q => q.1) (backToKw at_ (keywordEach kws X.env)) = ks
  plain : (List.any (backTo at_ (starEach [] X.env)) (fun q => q.1) || List.any (backToKw at_ (keywordEach kws X.env)) fun q => q.1.isNone) = false
section
variable {X : Cx} {CX : CXT} {n : Nat} {fn C : Addr} {fd : FuncData} {ps ks : List Str} {sp : Sp} {E : XK} {id mn : Str} {p1 p2 p3 : Pos} {obj : Expr} {kws : List Keyword} {ta : TE} {tk : TA} {pi : List Nat}
/-- the values, then what stands behind them -/
theorem kw_run (kw : PK X kws tk) (N : Named X p2 kws ks) {f : Value} {first : List Value} {pins : List (Addr × Obj)} {σ : L2.St} {H : Hp} {s : Shared} {Q : Value → Shared → Prop} {T : List V → Hp → Prop} (I : Inv X pins σ H s) (keep : PySem.W.keepIn X.K f = true) (h : tk σ H T)
    (go : ∀ ws zs s2 H2, Inv X pins σ H2 s2 → Vals zs ws → T zs H2 → wpAny (model X.prog X.w) X.A (call f (first ++ []) (ks.zip ws)) Q X.xe s2) :
    wpAny (model X.prog X.w) X.A (callWith p2 f first (backTo p2 (starEach [] X.env)) (backToKw p2 (keywordEach kws X.env))) Q X.xe s := by
  have run := kw.run p2 pins s σ H T I h
  exact PySem.W.callWith_KW0 (h₀ := X.base) I.ok.mod.kin keep N.each (thn run fun ws s2 ⟨zs, H2, J, r, t⟩ => ⟨J.kIn, N.names.symm ▸ go ws zs s2 H2 J r t⟩) N.plain
/-- f(k = v, ..) -/
theorem pe_fnK (F : FnOk X.prog X.w X.K X.mg X.base CX n fn fd ps sp) (room : Room n X.A) (gl : Gl X id) (here : X.mg id = some (.ref fn)) (keep : PySem.W.keepIn X.K (.ref fn) = true) (kb : KBn X.K fd ps 0 ks (fun us ws => us ++ pick pi ws) (fun vs zs => vs ++ pick pi zs)) (pass : Passes CX X E) (kw : PK X kws tk)
    (N : Named X p2 kws ks := by exact ⟨by rfl, by rfl, by rfl⟩) (db : (id == ("__debug__" : Str)) = false := by decide) : PE X (.Call (.Name id p1) [] kws p2) (tCall sp [] E (tPick pi ks.length tk)) where
  run pins s σ H Q I h := wpAny_Call_Name_kw (ld_glob I gl here (kw_run kw N I keep h fun ws zs s2 H2 J r t => by
    have t2 : sp (pick pi zs ++ []) H2 Q E := t.2
    rw [List.append_nil] at t2
    exact run_fnN (us := []) (vs := []) F room kb pass J .nil r rfl t.1 t2) db)
/-- o.m(k = v, ..) -/
theorem pe_methK {pl : Sem Bool} (he : PE X obj ta) (cl : Cls X.K C) (me : Meth X.K C mn fn) (F : FnOk X.prog X.w X.K X.mg X.base CX n fn fd ps sp) (room : Room n X.A) (kb : KBn X.K fd ps 1 ks (fun us ws => us ++ pick pi ws) (fun vs zs => vs ++ pick pi zs)) (pass : Passes CX X E) (kw : PK X kws tk)
    (N : Named X p2 kws ks := by exact ⟨by rfl, by rfl, by rfl⟩)
    (way : eval (.Call (.Attribute obj mn p3) [] kws p2) X.env = (do
      let o ← eval obj X.env
      standAt p3.atName
      let (m, own) ← holding [o] (getMethod o mn pl)
      callWith p2 m own (backTo p2 (starEach [] X.env)) (backToKw p2 (keywordEach kws X.env))) := by rfl) :
    PE X (.Call (.Attribute obj mn p3) [] kws p2) (tMeth C mn sp [] E ta (tPick pi ks.length tk)) where
  run pins s σ H Q I h := PySem.W.methodCall_KW (pl := pl) (thn (he.run pins s σ H _ I h) fun u s1 ⟨y, H1, I1, ry, a, dx, fs, ey, ea, none_, q⟩ => by
    subst ey
    have same : u = .ref a := ry
    subst same
    exact getmeth_ok I1 ea cl me none_ (kw_run (first := [.ref a]) kw N I1 me.kp q fun ws zs s2 H2 J r t => by
      have t2 : sp (.ref a :: (pick pi zs ++ [])) H2 Q E := t.2
      rw [List.append_nil] at t2
      exact run_fnN (us := [.ref a]) (vs := [.ref a]) F room kb pass J (.cons rfl .nil) r rfl t.1 t2)) way
/-- C(k = v, ..) -/
theorem pe_makeK (M : Mk X.K C fn) (F : FnOk X.prog X.w X.K X.mg X.base CX n fn fd ps sp) (room : Room (n + 1) X.A) (gl : Gl X id) (here : X.mg id = some (.ref C)) (kb : KBn X.K fd ps 1 ks (fun us ws => us ++ pick pi ws) (fun vs zs => vs ++ pick pi zs)) (pass : Passes CX X E) (kw : PK X kws tk)
    (N : Named X p2 kws ks := by exact ⟨by rfl, by rfl, by rfl⟩) (db : (id == ("__debug__" : Str)) = false := by decide) : PE X (.Call (.Name id p1) [] kws p2) (tMake C sp [] E (tPick pi ks.length tk)) where
  run pins s σ H Q I h := wpAny_Call_Name_kw (ld_glob I gl here (kw_run kw N I M.kp h fun ws zs s2 H2 J r t => run_makeK (us := []) (vs := []) M F room kb pass J .nil r rfl t.1 fun y dx f1 f2 f3 => by
    have t2 : sp (.ref y :: (pick pi zs ++ [])) (upd (upd H2 dx (.own y)) y (.ins C dx [])) (fun v H3 => v = .non ∧ Q (.ref y) H3) E := t.2 y dx f1 f2 f3
    rw [List.append_nil] at t2
    exact t2) db)
end
end RC
/-! ## Readings told by plain data: keywords, comprehensions that change what is one's own, while True -/
namespace Lf
open PySem PySem.Spec PyProof.Rows L2
open PySem.W (Frag)
section
variable {K : Frag} {Γ : Gm} {ω ω1 : List Ent} {tk : TA}
theorem paired_get {A B : Type} {F : A → B → Prop} : ∀ {xs : List A} {ys : List B}, Paired F xs ys → ∀ i : Nat, (xs[i]? = none ∧ ys[i]? = none) ∨ ∃ x y, xs[i]? = some x ∧ ys[i]? = some y ∧ F x y
  | _, _, .nil, i => .inl ⟨rfl, rfl⟩
  | _, _, .cons r _, 0 => .inr ⟨_, _, rfl, rfl, r⟩
  | _, _, .cons _ t, i + 1 => paired_get t i
theorem paired_pick {A B : Type} {F : A → B → Prop} {xs : List A} {ys : List B} (h : Paired F xs ys) : ∀ p : List Nat, Paired F (RC.pick p xs) (RC.pick p ys)
  | [] => .nil
  | i :: p => by
    have ih := paired_pick h p
    unfold RC.pick at ih ⊢
    rcases paired_get h i with ⟨a, b⟩ | ⟨x, y, a, b, r⟩
    · rw [List.filterMap_cons_none a, List.filterMap_cons_none b]
      exact ih
    · rw [List.filterMap_cons_some a, List.filterMap_cons_some b]
      exact .cons r ih
theorem EvA.pick {p : List Nat} {m : Nat} {mk ms : List MP} (h : EvA tk Γ ω ω1 mk) (hl : mk.length = m) (e : RC.pick p mk = ms) : EvA (RC.tPick p m tk) Γ ω ω1 ms := fun σ G H Q r w q => h σ G H _ r w fun vs G2 H2 s2 w2 p2 => ⟨(Paired.len p2).trans hl, q _ G2 H2 s2 w2 (e ▸ paired_pick p2 p)⟩
end
/-! comprehensions that draw -/
def mapT {α β S : Type} (f : S → α → Option (S × β)) : List α → S → Option (S × List β)
  | [], s => some (s, [])
  | x :: xs, s => match f s x with
    | none => none
    | some a => match mapT f xs a.1 with
      | none => none
      | some b => some (b.1, a.2 :: b.2)
section
variable {K : Frag} {Γ : Gm} {ω : List Ent} {tt : TT} {te : TE} {α β S : Type} [Rp α] [Rp β]
theorem mapT_drop {f : S → α → Option (S × β)} {xs : List α} {i : Nat} {a : α} (h : xs[i]? = some a) (s : S) : mapT f (xs.drop i) s = match f s a with
    | none => none
    | some c => match mapT f (xs.drop (i + 1)) c.1 with
      | none => none
      | some b => some (b.1, c.2 :: b.2) := by
  rw [List.drop_eq_getElem_cons (List.getElem?_eq_some_iff.mp h).1, (List.getElem?_eq_some_iff.mp h).2]
  rfl
theorem EvX.pairS {f : S → List Ent} {ω1 : List Ent} {a : S} {y : β} {r : S × β} (h : EvX te Γ ω1 (f a) (is K y)) (e : (a, y) = r) : EvX te Γ ω1 (f r.1) (is K r.2) := by
  subst e
  exact h
theorem EvF.lcS {wi : TI} {g : TG} {vs : List Nat} {P : List Ent → Prop} {xs : List α} {s0 : S} {r : S × List β} {fb : S → α → Option (S × β)} {fo : S → List Ent} {Γb : α → Gm} (hi : IterX K wi Γ ω (fo s0) P xs) (hP : ∀ s p φ, P (.own p φ :: fo s)) (ht : TgW K g vs (wipeG Γ vs) Γb) (htt : ∀ Γ ω, EvT tt Γ ω ω true) (h : mapT fb xs s0 = some r)
    (hb : ∀ s a b p φ, fb s a = some b → EvX te (Γb a) (.own p φ :: fo s) (.own p φ :: fo b.1) (is K b.2)) : EvF (tLc wi g tt te vs) Γ ω (fo r.1) (olst K r.2) := fun σ G H Q rp w q => hi σ G H _ rp w fun J G2 H2 s2 w2 wk D hD => by
  have hl := wk.len
  refine ⟨fun i m H' => m = xs.length - i ∧ i ≤ xs.length ∧ ∃ s acc G' r', Le G2 G' ∧ At G' (.own D (olst K acc) :: fo s) H' ∧ acc.length ≤ i ∧ mapT fb (xs.drop i) s = some r' ∧ r'.1 = r.1 ∧ acc ++ r'.2 = r.2, ⟨xs.length, by simp, Nat.zero_le _, s0, [], G2, r, Le.refl _, newL w2 hD .nil (Nat.zero_le _), Nat.le_refl _, h, rfl, rfl⟩, ?_⟩
  rintro i m H' ⟨rfl, hle, s, acc, G', r', sG, w', la, ef, e1, ea⟩
  by_cases hlt : i < xs.length
  · have hx : xs[i]? = some xs[i] := List.getElem?_eq_getElem hlt
    rw [mapT_drop hx] at ef
    refine .inr ⟨wk.go G' _ H' i sG w' (hP _ _ _) hlt, fun H3 => ∃ s acc G3 r', Le G2 G3 ∧ At G3 (.own D (olst K acc) :: fo s) H3 ∧ acc.length ≤ i + 1 ∧ mapT fb (xs.drop (i + 1)) s = some r' ∧ r'.1 = r.1 ∧ acc ++ r'.2 = r.2, fun H3 q => ⟨xs.length - (i + 1), by omega, rfl, hlt, q⟩, fun x H3 y => ?_⟩
    obtain ⟨G3, s3, w3, px⟩ := wk.yld G' _ H' i x H3 _ sG w' (hP _ _ _) hx y
    have rw0 := (rp.mono (s2.trans (sG.trans s3))).wipe vs
    refine ht _ _ G3 H3 _ x _ rw0 w3 px fun σ4 l4 k4 r4 => ⟨?_, ?_⟩
    · refine (wipe_eq l4 k4).trans (wipe_eq (by rw [wipe_length]) fun i hi => ?_)
      rw [wipe_get, if_neg hi]
    · cases ho : fb s xs[i] with
      | none =>
        rw [ho] at ef
        cases ef
      | some b =>
        rw [ho] at ef
        refine htt _ _ σ4 G3 H3 _ r4 w3 fun G4 H4 s4 w4 => RC.if_t rfl ?_
        have ef' : (match mapT fb (xs.drop (i + 1)) b.1 with | none => none | some c => some (c.1, b.2 :: c.2)) = some r' := ef
        split at ef'
        · cases ef'
        · rename_i r2 e2
          cases ef'
          refine hb s _ b D (olst K acc) ho σ4 G4 H4 _ (r4.mono s4) w4 fun v G5 H5 s5 w5 p5 => ?_
          obtain ⟨o, eo, us, rfl, hu, _⟩ := w5.ownAt (k := 0) rfl
          have lu := Paired.len hu
          refine ⟨us, eo, by rw [lu]; omega, b.1, acc ++ [b.2], G5, r2, sG.trans (s3.trans (s4.trans s5)), ?_, by rw [List.length_append]; show acc.length + 1 ≤ _; omega, e2, e1, by rw [List.append_assoc]; exact ea⟩
          exact w5.put (k := 0) (φ' := olst K (acc ++ [b.2])) rfl ⟨_, rfl, Paired.app' hu (.cons p5 .nil), by rw [List.length_append]; show acc.length + 1 ≤ _; omega⟩
  · have e : i = xs.length := by omega
    subst e
    rw [List.drop_length] at ef
    cases ef
    rw [List.append_nil] at ea
    subst ea
    refine .inl ⟨wk.stop G' _ H' sG w' (hP _ _ _), q D G' H' (s2.trans sG) ?_⟩
    rw [← e1]
    exact w'
end
/-! while True, left by a return -/
def Res.whr {S R : Type} (f : S → Res (Ctl S R)) : Nat → S → Res R
  | 0, _ => .bad
  | n + 1, s => Res.bind (f s) fun c => match c with
    | .nx s' => Res.whr f n s'
    | .rt r => .ok r
section
variable {K : Frag} {W : WX} {ωe : List Ent} {S R : Type} {Γ : Gm} {ω : List Ent} {fn : S → Gm × List Ent} {fr : R → RS}
theorem Go.whr {e : Bool} {tc : TT} {tb : TS} {f : S → Res (Ctl S R)} {n : Nat} {s0 : S} (h0 : Sub Γ (fn s0).1) (d0 : Dr ω (fn s0).2) (ht : ∀ Γ ω, EvT tc Γ ω ω true) (hb : ∀ s, Go tb (fn s).1 (fn s).2 (zC K W ωe fn fr) (f s)) :
    Go (tWhile tc tb) Γ ω (zR K W ωe e fr) (Res.whr f n s0) := fun σ G H D rp w z => by
  refine ⟨fun m σ' H' => ∃ s G', Le G G' ∧ Reps G' σ' (fn s).1 ∧ At G' (fn s).2 H' ∧ Res.whr f m s = Res.whr f n s0, ⟨n, s0, G, Le.refl _, rp.sub h0, d0.at w, rfl⟩, ?_⟩
  rintro m σ' H' ⟨s, G', sG, r', w', ef⟩
  cases m with
  | zero => exact absurd ef.symm z.1
  | succ m =>
    refine ht _ _ σ' G' H' _ r' w' fun G2 H2 s2 w2 => (if_pos rfl).mpr ⟨fun σ3 H3 => ∃ s3 G3, Le G G3 ∧ Reps G3 σ3 (fn s3).1 ∧ At G3 (fn s3).2 H3 ∧ Res.whr f m s3 = Res.whr f n s0, fun σ3 H3 q => ⟨m, Nat.lt_succ_self m, q⟩, ?_⟩
    have ef3 : (Res.bind (f s) fun c => match c with
      | .nx s' => Res.whr f m s'
      | .rt r => .ok r) = Res.whr f n s0 := ef
    refine hb s σ' G2 H2 _ (r'.mono s2) w2 ⟨fun q => ?_, fun s5 q σ5 G5 H5 s5' r5 w5 => ?_, fun r5 q => ?_, fun x q => ?_⟩
    · rw [q] at ef3
      exact z.1 ef3.symm
    · rw [q] at ef3
      exact ⟨s5, G5, sG.trans (s2.trans s5'), r5, w5, ef3⟩
    · rw [q] at ef3
      exact RetPost.mono (sG.trans s2) (z.2.1 r5 ef3.symm)
    · rw [q] at ef3
      exact PostE.mono (sG.trans s2) (z.2.2.1 x ef3.symm)
end
end Lf
/-! ## What is new since a def's start: an item of a list handed out as one's own; len(set(xs)) -/
namespace Lf
open PySem PySem.Spec PyProof.Rows L2 SetL
open PySem.W (Frag)
/-! ### len of a set of ints -/
def rLenI (w : World) : List V → Hp → VK → Prop := fun vs H Q => ∃ (a : Addr) (S : Int → Bool) (n : Nat), vs = [V.ref a] ∧ H a = some (SetO w a S n) ∧
  ∀ ns : List Int, ns.Nodup → (∀ k : Int, k ∈ ns ↔ S k = true) → Q (.int ns.length) H
section
variable {X : Cx}
theorem cr_lenI : CallR X (.builtin "len") (rLenI X.w) := by
  intro pins s σ H vs us Q I r h
  obtain ⟨a, S, n, rfl, ha, q⟩ := h
  obtain ⟨o, es, ep, t, ho, hex, hd, _, nd, mem, few, hf, _, _⟩ := setO_get I ha
  rw [Vals.ref1 r]
  have e : (es.toList.map keyOf).length = es.size := by rw [List.length_map, Array.length_toList]
  refine call_len_set ho hex hd hf (by unfold scanBound at few; omega) ⟨.int ((es.toList.map keyOf).length : Nat), H, I.tok _, ⟨_, by rw [e]⟩, q _ nd fun k => (mem k).symm⟩
end
section
variable {K : Frag} {w : World} {Γ : Gm} {ω ω1 : List Ent} {tA : TA}
theorem CaX.lenI {s : ISet w} : CaX (rLenI w) ω ω [is K s] (is K ((sortU s.l).length : Int)) := fun G H vs Q wA pa q => by
  obtain ⟨v, rfl, p, S, n, rfl, e, m⟩ := PArgs.one pa
  refine ⟨p, S, n, rfl, wA.get e, fun ns nd mem => ?_⟩
  have m2 : ∀ k, k ∈ ns ↔ k ∈ sortU s.l := fun k => by rw [mem k, m k, sortU_mem]
  have nu : (sortU s.l).Nodup := (sortU_inc s.l).imp fun h => by omega
  have l1 := SetM.nodup_le nd fun x hx => (m2 x).mp hx
  have l2 := SetM.nodup_le nu fun x hx => (m2 x).mpr hx
  have e : ns.length = (sortU s.l).length := by omega
  rw [e]
  exact q _ G H (Le.refl _) wA rfl
theorem EvX.lenSetM {xs ys : List Int} (h : EvA tA Γ ω ω1 [is K xs]) (e : setFew xs = some ys) : EvX (tCB (rLenI w) (tCons (tCB (rSetM K w) tA) tNil)) Γ ω ω1 (is K (ys.length : Int)) := by
  unfold setFew at e
  split at e
  · rename_i c
    cases e
    exact EvX.ca (EvA.cons (EvX.ca h (CaX.setM (w := w) (few_of c))) EvA.nil) CaX.lenI
  · cases e
end
/-! ### sorted of a list of lists of ints -/
def rowLe (a b : V × List Int) : Bool := decide (a.2 ≤ b.2)
def rSortedL (K : Frag) : List V → Hp → VK → Prop := fun vs H Q => ∃ (a : Addr) (us : List V) (rows : List (List Int)), vs = [V.ref a] ∧ SqL K H a us ∧ DpAll K H us (rows.map fun r => PyData.list (r.map .int)) ∧ us.length ≤ sizeLine ∧
  ∀ p : Addr, H p = none → Q (.ref p) (upd H p (.lst (((us.zip rows).mergeSort rowLe).map (·.1))))
section
variable {X : Cx}
theorem zip_all {us : List V} {rows : List (List Int)} : us.length = rows.length → (us.zip rows).map (·.1) = us ∧ (us.zip rows).map (·.2) = rows := fun h => ⟨List.map_fst_zip (by omega), List.map_snd_zip (by omega)⟩
theorem dpall_len {K : Frag} {H : Hp} : ∀ {us : List V} {ds : List PyData}, DpAll K H us ds → us.length = ds.length
  | _, _, .nil => rfl
  | _, _, .cons _ t => by rw [List.length_cons, List.length_cons, dpall_len t]
theorem each_vals : ∀ {us : List V} {rows : List (List Int)} {its : List Value}, Vals us its → us.length = rows.length → PySem.W.EachIs (fun (u : Value) (p : V × List Int) => RelV p.1 u) its (us.zip rows)
  | [], [], _, .nil, _ => .nil
  | v :: us, r :: rows, _, .cons h t, l => .cons h (each_vals t (by simpa using l))
theorem vals_each : ∀ {ps : List (V × List Int)} {out : List Value}, PySem.W.EachIs (fun (u : Value) (p : V × List Int) => RelV p.1 u) out ps → Vals (ps.map (·.1)) out
  | _, _, .nil => .nil
  | _, _, .cons h t => .cons h (vals_each t)
theorem cr_sortedL (hr : Room 1 X.A) : CallR X (.builtin "sorted") (rSortedL X.K) := by
  intro pins s σ H vs us Q I r h
  obtain ⟨a, xs, rows, rfl, hs, hd, small, q⟩ := h
  obtain ⟨its, rv, hl, _⟩ := I.list hs
  rw [Vals.ref1 r]
  have len : xs.length = rows.length := by rw [dpall_len hd, List.length_map]
  obtain ⟨z1, z2⟩ := zip_all len
  have zl : (xs.zip rows).length = xs.length := by rw [List.length_zip]; omega
  obtain ⟨as, hr0⟩ := Dp.readsAll I _ xs its hd rv
  have em : rows.map (fun r => PyData.list (r.map .int)) = (xs.zip rows).map fun p => PyData.list (p.2.map .int) := by
    conv => lhs; rw [← z2]
    rw [List.map_map]
    rfl
  rw [em] at hr0
  have er := PySem.W.readsAll_each (fun p : V × List Int => PyData.list (p.2.map .int)) hr0
  have hu := hr.units
  refine PySem.W.sorted_data (enc := fun p : V × List Int => PyData.list (p.2.map .int)) hl.isList (each_vals rv len) er (.of fun b b' => ?_) (.others fun b => ⟨fun z => (by cases z), fun _ z => by cases z⟩) (by rw [zl]; exact small) (fun b _ => ?_) fun out ol eo => ?_
  · simp only [PySem.W.alike]
    exact PySem.W.alike_ints _ _
  · simp only [PyData.depth, PySem.W.depth_ints]
    omega
  · have ek : PySem.W.dataLe false (fun p : V × List Int => PyData.list (p.2.map .int)) = rowLe := PySem.W.dataLe_rows fun p : V × List Int => p.2
    rw [ek] at eo
    obtain ⟨c, hc⟩ := sortedAll_at s.heap its out.toArray
    exact ⟨.ref _, upd H (s.heap.objs.size + 1) (.lst (((xs.zip rows).mergeSort rowLe).map (·.1))), I.laid (t' := s.toks) (fun _ _ => sortedAll_old) (Nat.le_succ _) ⟨by rw [List.length_map, List.length_mergeSort, zl]; exact small, out, c, vals_each eo, hc⟩, rfl, q _ (I.hok.fresh (Nat.le_succ _))⟩
end
def sortR (xs : List (List Int)) : List (List Int) := xs.mergeSort fun a b => decide (a ≤ b)
theorem zip_rep {K : Frag} {G : Hp} {vs : List V} {ys : List (List Int)} (h : All K G vs ys) : ∀ p ∈ vs.zip ys, Rp.rep K G p.1 p.2 := by
  unfold All at h
  induction h with
  | nil =>
    intro p hp
    cases hp
  | cons r _ ih =>
    intro p hp
    rw [List.zip_cons_cons] at hp
    rcases List.mem_cons.mp hp with rfl | hp
    · exact r
    · exact ih p hp
theorem CaF.sortR {K : Frag} {ω : List Ent} {xs : List (List Int)} : CaF (rSortedL K) ω ω [is K xs] (olst K (Lf.sortR xs)) := fun G H vs Q wA pa q => by
  obtain ⟨v, rfl, a, us, rfl, e, ha, l⟩ := PArgs.one pa
  have len := Paired.len ha
  refine ⟨a, us, xs, rfl, RC.sq_of (wA.lst e), dpa wA ha, by rw [len]; exact l, fun p free => ?_⟩
  obtain ⟨z1, z2⟩ := zip_all len
  have zl : (us.zip xs).length = xs.length := by rw [List.length_zip]; omega
  have sec : ((us.zip xs).mergeSort rowLe).map (·.2) = Lf.sortR xs := by
    have := PySem.W.sort_maps (r := rowLe) (s := fun a b => decide (a ≤ b)) (fun p : V × List Int => p.2) (l := us.zip xs) fun _ _ _ _ => rfl
    rw [this, z2]
    rfl
  have each : ∀ ps : List (V × List Int), (∀ p ∈ ps, Rp.rep K G p.1 p.2) → All K G (ps.map (·.1)) (ps.map (·.2)) := fun ps => by
    induction ps with
    | nil => exact fun _ => .nil
    | cons p ps ih => exact fun h => .cons (h p List.mem_cons_self) (ih fun q hq => h q (List.mem_cons_of_mem _ hq))
  have al := each ((us.zip xs).mergeSort rowLe) fun p hp => zip_rep ha p (List.mem_mergeSort.mp hp)
  rw [sec] at al
  have sl : (Lf.sortR xs).length ≤ sizeLine := by
    unfold Lf.sortR
    rw [List.length_mergeSort]
    exact l
  exact q _ G _ (Le.refl _) (newL wA free al sl)
/-- a new list of ints, where None may come in later -/
theorem EvF.upO {K : Frag} {Γ : Gm} {ω ω1 : List Ent} {te : TE} {xs : List Int} (h : EvF te Γ ω ω1 (olst K xs)) : EvF te Γ ω ω1 (olst K (xs.map some : List (Option Int))) := fun σ G H Q r w q => h σ G H Q r w fun p G2 H2 s w2 => q p G2 H2 s (by
  refine ⟨w2.sh, fun i p' φ e => ?_, fun i j e e' hi hj z => ?_⟩
  · cases i with
    | zero =>
      cases e
      obtain ⟨np, o, ho, vs, rfl, ha, l⟩ := w2.own 0 p _ rfl
      refine ⟨np, _, ho, vs, rfl, ?_, by rw [List.length_map]; exact l⟩
      clear ho l np
      generalize xs = ys at ha
      induction ha with
      | nil => exact .nil
      | cons r _ ih => exact .cons ⟨r, fun z => by rw [z] at r; cases r⟩ ih
    | succ i => exact w2.own (i + 1) p' φ e
  · have back : ∀ (i : Nat) (e : Ent), (Ent.own p (olst K (xs.map some : List (Option Int))) :: ω1)[i]? = some e → ∃ e2, (Ent.own p (olst K xs) :: ω1)[i]? = some e2 ∧ e2.adr = e.adr := fun i e h => by
      cases i with
      | zero =>
        cases h
        exact ⟨_, rfl, rfl⟩
      | succ i => exact ⟨e, h, rfl⟩
    obtain ⟨f, hf, ef⟩ := back i e hi
    obtain ⟨g, hg, eg⟩ := back j e' hj
    exact w2.nd i j f g hf hg (by rw [ef, eg, z]))
/-! ### new since G0 -/
def Nw (_ : Hp) (α : Type) : Type := α
instance {G0 : Hp} {α : Type} [t : Rp α] : Rp (Nw G0 α) := ⟨fun K H v x => t.rep K H v x ∧ ∃ a, v = .ref a ∧ G0 a = none, fun s h => ⟨t.mono s h.1, h.2⟩⟩
instance {G0 : Hp} {α : Type} [t : Ord1 α] : Ord1 (Nw G0 α) where
  d := t.d
  dp w h := t.dp w h.1
  lay := t.lay
  deep := t.deep
  dep := t.dep
  dec := t.dec
  eqv := t.eqv
  alike := t.alike
theorem minL_nw {G0 : Hp} {α : Type} [Ord1 α] (xs : List α) : minL (α := Nw G0 α) xs = minL xs := by cases xs <;> rfl
/-- what is known of v, and that G0 stands still -/
def snc (G0 : Hp) (m : MP) : MP := ⟨fun H v => Le G0 H ∧ m.p H v, fun s h => ⟨h.1.trans s, m.mono s h.2⟩⟩
theorem Le.none {G G2 : Hp} (s : Le G G2) {a : Addr} (h : G2 a = none) : G a = none := by
  cases e : G a with
  | none => rfl
  | some o =>
    rcases s a o e with z | ⟨_, _, z⟩
    · rw [h] at z
      cases z
    · rw [h] at z
      cases z
theorem PArgs.snc {G : Hp} {vs : List V} {ms : List MP} (h : PArgs G vs ms) : PArgs G vs (ms.map (Lf.snc G)) := by
  unfold PArgs at h ⊢
  induction h with
  | nil => exact .nil
  | cons a _ ih => exact .cons ⟨Le.refl _, a⟩ ih
section
variable {K : Frag} {E : XK} {Γ : Gm} {ω ω1 : List Ent} {te : TE} {tA : TA} {m : MP} {ms : List MP} {G0 : Hp} {α : Type} [Rp α] {sp : Sp} {mr : Res (List α)} {r : List α}
theorem EvX.varS {i : Nat} (h : Γ[i]? = some (some (snc G0 m))) : EvX (tVar i) Γ ω ω m := fun σ G H Q r w q => let ⟨v, e, p⟩ := r.2 i _ h; ⟨v, e, q v G H (Le.refl _) w p.2⟩
/-- a new list, known as new -/
theorem EvX.frN {i : Nat} {xs : List α} (hi : Γ[i]? = some (some (snc G0 m))) (h : EvF te Γ ω ω1 (olst K xs)) : EvX te Γ ω ω1 (is (α := Nw G0 (List α)) K xs) := fun σ G H Q r w q => h σ G H Q r w fun p G2 H2 s w2 => by
  obtain ⟨_, _, le, _⟩ := r.2 i _ hi
  have np := (w2.own 0 p _ rfl).1
  obtain ⟨o, e, ⟨vs, rfl, hv, l⟩, w3, s3⟩ := w2.freeze
  exact q _ _ _ (s.trans s3) w3 ⟨⟨p, vs, rfl, upd_same, All.mono s3 hv, l⟩, p, rfl, (le.trans s).none np⟩
/-- a def whose list is new since its start -/
def NewR (K : Frag) (sp : Sp) (E : XK) (ms : List MP) (mr : Res (List α)) : Prop := ∀ (G H : Hp) (vs : List V) (Q : VK), PArgs G vs ms → At G [] H → Says K G [] mr (fun r => RS.val (is (α := Nw G (List α)) K r) []) Q E → sp vs H Q E
theorem EvX.callN {i : Nat} (hi : Γ[i]? = some (some (snc G0 m))) (h : EvA tA Γ ω [] ms) (hs : NewR K sp E ms mr) (e : mr = .ok r) : EvX (tCall sp [] E tA) Γ ω [] (is (α := Nw G0 (List α)) K r) := fun σ G H Q rp w q => h σ G H _ rp w fun vs G2 H2 s2 w2 p2 => by
  show sp (vs ++ []) H2 Q E
  rw [List.append_nil]
  obtain ⟨_, _, le, _⟩ := rp.2 i _ hi
  exact hs G2 H2 vs Q p2 w2 (Says.ok' e fun v G3 H3 s3 w3 ⟨p, a, ea, na⟩ => q v G3 H3 (s2.trans s3) w3 ⟨p, a, ea, (le.trans s2).none na⟩)
/-- what is one's own is no dict -/
def Plain (ω : List Ent) : Prop := ∀ (i : Nat) (p : Addr) (φ : OC), ω[i]? = some (Ent.own p φ) → ∀ G o, φ.p G o → ¬ LockD o
theorem Plain.nil : Plain [] := fun i p φ e => by cases e
theorem Plain.lst {β : Type} [Rp β] {p : Addr} {xs : List β} {ω : List Ent} (h : Plain ω) : Plain (.own p (olst K xs) :: ω) := fun i q φ e G o ho => by
  cases i with
  | zero =>
    cases e
    obtain ⟨vs, rfl, _⟩ := ho
    exact fun z => z
  | succ i => exact h i q φ e G o ho
/-- items that stand for what they stand for in any heap -/
class Flat (α : Type) [Rp α] : Prop where
  free : ∀ {K : Frag} {H H' : Hp} {v : V} {x : α}, Rp.rep K H v x → Rp.rep K H' v x
instance : Flat Int := ⟨fun h => h⟩
theorem NewR.own [f : Flat α] (hs : NewR K sp E ms mr) (ne : ∀ x, mr ≠ .err x) (pl : Plain ω) : SpR K sp E ms ω ω mr fun r => RS.own (olst K r) ω := by
  intro G H vs Q pa w sy
  classical
  have out : ∀ (i : Nat) (e : Ent), ω[i]? = some e → G e.adr = none ∧ ∃ o, H e.adr = some o := fun i e he => by
    cases e with
    | own p φ =>
      obtain ⟨a, o, b, _⟩ := w.own i p φ he
      exact ⟨a, o, b⟩
  have e1 : ∀ {a : Addr} {o : HO}, G a = some o → ¬ ∃ (i : Nat) (e : Ent), ω[i]? = some e ∧ e.adr = a := fun {a o} h ⟨i, e, he, z⟩ => by
    have := (out i e he).1
    rw [z, h] at this
    cases this
  have le : Le G (fun a => if ∃ (i : Nat) (e : Ent), ω[i]? = some e ∧ e.adr = a then H a else G a) := fun a o h => .inl ((if_neg (e1 h)).trans h)
  refine hs _ H vs Q (pa.mono le) ⟨fun a o h => ?_, fun i p φ h => (by cases h), fun i j e e' h => (by cases h)⟩ ⟨sy.1, fun r er => ?_, fun x ex => absurd ex (ne x)⟩
  · split at h
    · exact h
    · exact w.sh a o h
  · rintro v G2 H2 s2 w2 ⟨rp, a, rfl, na⟩
    obtain ⟨a', us, ea, ha, hall, l⟩ := rp
    cases ea
    have na1 : ¬ ∃ (i : Nat) (e : Ent), ω[i]? = some e ∧ e.adr = a := fun z => by
      have z' := z
      obtain ⟨i, e, he, ez⟩ := z'
      obtain ⟨_, o, ho⟩ := out i e he
      have na' := (if_pos z).symm.trans na
      rw [← ez, ho] at na'
      cases na'
    have na2 : G a = none := (if_neg na1).symm.trans na
    have le3 : Le G (fun b => if b = a ∨ ∃ (i : Nat) (e : Ent), ω[i]? = some e ∧ e.adr = b then none else G2 b) := fun b o h => by
      have nb : ¬ (b = a ∨ ∃ (i : Nat) (e : Ent), ω[i]? = some e ∧ e.adr = b) := by
        rintro (z | z)
        · rw [z, na2] at h
          cases h
        · exact e1 h z
      have := s2 b o ((if_neg (e1 h)).trans h)
      dsimp only
      rw [if_neg nb]
      exact this
    refine sy.2.1 r er a _ H2 le3 ⟨fun b o h => ?_, fun i p φ h => ?_, fun i j e e' hi hj z => ?_⟩
    · split at h
      · cases h
      · exact w2.sh b o h
    · cases i with
      | zero =>
        cases h
        exact ⟨if_pos (.inl rfl), .lst us, w2.sh _ _ ha, us, rfl, Paired.mono' (fun _ _ q => f.free q) hall, l⟩
      | succ i =>
        have h' : ω[i]? = some (Ent.own p φ) := h
        obtain ⟨_, o, ho, hp⟩ := w.own i p φ h'
        have ow : ∃ (i : Nat) (e : Ent), ω[i]? = some e ∧ e.adr = p := ⟨i, _, h', rfl⟩
        refine ⟨if_pos (.inr ow), o, w2.sh _ _ ?_, φ.mono le3 hp⟩
        rcases s2 p o ((if_pos ow).trans ho) with z | ⟨d, _⟩
        · exact z
        · exact absurd d (pl i p φ h' G o hp)
    · cases i with
      | zero =>
        cases j with
        | zero => rfl
        | succ j =>
          cases hi
          exact absurd ⟨j, e', hj, z.symm⟩ na1
      | succ i =>
        cases j with
        | zero =>
          cases hj
          exact absurd ⟨i, e, hi, z⟩ na1
        | succ j => rw [w.nd i j e e' hi hj z]
end
theorem req_noerr {α β : Type} {o : Option α} {k : α → Res β} {x : Exn} (h : ∀ y, k y ≠ .err x) : Res.req o k ≠ .err x := by
  cases o with
  | none => exact fun z => by cases z
  | some y => exact h y
end Lf
/-! ## Lists of ints among any values; a, b, c = x, [], []; tuples of any length as any values -/
namespace Lf
open PySem PySem.Spec PyProof.Rows L2
open PySem.W (Frag)
/-- a list of ints -/
def PV.intsL : List PV → Option (List Int)
  | [] => some []
  | x :: xs => match x.asI, PV.intsL xs with
    | some i, some r => some (i :: r)
    | _, _ => none
def PV.asLI (x : PV) : Option (List Int) := match x.asL with
  | some xs => PV.intsL xs
  | none => none
theorem ints_all {K : Frag} {G : Hp} : ∀ {vs : List V} {xs : List PV} {is_ : List Int}, All K G vs xs → PV.intsL xs = some is_ → All K G vs is_ ∧ is_.length = xs.length
  | _, _, _, .nil, e => by
    cases e
    exact ⟨.nil, rfl⟩
  | _, _, _, .cons (b := x) r t, e => by
    unfold PV.intsL at e
    split at e
    · rename_i i r' h1 h2
      cases e
      obtain ⟨a, b⟩ := ints_all t h2
      exact ⟨.cons (asI_imp h1 G _ r) a, by rw [List.length_cons, List.length_cons, b]⟩
    · cases e
theorem asLI_imp {K : Frag} {x : PV} {is_ : List Int} (e : x.asLI = some is_) (G : Hp) (v : V) (p : (is K x).p G v) : (is K is_).p G v := by
  unfold PV.asLI at e
  split at e
  · rename_i xs h
    obtain ⟨a, vs, rfl, ea, ha, l⟩ := asL_imp h G v p
    obtain ⟨q, ql⟩ := ints_all ha e
    exact ⟨a, vs, rfl, ea, q, by rw [ql]; exact l⟩
  · cases e
instance {α : Type} [t : ToPV α] : ToPV (Tu α) := { of := fun t' => .tup (t'.l.map t.of), conv := fun ⟨_, _, e, h, p, _⟩ => e ▸ .tup h (anyL p) }
section
variable {K : Frag} {W : WX} {ωe : List Ent} {X : Type} {Γ : Gm} {ω ω1 ω2 ω3 : List Ent} {Z : ZF K W ωe X} {u : TS} {ta tb tc : TE} {a : MP} {φ ψ : OC}
/-- a, b, c = x, new, new -/
theorem Go.par3F {i j l : Nat} {x : Res X} (ha : EvX ta Γ ω ω1 a) (hb : EvF tb Γ ω1 ω2 φ) (hc : ∀ p, EvF tc Γ (.own p φ :: ω2) (.own p φ :: ω2) ψ) (k : ∀ p q, Go u (((Γ.set i (some a)).set j (some (adr p))).set l (some (adr q))) (.own q ψ :: .own p φ :: ω2) Z x) :
    Go (tSeq (tAsg (tTup (tCons ta (tCons tb (tCons tc tNil)))) (gTup K 3 (gCons (gName i) (gCons (gName j) (gCons (gName l) gNil))))) u) Γ ω Z x := fun σ G H D rp w z => ha σ G H _ rp w fun v1 G1 H1 s1 w1 p1 => hb σ G1 H1 _ (rp.mono s1) w1 fun p G2 H2 s2 w2 => hc p σ G2 H2 _ (rp.mono (s1.trans s2)) w2 fun q G3 H3 s3 w3 => by
  refine ⟨by show 3 ≤ sizeLine; decide, fun e he => ?_⟩
  obtain ⟨w4, s4⟩ := w3.new (o := .tup [v1, .ref p, .ref q]) he
  refine ⟨e, [v1, .ref p, .ref q], rfl, RC.st_of upd_same, rfl, v1, [.ref p, .ref q], rfl, .ref p, [.ref q], rfl, .ref q, [], rfl, rfl, ?_⟩
  exact k p q _ _ _ D (((((rp.mono s1).mono ((s2.trans s3).trans s4)).set (a.mono ((s2.trans s3).trans s4) p1)).set (m := adr p) rfl).set (m := adr q) rfl) w4 (Z.mono ((s1.trans s2).trans (s3.trans s4)) z)
/-- the same, stored from the right -/
theorem Go.parSF {i j l : Nat} {x : Res X} (ha : EvX ta Γ ω ω1 a) (hb : EvF tb Γ ω1 ω2 φ) (hc : ∀ p, EvF tc Γ (.own p φ :: ω2) (.own p φ :: ω2) ψ) (k : ∀ p q, Go u (((Γ.set i (some a)).set j (some (adr p))).set l (some (adr q))) (.own q ψ :: .own p φ :: ω2) Z x) :
    Go (tSeq (tPar3 i j l (tCons ta (tCons tb (tCons tc tNil)))) u) Γ ω Z x := fun σ G H D rp w z => ha σ G H _ rp w fun v1 G1 H1 s1 w1 p1 => hb σ G1 H1 _ (rp.mono s1) w1 fun p G2 H2 s2 w2 => hc p σ G2 H2 _ (rp.mono (s1.trans s2)) w2 fun q G3 H3 s3 w3 =>
  ⟨v1, .ref p, .ref q, rfl, k p q _ _ _ D (((((rp.mono s1).mono (s2.trans s3)).set (a.mono (s2.trans s3) p1)).set (m := adr p) rfl).set (m := adr q) rfl) w3 (Z.mono ((s1.trans s2).trans s3) z)⟩
end
end Lf
/-! ## A list that is told, its rows changed one after another -/
namespace Lf
open PySem PySem.Spec PyProof.Rows L2
open PySem.W (Frag)
/-! ### known at G0 -/
def kept (G0 : Hp) (m : MP) : MP := ⟨fun H v => m.p G0 v ∧ Le G0 H, fun s h => ⟨h.1, h.2.trans s⟩⟩
def keptG (G0 : Hp) (Γ : Gm) : Gm := Γ.map (Option.map (kept G0))
section
variable {K : Frag} {W : WX} {E : XK} {ωe : List Ent} {X : Type} {Γ : Gm} {ω ω1 ω2 ω3 : List Ent} {Z : ZF K W ωe X} {t u : TS} {te : TE} {tt : TT} {tA : TA} {m : MP} {ms : List MP} {G0 : Hp} {φ ψ : OC} {sp : Sp}
/-- the end, as it was asked for at G0 -/
def ZF.at (Z : ZF K W ωe X) (G0 : Hp) : ZF K W ωe X where
  z m D G := Z.z m D G0 ∧ Le G0 G
  mono s h := ⟨h.1, h.2.trans s⟩
  nobad h := Z.nobad h.1
  err h := PostE.mono h.2 (Z.err h.1)
theorem Go.ifCAt {S R : Type} {fn : S → Gm × List Ent} {fr : R → RS} {c : Bool} {m1 : Res R} {m2 : Res (Ctl S R)} (h : EvT tt Γ ω ω1 c) (h1 : c = true → Go t Γ ω1 (zR K W ωe false fr) m1) (h2 : c = false → Go u Γ ω1 ((zC K W ωe fn fr).at G0) m2) : Go (tSeq (tIfS tt t tNext) u) Γ ω ((zC K W ωe fn fr).at G0) (if c then Res.esc m1 else m2) := fun σ G H D rp w z => h σ G H _ rp w fun G2 H2 s w2 => by
  cases c with
  | true =>
    have z3 : (zC K W ωe fn fr).z (Res.esc m1) D G2 := (zC K W ωe fn fr).mono (z.2.trans s) z.1
    refine RC.if_t rfl (h1 rfl σ G2 H2 _ (rp.mono s) w2 ⟨fun q => z3.1 (by rw [q]; rfl), fun r q => z3.2.2.1 r (by rw [q]; rfl), fun x q => z3.2.2.2 x (by rw [q]; rfl), fun q => nomatch q⟩)
  | false => exact RC.if_f rfl (h2 rfl σ G2 H2 D (rp.mono s) w2 ⟨z.1, z.2.trans s⟩)
theorem Go.mark {x : Res X} (h : ∀ G0, Go t (keptG G0 Γ) ω (Z.at G0) x) : Go t Γ ω Z x := fun σ G H D rp w z => h G σ G H D ⟨by unfold keptG; rw [List.length_map]; exact rp.1, fun i m e => by
  unfold keptG at e
  rw [List.getElem?_map] at e
  cases q : Γ[i]? with
  | none =>
    rw [q] at e
    cases e
  | some o =>
    rw [q] at e
    cases o with
    | none => cases e
    | some m' =>
      cases e
      obtain ⟨v, a, b⟩ := rp.2 i m' q
      exact ⟨v, a, b, Le.refl _⟩⟩ w ⟨z, Le.refl _⟩
theorem EvX.varK {i : Nat} (h : Γ[i]? = some (some (kept G0 m))) : EvX (tVar i) Γ ω ω m := fun σ G H Q r w q => let ⟨v, e, p⟩ := r.2 i _ h; ⟨v, e, q v G H (Le.refl _) w (m.mono p.2 p.1)⟩
/-- what is known of the first of one's own, told another way -/
theorem At.imp0 {G H : Hp} {p : Addr} (f : ∀ o, φ.p G o → ψ.p G o) (w : At G (.own p φ :: ω) H) : At G (.own p ψ :: ω) H := by
  refine ⟨w.sh, fun i p' χ e => ?_, fun i j e e' hi hj z => ?_⟩
  · cases i with
    | zero =>
      cases e
      obtain ⟨np, o, ho, q⟩ := w.own 0 p _ rfl
      exact ⟨np, o, ho, f o q⟩
    | succ i => exact w.own (i + 1) p' χ e
  · have back : ∀ (i : Nat) (e : Ent), (Ent.own p ψ :: ω)[i]? = some e → ∃ e2, (Ent.own p φ :: ω)[i]? = some e2 ∧ e2.adr = e.adr := fun i e h => by
      cases i with
      | zero =>
        cases h
        exact ⟨_, rfl, rfl⟩
      | succ i => exact ⟨e, h, rfl⟩
    obtain ⟨f, hf, ef⟩ := back i e hi
    obtain ⟨g, hg, eg⟩ := back j e' hj
    exact w.nd i j f g hf hg (by rw [ef, eg, z])
/-- a def whose list has items that are new since its start -/
def OwnR {α : Type} [Rp α] (K : Frag) (sp : Sp) (E : XK) (ms : List MP) (mr : Res (List α)) : Prop := ∀ (G H : Hp) (vs : List V) (Q : VK) (ω : List Ent), PArgs G vs ms → At G ω H → Says K G ω mr (fun r => RS.own (olst (α := Nw G α) K r) ω) Q E → sp vs H Q E
theorem nw_down {α : Type} [Rp α] {G1 G : Hp} (le : Le G0 G1) {xs : List α} {o : HO} (h : (olst (α := Nw G1 α) K xs).p G o) : (olst (α := Nw G0 α) K xs).p G o := by
  obtain ⟨vs, rfl, ha, l⟩ := h
  exact ⟨vs, rfl, Paired.mono' (fun v x ⟨a, b, e, n⟩ => ⟨a, b, e, le.none n⟩) ha, l⟩
theorem EvF.callO {α : Type} [Rp α] {mr : Res (List α)} {r : List α} {i : Nat} (hi : Γ[i]? = some (some (kept G0 m))) (h : EvA tA Γ ω ω1 ms) (hs : OwnR K sp E ms mr) (e : mr = .ok r) : EvF (tCall sp [] E tA) Γ ω ω1 (olst (α := Nw G0 α) K r) := fun σ G H Q rp w q => h σ G H _ rp w fun vs G2 H2 s2 w2 p2 => by
  show sp (vs ++ []) H2 Q E
  rw [List.append_nil]
  obtain ⟨_, _, _, le⟩ := rp.2 i _ hi
  exact hs G2 H2 vs Q ω1 p2 w2 (Says.ok' e fun p G3 H3 s3 w3 => q p G3 H3 (s2.trans s3) (w3.imp0 fun o ho => nw_down (le.trans s2) ho))
theorem EvX.nw {α : Type} [Rp α] {x : α} (h : EvX te Γ ω ω1 (is (α := Nw G0 α) K x)) : EvX te Γ ω ω1 (is K x) := h.as fun _ _ p => p.1
/-- a new list, known as new -/
theorem EvX.frK {α : Type} [Rp α] {i : Nat} {xs : List α} (hi : Γ[i]? = some (some (kept G0 m))) (h : EvF te Γ ω ω1 (olst K xs)) : EvX te Γ ω ω1 (is (α := Nw G0 (List α)) K xs) := fun σ G H Q r w q => h σ G H Q r w fun p G2 H2 s w2 => by
  obtain ⟨_, _, _, le⟩ := r.2 i _ hi
  have np := (w2.own 0 p _ rfl).1
  obtain ⟨o, e, ⟨vs, rfl, hv, l⟩, w3, s3⟩ := w2.freeze
  exact q _ _ _ (s.trans s3) w3 ⟨⟨p, vs, rfl, upd_same, All.mono s3 hv, l⟩, p, rfl, (le.trans s).none np⟩
theorem PArgs.kept0 {G : Hp} {vs : List V} (h : PArgs G vs (m :: ms)) : PArgs G vs (kept G m :: ms) := by
  cases h with
  | cons a t => exact .cons ⟨a, Le.refl _⟩ t
theorem nw_off {α : Type} [Rp α] {G1 G : Hp} {xs : List α} {o : HO} (h : (olst (α := Nw G1 α) K xs).p G o) : (olst K xs).p G o := by
  obtain ⟨us, eo, ha, l⟩ := h
  exact ⟨us, eo, Paired.mono' (fun _ _ q => q.1) ha, l⟩
/-- the same promise, its items' newness let go -/
theorem OwnR.val {α : Type} [Rp α] {mr : Res (List α)} (h : OwnR K sp E ms mr) : SpR K sp E ms ω ω mr fun r => RS.own (olst K r) ω := fun G H vs Q pa w s => h G H vs Q ω pa w ⟨s.1, fun r e p G2 H2 s2 w2 => s.2.1 r e p G2 H2 s2 (At.imp0 (φ := olst (α := Nw G α) K r) (fun o h => nw_off h) w2), s.2.2⟩
/-! ### a test asked with all that is own set still -/
theorem EvT.frozen {α : Type} [Rp α] {b : Bool} {i k : Nat} {p : Addr} {r : List α} (pl : Plain ω) (hi : Γ[i]? = some (some (adr p))) (ho : ω[k]? = some (Ent.own p (olst K r))) (h : EvT tt (Γ.set i (some (is K r))) [] [] b) : EvT tt Γ ω ω b := fun σ G H Q rp w q => by
  classical
  have out : ∀ (i : Nat) (e : Ent), ω[i]? = some e → G e.adr = none ∧ ∃ o, H e.adr = some o := fun i e he => by
    cases e with
    | own p φ =>
      obtain ⟨a, o, b, _⟩ := w.own i p φ he
      exact ⟨a, o, b⟩
  have e1 : ∀ {a : Addr} {o : HO}, G a = some o → ¬ ∃ (i : Nat) (e : Ent), ω[i]? = some e ∧ e.adr = a := fun {a o} h ⟨i, e, he, z⟩ => by
    have := (out i e he).1
    rw [z, h] at this
    cases this
  have le : Le G (fun a => if ∃ (i : Nat) (e : Ent), ω[i]? = some e ∧ e.adr = a then H a else G a) := fun a o h => .inl ((if_neg (e1 h)).trans h)
  obtain ⟨_, o, hp, us, rfl, hu, l⟩ := w.own k p _ ho
  have at_ : (fun a => if ∃ (i : Nat) (e : Ent), ω[i]? = some e ∧ e.adr = a then H a else G a) p = some (.lst us) := (if_pos ⟨k, _, ho, rfl⟩).trans hp
  have rp2 := (rp.mono le).set (i := i) (v := .ref p) (m := is K r) ⟨p, us, rfl, at_, All.mono le hu, l⟩
  obtain ⟨v, ev, pv⟩ := rp.2 i _ hi
  have pv' : v = .ref p := pv
  subst pv'
  have es : σ.set i (some (.ref p)) = σ := by
    refine List.ext_getElem? fun j => ?_
    by_cases z : i = j
    · subst z
      rw [ev, List.getElem?_set_self (List.getElem?_eq_some_iff.mp ev).1]
    · rw [List.getElem?_set_ne z]
  rw [es] at rp2
  refine h σ _ H Q rp2 ⟨fun a o h => ?_, fun i p φ h => (by cases h), fun i j e e' h => (by cases h)⟩ fun G2 H2 s2 w2 => ?_
  · split at h
    · exact h
    · exact w.sh a o h
  · have le3 : Le G (fun b => if G b = none then none else G2 b) := fun b o h => by
      have nb : ¬ G b = none := fun z => by
        rw [h] at z
        cases z
      have := s2 b o ((if_neg (e1 h)).trans h)
      dsimp only
      rw [if_neg nb]
      exact this
    refine q _ H2 le3 ⟨fun b o h => ?_, fun i p φ h => ?_, w.nd⟩
    · split at h
      · cases h
      · exact w2.sh b o h
    · obtain ⟨gn, o, ho, hp⟩ := w.own i p φ h
      refine ⟨if_pos gn, o, w2.sh _ _ ?_, φ.mono le3 hp⟩
      rcases s2 p o ((if_pos ⟨i, _, h, rfl⟩).trans ho) with z | ⟨d, _⟩
      · exact z
      · exact absurd d (pl i p φ h G o hp)
end
/-! ### rows that are one's own -/
/-- the i-th of these places -/
structure Ix (as_ : List Addr) where
  i : Nat
instance {as_ : List Addr} : Rp (Ix as_) := ⟨fun _ _ v x => ∃ a, as_[x.i]? = some a ∧ v = .ref a, fun _ h => h⟩
/-- row j: None is behind it already, if j < s -/
def rowE (K : Frag) (as_ : List Addr) (l : List (List Int)) (s j : Nat) : Ent := .own (as_[j]?.getD 0) (if j < s then olst K ((l[j]?.getD []).map some ++ [none] : List (Option Int)) else olst K (l[j]?.getD []))
def rowsE (K : Frag) (as_ : List Addr) (l : List (List Int)) (s : Nat) : List Ent := (List.range l.length).map (rowE K as_ l s)
theorem rowsE_len {K : Frag} {as_ : List Addr} {l : List (List Int)} {s : Nat} : (rowsE K as_ l s).length = l.length := by simp [rowsE]
theorem rowsE_at {K : Frag} {as_ : List Addr} {l : List (List Int)} {s j : Nat} {tl : List Ent} (h : j < l.length) : (rowsE K as_ l s ++ tl)[j]? = some (rowE K as_ l s j) := by
  rw [List.getElem?_append_left (by rw [rowsE_len]; exact h)]
  unfold rowsE
  rw [List.getElem?_map, List.getElem?_range h]
  rfl
theorem rowsE_next {K : Frag} {as_ : List Addr} {l : List (List Int)} {s : Nat} {tl : List Ent} {a : Addr} {r : List Int} (ha : as_[s]? = some a) (hr : l[s]? = some r) : (rowsE K as_ l s ++ tl).set s (.own a (olst K (r.map some ++ [none] : List (Option Int)))) = rowsE K as_ l (s + 1) ++ tl := by
  have ls := (List.getElem?_eq_some_iff.mp hr).1
  rw [List.set_append_left _ _ (by rw [rowsE_len]; exact ls)]
  congr 1
  refine List.ext_getElem? fun j => ?_
  unfold rowsE
  by_cases c : s = j
  · subst c
    rw [List.getElem?_set_self (by rw [List.length_map, List.length_range]; exact ls), List.getElem?_map, List.getElem?_range ls]
    show some _ = some (rowE K as_ l (s + 1) s)
    unfold rowE
    rw [ha, hr, if_pos (Nat.lt_succ_self s)]
    rfl
  · rw [List.getElem?_set_ne c, List.getElem?_map, List.getElem?_map]
    by_cases cj : j < l.length
    · rw [List.getElem?_range cj]
      show some (rowE K as_ l s j) = some (rowE K as_ l (s + 1) j)
      unfold rowE
      by_cases d : j < s
      · rw [if_pos d, if_pos (by omega)]
      · rw [if_neg d, if_neg (by omega)]
    · rw [List.getElem?_eq_none (by rw [List.length_range]; omega)]
      rfl
theorem ints_same {K : Frag} {G : Hp} : ∀ {us : List V} {r r' : List Int}, All K G us r → All K G us r' → r = r'
  | _, _, _, .nil, .nil => rfl
  | _, _, _, .cons q t, .cons q' t' => by
    rw [ints_same t t', V.int.inj ((show _ = V.int _ from q).symm.trans q')]
/-- contents that ask nothing of the heap -/
def FlatO (ω : List Ent) : Prop := ∀ (i : Nat) (p : Addr) (φ : OC), ω[i]? = some (Ent.own p φ) → ∀ G G' o, φ.p G o → φ.p G' o
theorem FlatO.nil : FlatO [] := fun i p φ e => by cases e
theorem FlatO.lst {K : Frag} {β : Type} [Rp β] [f : Flat β] {p : Addr} {xs : List β} {ω : List Ent} (h : FlatO ω) : FlatO (.own p (olst K xs) :: ω) := fun i q φ e G G' o ho => by
  cases i with
  | zero =>
    cases e
    obtain ⟨vs, rfl, ha, l⟩ := ho
    exact ⟨vs, rfl, Paired.mono' (fun _ _ q => f.free q) ha, l⟩
  | succ i => exact h i q φ e G G' o ho
instance : Flat (Option Int) := ⟨fun {K H H' v x} h => by
  cases x with
  | none => exact h
  | some i => exact h⟩
theorem Plain.app {K : Frag} {as_ : List Addr} {l : List (List Int)} {s : Nat} {ω : List Ent} (h : Plain ω) : Plain (rowsE K as_ l s ++ ω) := fun i q φ e G o ho => by
  by_cases c : i < l.length
  · rw [rowsE_at c] at e
    unfold rowE at e
    cases e
    split at ho
    · obtain ⟨vs, rfl, _⟩ := ho
      exact fun z => z
    · obtain ⟨vs, rfl, _⟩ := ho
      exact fun z => z
  · rw [List.getElem?_append_right (by rw [rowsE_len]; omega)] at e
    exact h _ q φ e G o ho
section
variable {K : Frag} {W : WX} {ωe : List Ent} {X : Type} {Γ : Gm} {ω ω1 : List Ent} {Z : ZF K W ωe X} {t u : TS} {te to : TE} {G0 : Hp} {φ ψ : OC}
/-- from a told list whose rows are new since G0 to rows of one's own -/
theorem Go.rows {told : Nat} {p : Addr} {l : List (List Int)} {x : Res X} (fl : FlatO ω1) (nd : l.Nodup) (lt : told < Γ.length)
    (k : ∀ as_ : List Addr, as_.length = l.length → Go t (Γ.set told (some (adr p))) (rowsE K as_ l 0 ++ .own p (olst K ((List.range l.length).map (Ix.mk (as_ := as_)))) :: ω1) Z x) :
    Go t ((keptG G0 Γ).set told (some (adr p))) (.own p (olst (α := Nw G0 (List Int)) K l) :: ω1) (Z.at G0) x := fun σ G H D rp w z => by
  classical
  obtain ⟨np, o, hp, vs, rfl, ha, ll⟩ := w.own 0 p _ rfl
  obtain ⟨z, le⟩ := z
  have len0 := Paired.len ha
  -- the places of the rows
  have each : ∀ {vs : List V} {l : List (List Int)}, Paired (fun v x => Rp.rep K G v (x : Nw G0 (List Int))) vs l → ∃ as_ : List Addr, vs = as_.map V.ref ∧ ∀ (j : Nat) (a : Addr), as_[j]? = some a → ∃ r us, l[j]? = some r ∧ G a = some (.lst us) ∧ All K G us r ∧ r.length ≤ sizeLine ∧ G0 a = none := fun h => by
    induction h with
    | nil => exact ⟨[], rfl, fun j a e => by cases e⟩
    | @cons v r _ _ q _ ih =>
      obtain ⟨as_, e, f⟩ := ih
      obtain ⟨⟨a, us, rfl, ga, hu, lu⟩, a', ea, na⟩ := q
      cases ea
      refine ⟨a :: as_, by rw [List.map_cons, e], fun j b hb => ?_⟩
      cases j with
      | zero =>
        cases hb
        exact ⟨r, us, rfl, ga, hu, lu, na⟩
      | succ j => exact f j b hb
  obtain ⟨as_, rfl, f⟩ := each ha
  have len : as_.length = l.length := by
    rw [List.length_map] at len0
    exact len0
  have le3 : Le G0 (fun b => if G0 b = none then none else G b) := fun b o h => by
    have nb : ¬ G0 b = none := fun z => by
      rw [h] at z
      cases z
    dsimp only
    rw [if_neg nb]
    exact le b o h
  have same : ∀ {j : Nat} {a : Addr}, as_[j]? = some a → as_[j]?.getD 0 = a := fun h => by rw [h]; rfl
  have get : ∀ (i : Nat) (q : Addr) (χ : OC), (rowsE K as_ l 0 ++ .own p (olst K ((List.range l.length).map (Ix.mk (as_ := as_)))) :: ω1)[i]? = some (Ent.own q χ) → (∃ r us, i < l.length ∧ as_[i]? = some q ∧ l[i]? = some r ∧ G q = some (.lst us) ∧ All K G us r ∧ r.length ≤ sizeLine ∧ G0 q = none ∧ χ = olst K r) ∨ (i = l.length ∧ q = p ∧ χ = olst K ((List.range l.length).map (Ix.mk (as_ := as_)))) ∨ (∃ m, i = l.length + 1 + m ∧ ω1[m]? = some (Ent.own q χ)) := fun i q χ h => by
    by_cases c : i < l.length
    · rw [rowsE_at c] at h
      obtain ⟨a, ea⟩ : ∃ a, as_[i]? = some a := ⟨_, List.getElem?_eq_getElem (by omega)⟩
      obtain ⟨r, us, er, ga, hu, lu, na⟩ := f i a ea
      unfold rowE at h
      rw [ea, er, if_neg (Nat.not_lt_zero _)] at h
      cases h
      exact .inl ⟨r, us, c, ea, er, ga, hu, lu, na, rfl⟩
    · rw [List.getElem?_append_right (by rw [rowsE_len]; omega), rowsE_len] at h
      obtain ⟨m, hm⟩ : ∃ m, i = l.length + m := ⟨i - l.length, by omega⟩
      subst hm
      rw [Nat.add_sub_cancel_left] at h
      cases m with
      | zero =>
        cases h
        exact .inr (.inl ⟨rfl, rfl, rfl⟩)
      | succ m => exact .inr (.inr ⟨m, by omega, h⟩)
  refine k as_ len σ (fun b => if G0 b = none then none else G b) H D ⟨?_, fun i m e => ?_⟩ ⟨fun b o h => ?_, fun i q χ h => ?_, fun i j e e' hi hj ez => ?_⟩ (Z.mono le3 z)
  · have := rp.1
    unfold keptG at this
    rw [List.length_set, List.length_map] at this
    rw [List.length_set]
    exact this
  · by_cases c : told = i
    · subst c
      rw [List.getElem?_set_self lt] at e
      cases e
      exact rp.2 told (adr p) (by rw [List.getElem?_set_self (by unfold keptG; rw [List.length_map]; exact lt)])
    · rw [List.getElem?_set_ne c] at e
      obtain ⟨v, ev, a, _⟩ := rp.2 i (kept G0 m) (by
        rw [List.getElem?_set_ne c]
        unfold keptG
        rw [List.getElem?_map, e]
        rfl)
      exact ⟨v, ev, m.mono le3 a⟩
  · split at h
    · cases h
    · exact w.sh b o h
  · rcases get i q χ h with ⟨r, us, _, _, _, ga, hu, lu, na, rfl⟩ | ⟨_, rfl, rfl⟩ | ⟨m, _, hm⟩
    · exact ⟨if_pos na, .lst us, w.sh _ _ ga, us, rfl, Paired.mono' (fun _ _ q => q) hu, lu⟩
    · refine ⟨if_pos (le.none np), _, hp, as_.map V.ref, rfl, ?_, by rw [List.length_map, List.length_range]; exact ll⟩
      have al : ∀ (n : Nat) (bs : List Addr), (∀ j, bs[j]? = as_[n + j]?) → All K (fun b => if G0 b = none then none else G b) (bs.map V.ref) ((List.range' n bs.length).map (Ix.mk (as_ := as_))) := fun n bs => by
        induction bs generalizing n with
        | nil => exact fun _ => .nil
        | cons b bs ih =>
          intro hb
          rw [List.length_cons, List.range'_succ]
          exact .cons ⟨b, (hb 0).symm, rfl⟩ (ih (n + 1) fun j => by
            have := hb (j + 1)
            rw [List.getElem?_cons_succ] at this
            rw [this, Nat.add_assoc, Nat.add_comm 1 j])
      have := al 0 as_ fun j => by rw [Nat.zero_add]
      rw [len, ← List.range_eq_range'] at this
      exact this
    · obtain ⟨gq, o, ho, hq⟩ := w.own (m + 1) q χ hm
      exact ⟨if_pos (le.none gq), o, ho, fl m q χ hm _ _ o hq⟩
  · cases e with
    | own q χ =>
      cases e' with
      | own q' χ' =>
        have ez' : q = q' := ez
        subst ez'
        rcases get i q χ hi with ⟨r, us, c, ea, er, ga, hu, _, na, _⟩ | ⟨ei, eq, _⟩ | ⟨m, em, hm⟩
        · rcases get j q χ' hj with ⟨r', us', c', ea', er', ga', hu', _, _, _⟩ | ⟨_, eq, _⟩ | ⟨m, _, hm⟩
          · rw [ga] at ga'
            cases ga'
            have := ints_same hu hu'
            subst this
            obtain ⟨c1, e1⟩ := List.getElem?_eq_some_iff.mp er
            obtain ⟨c2, e2⟩ := List.getElem?_eq_some_iff.mp er'
            exact (List.getElem_inj nd).mp (e1.trans e2.symm)
          · rw [eq, np] at ga
            cases ga
          · have := (w.own (m + 1) q χ' hm).1
            rw [ga] at this
            cases this
        · rcases get j q χ' hj with ⟨_, _, _, _, _, ga', _, _, _, _⟩ | ⟨ej, _, _⟩ | ⟨m, _, hm⟩
          · rw [eq, np] at ga'
            cases ga'
          · omega
          · have := w.nd 0 (m + 1) _ _ rfl hm eq.symm
            omega
        · rcases get j q χ' hj with ⟨_, _, _, _, _, ga', _, _, _, _⟩ | ⟨_, eq, _⟩ | ⟨m', em', hm'⟩
          · have := (w.own (m + 1) q χ hm).1
            rw [ga'] at this
            cases this
          · have := w.nd 0 (m + 1) _ _ rfl hm eq.symm
            omega
          · have := w.nd (m + 1) (m' + 1) _ _ hm hm' rfl
            omega
end
/-! ### the loop -/
theorem told_at {K : Frag} {as_ : List Addr} {l : List (List Int)} {s : Nat} {e : Ent} {tl : List Ent} : (rowsE K as_ l s ++ e :: tl)[l.length]? = some e := by
  rw [List.getElem?_append_right (by rw [rowsE_len]; exact Nat.le_refl _), rowsE_len, Nat.sub_self]
  rfl
section
variable {K : Frag} {W : WX} {ωe : List Ent} {X : Type} {Γ : Gm} {ω ω1 : List Ent} {Z : ZF K W ωe X} {t u : TS} {te : TE} {φ ψ : OC}
theorem IterX.own {α : Type} [Rp α] {xs : List α} {p : Addr} {k : Nat} (h : EvX te Γ ω ω1 (adr p)) (ho : ω1[k]? = some (Ent.own p (olst K xs))) : IterX K (iList K te) Γ ω ω1 (fun (o : List Ent) => ∃ k : Nat, o[k]? = some (Ent.own p (olst K xs))) xs := fun σ G H R r w q => h σ G H _ r w fun v G1 H1 s1 w1 p1 => by
  cases p1
  obtain ⟨_, o, hp, us, rfl, ha, l⟩ := w1.own k p _ ho
  refine ⟨p, rfl, ⟨us, RC.sq_of hp⟩, q _ G1 H1 s1 w1 ⟨l, fun G ω H i s w ⟨k, hk⟩ hi => ?_, fun G ω H s w ⟨k, hk⟩ => ?_, fun G ω H i x H' b s w ⟨k, hk⟩ hb y => ?_⟩⟩
  · obtain ⟨_, o, hp, us, rfl, ha, l⟩ := w.own k p _ hk
    rw [← Paired.len ha] at hi
    exact ⟨us, us[i], RC.sq_of hp, List.getElem?_eq_getElem hi⟩
  · obtain ⟨_, o, hp, us, rfl, ha, l⟩ := w.own k p _ hk
    exact ⟨us, RC.sq_of hp, Nat.le_of_eq (Paired.len ha)⟩
  · obtain ⟨_, o, hp, us, rfl, ha, l⟩ := w.own k p _ hk
    obtain ⟨rfl, y⟩ := y
    have q := y us (RC.sq_of hp)
    obtain ⟨v, ev, pv⟩ := Paired.at_ ha hb
    rw [ev] at q
    cases q
    exact ⟨G, Le.refl _, w, pv⟩
theorem ix_imp {as_ : List Addr} {j : Nat} {a : Addr} (h : as_[j]? = some a) (G : Hp) (v : V) (p : (is K (Ix.mk (as_ := as_) j)).p G v) : (adr a).p G v := by
  obtain ⟨b, e, q⟩ := p
  rw [h] at e
  cases e
  exact q
/-- what is known of the k-th of one's own, told another way -/
theorem Go.impO {k : Nat} {p : Addr} {x : Res X} (ho : ω[k]? = some (Ent.own p φ)) (f : ∀ G o, φ.p G o → ψ.p G o) (h : Go t Γ (ω.set k (.own p ψ)) Z x) : Go t Γ ω Z x := fun σ G H D rp w z => by
  have lk := (List.getElem?_eq_some_iff.mp ho).1
  have get : ∀ (i : Nat) (e : Ent), (ω.set k (.own p ψ))[i]? = some e → (i = k ∧ e = .own p ψ) ∨ (i ≠ k ∧ ω[i]? = some e) := fun i e he => by
    by_cases c : k = i
    · subst c
      rw [List.getElem?_set_self lk] at he
      exact .inl ⟨rfl, (Option.some.inj he).symm⟩
    · rw [List.getElem?_set_ne c] at he
      exact .inr ⟨fun z => c z.symm, he⟩
  have back : ∀ (i : Nat) (e : Ent), (ω.set k (.own p ψ))[i]? = some e → ∃ e2, ω[i]? = some e2 ∧ e2.adr = e.adr := fun i e he => by
    rcases get i e he with ⟨rfl, rfl⟩ | ⟨_, h⟩
    · exact ⟨_, ho, rfl⟩
    · exact ⟨e, h, rfl⟩
  refine h σ G H D rp ⟨w.sh, fun i q χ he => ?_, fun i j e e' hi hj ez => ?_⟩ z
  · rcases get i _ he with ⟨rfl, e⟩ | ⟨_, h⟩
    · cases e
      obtain ⟨np, o, hp, a⟩ := w.own i p φ ho
      exact ⟨np, o, hp, f G o a⟩
    · exact w.own i q χ h
  · obtain ⟨g, hg, eg⟩ := back i e hi
    obtain ⟨g', hg', eg'⟩ := back j e' hj
    exact w.nd i j g g' hg hg' (by rw [eg, eg', ez])
theorem some_imp {xs : List Int} (G : Hp) (o : HO) (h : (olst K xs).p G o) : (olst K (xs.map some : List (Option Int))).p G o := by
  obtain ⟨vs, rfl, ha, l⟩ := h
  refine ⟨vs, rfl, ?_, by rw [List.length_map]; exact l⟩
  clear l
  unfold All at ha ⊢
  induction ha with
  | nil => exact .nil
  | cons r _ ih => exact .cons ⟨r, fun z => by rw [z] at r; cases r⟩ ih
end
theorem loop_ix {S R : Type} {as_ : List Addr} (f : S → Nat → Res (Ctl S R)) : ∀ (ns : List Nat) (s : S), Res.loop (fun s (x : Ix as_) => f s x.i) (ns.map Ix.mk) s = Res.loop f ns s
  | [], s => rfl
  | n :: ns, s => by
    show Res.bind (f s n) _ = Res.bind (f s n) _
    congr 1
    funext c
    cases c with
    | nx s' => exact loop_ix f ns s'
    | rt r => rfl
end Lf
/-! ## The walk over a told list whose rows are changed: what the printer names -/
namespace Lf
open PySem PySem.Spec PyProof.Rows L2
open PySem.W (Frag)
theorem Dr.app {ω ω' : List Ent} {es : List Ent} (h : Dr ω ω') : Dr (es ++ ω) ω' := by
  obtain ⟨pre, e⟩ := h
  exact ⟨es ++ pre, by rw [e, List.append_assoc]⟩
theorem rowE_get {K : Frag} {as_ : List Addr} {l : List (List Int)} {s : Nat} {tl : List Ent} {a : Addr} {r : List Int} (ha : as_[s]? = some a) (hr : l[s]? = some r) : (rowsE K as_ l s ++ tl)[s]? = some (.own a (olst K r)) := by
  rw [rowsE_at (List.getElem?_eq_some_iff.mp hr).1]
  unfold rowE
  rw [ha, hr, if_neg (Nat.lt_irrefl s)]
  rfl
theorem nodup_req {l : List (List Int)} {u : Unit} (h : (if l.Nodup then some () else none) = some u) : l.Nodup := by
  split at h
  · rename_i c
    exact c
  · cases h
section
variable {K : Frag} {W : WX} {ωe : List Ent} {X R : Type} {Γ : Gm} {ω ω1 tl : List Ent} {Z : ZF K W ωe X} {t u tbs : TS} {te to : TE} {φ ψ : OC} {as_ : List Addr} {l : List (List Int)} {fr : R → RS} {m : MP}
theorem Go.forIx {n : Nat} {fn : Nat → Gm × List Ent} {wi : TI} {g : TG} {P : List Ent → Prop} {f : Nat → Nat → Res (Ctl Nat R)} {Γb : Nat → Ix as_ → Gm} (hi : IterX K wi Γ ω ω1 P ((List.range n).map (Ix.mk (as_ := as_)))) (h0 : Sub Γ (fn 0).1) (d0 : Dr ω1 (fn 0).2) (hP : ∀ s, P (fn s).2) (ht : ∀ s, TgX K g (fn s).1 (Γb s)) (hb : ∀ s x, Go tbs (Γb s x) (fn s).2 (zC K W ωe fn fr) (f s x.i)) :
    Go (tFor wi g tbs) Γ ω (zC K W ωe fn fr) (Res.loop f (List.range n) 0) := (Go.forC (fb := fun s (x : Ix as_) => f s x.i) hi h0 d0 hP ht hb).same (loop_ix f (List.range n) 0).symm
theorem Go.ixStep {slot s : Nat} {x : Ix as_} {k : List Int → Res X} (hlen : as_.length = l.length) (hΓ : Γ[slot]? = some (some (is K x))) (h : ∀ a r, as_[s]? = some a → l[s]? = some r → Go t (Γ.set slot (some (adr a))) ω Z (k r)) :
    Go t Γ ω Z (Res.req (if x.i = s then some () else none) fun _ => Res.req (l[x.i]?) k) := Go.req fun _ h1 => Go.req fun r hr => by
  have e : x.i = s := by
    split at h1
    · rename_i c
      exact c
    · cases h1
  rw [e] at hr
  obtain ⟨a, ha⟩ : ∃ a, as_[s]? = some a := ⟨_, List.getElem?_eq_getElem (by rw [hlen]; exact (List.getElem?_eq_some_iff.mp hr).1)⟩
  refine Go.tell hΓ (m' := adr a) (fun G v p => ?_) (h a r ha hr)
  refine ix_imp (as_ := as_) (K := K) ha G v ?_
  rw [← e]
  exact p
theorem Go.rowNone {i s : Nat} {a : Addr} {r : List Int} {y : List (Option Int)} {x : Res X} (ha : as_[s]? = some a) (hr : l[s]? = some r) (hi : Γ[i]? = some (some (adr a))) (e : Lf.app (r.map some) (none : Option Int) = some y) (hk : Go u Γ (rowsE K as_ l (s + 1) ++ tl) Z x) :
    Go (tSeq (tDrop (tBM K "list" rAppend (tVar i) (tCons (tC .non) tNil))) u) Γ (rowsE K as_ l s ++ tl) Z x := by
  have lt := (List.getElem?_eq_some_iff.mp (rowE_get (K := K) (tl := tl) ha hr)).1
  have e0 : ((rowsE K as_ l s ++ tl).set s (.own a (olst K (r.map some : List (Option Int)))))[s]? = some (.own a (olst K (r.map some : List (Option Int)))) := List.getElem?_set_self lt
  refine Go.impO (rowE_get ha hr) some_imp (Go.app (k := s) (EvX.var hi) ⟨_, e0⟩ (EvX.non (α := Option Int |> fun _ => Int)) e0 e ?_)
  rw [List.set_set]
  unfold Lf.app at e
  split at e
  · cases e
    rw [rowsE_next ha hr]
    exact hk
  · cases e
theorem Go.toldNone {i s : Nat} {p : Addr} {y : Unit} {x : Res X} (hi : Γ[i]? = some (some (adr p))) (e : more l = some y) (hk : Go u (Γ.set i none) ω1 Z x) :
    Go (tSeq (tDrop (tBM K "list" rAppend (tVar i) (tCons (tC .non) tNil))) u) Γ (rowsE K as_ l s ++ .own p (olst K ((List.range l.length).map (Ix.mk (as_ := as_)))) :: ω1) Z x := by
  refine Go.appJ (k := l.length) (y := ()) (EvX.var hi) (EvX.unit (K := K)) ⟨_, told_at⟩ told_at ?_ (Go.weak hk ⟨by rw [List.length_set], fun j m h => ?_⟩ ?_)
  · unfold more at e ⊢
    rw [List.length_map, List.length_range]
    split at e
    · rename_i c
      rw [if_pos c]
    · cases e
  · by_cases c : i = j
    · subst c
      rw [List.getElem?_set_self (List.getElem?_eq_some_iff.mp hi).1] at h
      cases h
    · rw [List.getElem?_set_ne c] at h
      exact h
  · refine ⟨rowsE K as_ l s ++ [.own p ojunk], ?_⟩
    have e2 : (rowsE K as_ l s).length = l.length := rowsE_len
    rw [List.set_append_right _ _ (by rw [e2]; exact Nat.le_refl _), e2, Nat.sub_self, List.append_assoc]
    rfl
end
end Lf
set_option pp.maxSteps 600
namespace Mi
open PySem PySem.Spec PyProof.Rows L2 He Lf RC
open PySem.W (Frag)
section
variable {w : World} {K : Frag} {mg : Str → Option Value} {base : Heap}
structure MRoll where
  row : (Tu Int)
  firsts : (Tu Int)
instance : Rp MRoll := ⟨fun K G v r => ∃ p dx x_row x_firsts, v = .ref p ∧ G p = some (.ins (ga K "Roll") dx [("row", x_row), ("firsts", x_firsts)]) ∧ Rp.rep K G x_row r.row ∧ Rp.rep K G x_firsts r.firsts, fun s ⟨p, dx, x_row, x_firsts, e, h, h_row, h_firsts⟩ => ⟨p, dx, x_row, x_firsts, e, s.at h, Rp.mono s h_row, Rp.mono s h_firsts⟩⟩
instance : Ob MRoll := { cls := "Roll", fl := ["row", "firsts"], at_ := fun ⟨p, dx, x_row, x_firsts, e, h, h_row, h_firsts⟩ => ⟨p, dx, _, e, h, rfl⟩ }
instance : NN MRoll := { nn := fun ⟨_, _, _, _, e, _⟩ z => by rw [z] at e; cases e }
theorem fld_Roll_row {K : Frag} {r : MRoll} : FldOf K "Roll" "row" r r.row := fun G v ⟨p, dx, x_row, x_firsts, e, h, h_row, h_firsts⟩ => ⟨p, dx, _, x_row, e, h, rfl, h_row⟩
theorem fld_Roll_firsts {K : Frag} {r : MRoll} : FldOf K "Roll" "firsts" r r.firsts := fun G v ⟨p, dx, x_row, x_firsts, e, h, h_row, h_firsts⟩ => ⟨p, dx, _, x_firsts, e, h, rfl, h_firsts⟩
theorem made_Roll {K : Frag} : ∀ (r : MRoll) (p : Addr) (G : Hp) (o : HO), (oins (ga K "Roll") [("row", is K r.row), ("firsts", is K r.firsts)]).p G o → G p = some o → (is K r).p G (.ref p) := by
  rintro r p G o ⟨dx, fs, rfl, h⟩ e
  obtain ⟨x_row, fs, rfl, h_row, h⟩ := paired_cons h
  obtain ⟨x_firsts, fs, rfl, h_firsts, h⟩ := paired_cons h
  cases h
  exact ⟨p, dx, x_row, x_firsts, rfl, e, h_row, h_firsts⟩
section
variable {K : Frag} {mg : Str → Option Value} {base : Heap} {ω : List Ent}
theorem _root_.Lf.CaX.isiR (T : Txt K mg) {r : MRoll} {c : V} {u : Value} {b : Bool} (hc : ClsV c u) (e : PySem.W.kitOne K (.ref (ga K "Roll")) u = some b) : CaX (rIsi K) ω ω [is K r, eqv c] (is K b) := fun G H vs Q wA pa q => by
  obtain ⟨v, v', rfl, ⟨p, dx, x1, x2, rfl, h, _, _⟩, rfl⟩ := PArgs.two pa
  exact ⟨_, _, _, _, b, rfl, hc, .base (.ins (wA.get h) T.cl_Roll T.x_Roll.ha T.x_Roll.hn T.x_Roll.htk T.x_Roll.hm), e, q _ G H (Le.refl _) wA rfl⟩
theorem rollTy (T : Txt K mg) {r : MRoll} {G H : Hp} {v : V} (wA : At G ω H) (h : Rp.rep K G v r) : TyX K H v (.ref (ga K "Roll")) := by
  obtain ⟨p, dx, x1, x2, rfl, h, _, _⟩ := h
  exact .base (.ins (wA.get h) T.cl_Roll T.x_Roll.ha T.x_Roll.hn T.x_Roll.htk T.x_Roll.hm)
end

section
variable {K : Frag} {mg : Str → Option Value} {ω : List Ent}
theorem rollAny {K : Frag} {G : Hp} {v : V} {r : MRoll} (h : Rp.rep K G v r) : AnyV K G v (.roll r.row.l r.firsts.l) := by
  obtain ⟨p, dx, x1, x2, rfl, h, ⟨a, vs, rfl, h1, p1, l1⟩, ⟨b, us, rfl, h2, p2, l2⟩⟩ := h
  rw [ints_of p1] at h1
  rw [ints_of p2] at h2
  exact .roll h h1 h2 l1 l2
instance : ToPV MRoll := { of := fun r => .roll r.row.l r.firsts.l, conv := rollAny }
def asRoll : PV → Option MRoll
  | .roll r f => some ⟨⟨r⟩, ⟨f⟩⟩
  | _ => none
theorem asRoll_imp {x : PV} {r : MRoll} (h : asRoll x = some r) : ∀ (G : Hp) (v : V), (is K x).p G v → (is K r).p G v := fun G v p => by
  cases x with
  | roll row firsts =>
    cases h
    cases (show AnyV K G v (.roll row firsts) from p) with
    | roll h h1 h2 l1 l2 => exact ⟨_, _, _, _, rfl, h, ⟨_, _, rfl, h1, all_ints _, l1⟩, ⟨_, _, rfl, h2, all_ints _, l2⟩⟩
  | _ => cases h
theorem _root_.Lf.CaX.isiP (T : Txt K mg) {x : PV} {c : V} (hc : ClsV c (.ref (ga K "Roll"))) : CaX (rIsi K) ω ω [is K x, eqv c] (is K x.isRoll) := fun G H vs Q wA pa q => by
  obtain ⟨v, v', rfl, pv, rfl⟩ := PArgs.two pa
  have pv : AnyV K G v x := pv
  by_cases n : x.isRoll = false
  · have k : PySem.W.kitOne K (.type x.ty) (.ref (ga K "Roll")) = some x.isRoll := by
      rw [n]
      cases x with
      | non => exact T.k_NoneType_Roll
      | bl b => exact T.k_bool_Roll
      | int i => exact T.k_int_Roll
      | str s => exact T.k_str_Roll
      | lst xs => exact T.k_list_Roll
      | tup xs => exact T.k_tuple_Roll
      | edict => exact T.k_dict_Roll
      | roll r f => cases n
    exact ⟨_, _, _, _, _, rfl, hc, any_ty wA pv n, k, q _ G H (Le.refl _) wA rfl⟩
  · cases pv with
    | roll h h1 h2 l1 l2 => exact ⟨_, _, _, _, true, rfl, hc, .base (.ins (wA.get h) T.cl_Roll T.x_Roll.ha T.x_Roll.hn T.x_Roll.htk T.x_Roll.hm), T.k_Roll_Roll, q _ G H (Le.refl _) wA rfl⟩
    | _ => exact absurd rfl n
theorem _root_.Lf.CaX.isiT (T : Txt K mg) {x : PV} {c : V} {t : String} (hc : ClsV c (.type t)) (hk : ∀ y : PV, y.isRoll = false → PySem.W.kitOne K (.type y.ty) (.type t) = some (y.isTy t)) (hr : PySem.W.kitOne K (.ref (ga K "Roll")) (.type t) = some false) : CaX (rIsi K) ω ω [is K x, eqv c] (is K (x.isTy t)) := fun G H vs Q wA pa q => by
  obtain ⟨v, v', rfl, pv, rfl⟩ := PArgs.two pa
  have pv : AnyV K G v x := pv
  by_cases n : x.isRoll = false
  · exact ⟨_, _, _, _, _, rfl, hc, any_ty wA pv n, hk x n, q _ G H (Le.refl _) wA rfl⟩
  · cases pv with
    | roll h h1 h2 l1 l2 => exact ⟨_, _, _, _, false, rfl, hc, .base (.ins (wA.get h) T.cl_Roll T.x_Roll.ha T.x_Roll.hn T.x_Roll.htk T.x_Roll.hm), hr, q _ G H (Le.refl _) wA rfl⟩
    | _ => exact absurd rfl n
theorem anyk_int {K : Frag} : ∀ y : PV, y.isRoll = false → PySem.W.kitOne K (.type y.ty) (.type "int") = some (y.isTy "int") := fun y n => by
  cases y with
  | non => exact kit_ty (show kitB "NoneType" "int" = some false by decide +kernel)
  | bl b => exact kit_ty (show kitB "bool" "int" = some true by decide +kernel)
  | int i => exact kit_ty (show kitB "int" "int" = some true by decide +kernel)
  | str s => exact kit_ty (show kitB "str" "int" = some false by decide +kernel)
  | lst xs => exact kit_ty (show kitB "list" "int" = some false by decide +kernel)
  | tup xs => exact kit_ty (show kitB "tuple" "int" = some false by decide +kernel)
  | edict => exact kit_ty (show kitB "dict" "int" = some false by decide +kernel)
  | roll _ _ => cases n
theorem anyk_bool {K : Frag} : ∀ y : PV, y.isRoll = false → PySem.W.kitOne K (.type y.ty) (.type "bool") = some (y.isTy "bool") := fun y n => by
  cases y with
  | non => exact kit_ty (show kitB "NoneType" "bool" = some false by decide +kernel)
  | bl b => exact kit_ty (show kitB "bool" "bool" = some true by decide +kernel)
  | int i => exact kit_ty (show kitB "int" "bool" = some false by decide +kernel)
  | str s => exact kit_ty (show kitB "str" "bool" = some false by decide +kernel)
  | lst xs => exact kit_ty (show kitB "list" "bool" = some false by decide +kernel)
  | tup xs => exact kit_ty (show kitB "tuple" "bool" = some false by decide +kernel)
  | edict => exact kit_ty (show kitB "dict" "bool" = some false by decide +kernel)
  | roll _ _ => cases n
theorem anyk_str {K : Frag} : ∀ y : PV, y.isRoll = false → PySem.W.kitOne K (.type y.ty) (.type "str") = some (y.isTy "str") := fun y n => by
  cases y with
  | non => exact kit_ty (show kitB "NoneType" "str" = some false by decide +kernel)
  | bl b => exact kit_ty (show kitB "bool" "str" = some false by decide +kernel)
  | int i => exact kit_ty (show kitB "int" "str" = some false by decide +kernel)
  | str s => exact kit_ty (show kitB "str" "str" = some true by decide +kernel)
  | lst xs => exact kit_ty (show kitB "list" "str" = some false by decide +kernel)
  | tup xs => exact kit_ty (show kitB "tuple" "str" = some false by decide +kernel)
  | edict => exact kit_ty (show kitB "dict" "str" = some false by decide +kernel)
  | roll _ _ => cases n
theorem anyk_list {K : Frag} : ∀ y : PV, y.isRoll = false → PySem.W.kitOne K (.type y.ty) (.type "list") = some (y.isTy "list") := fun y n => by
  cases y with
  | non => exact kit_ty (show kitB "NoneType" "list" = some false by decide +kernel)
  | bl b => exact kit_ty (show kitB "bool" "list" = some false by decide +kernel)
  | int i => exact kit_ty (show kitB "int" "list" = some false by decide +kernel)
  | str s => exact kit_ty (show kitB "str" "list" = some false by decide +kernel)
  | lst xs => exact kit_ty (show kitB "list" "list" = some true by decide +kernel)
  | tup xs => exact kit_ty (show kitB "tuple" "list" = some false by decide +kernel)
  | edict => exact kit_ty (show kitB "dict" "list" = some false by decide +kernel)
  | roll _ _ => cases n
theorem anyk_tuple {K : Frag} : ∀ y : PV, y.isRoll = false → PySem.W.kitOne K (.type y.ty) (.type "tuple") = some (y.isTy "tuple") := fun y n => by
  cases y with
  | non => exact kit_ty (show kitB "NoneType" "tuple" = some false by decide +kernel)
  | bl b => exact kit_ty (show kitB "bool" "tuple" = some false by decide +kernel)
  | int i => exact kit_ty (show kitB "int" "tuple" = some false by decide +kernel)
  | str s => exact kit_ty (show kitB "str" "tuple" = some false by decide +kernel)
  | lst xs => exact kit_ty (show kitB "list" "tuple" = some false by decide +kernel)
  | tup xs => exact kit_ty (show kitB "tuple" "tuple" = some true by decide +kernel)
  | edict => exact kit_ty (show kitB "dict" "tuple" = some false by decide +kernel)
  | roll _ _ => cases n
theorem anyk_dict {K : Frag} : ∀ y : PV, y.isRoll = false → PySem.W.kitOne K (.type y.ty) (.type "dict") = some (y.isTy "dict") := fun y n => by
  cases y with
  | non => exact kit_ty (show kitB "NoneType" "dict" = some false by decide +kernel)
  | bl b => exact kit_ty (show kitB "bool" "dict" = some false by decide +kernel)
  | int i => exact kit_ty (show kitB "int" "dict" = some false by decide +kernel)
  | str s => exact kit_ty (show kitB "str" "dict" = some false by decide +kernel)
  | lst xs => exact kit_ty (show kitB "list" "dict" = some false by decide +kernel)
  | tup xs => exact kit_ty (show kitB "tuple" "dict" = some false by decide +kernel)
  | edict => exact kit_ty (show kitB "dict" "dict" = some true by decide +kernel)
  | roll _ _ => cases n
end

theorem xms_ClerkError (T : Txt K mg) : ∀ cls ∈ (["InvalidNumber", "InvalidList", "InvalidAmount"] : List Str), PySem.W.exmOne K (.ref (ga K cls)) (.ref (ga K "ClerkError")) = some true := by
  intro cls h
  simp only [List.mem_cons, List.not_mem_nil, or_false] at h
  rcases h with rfl | rfl | rfl
  · exact T.xm_InvalidNumber
  · exact T.xm_InvalidList
  · exact T.xm_InvalidAmount
theorem errs_InvalidNumber (T : Txt K mg) : ErrsOk PR K mg ["InvalidNumber", "InvalidList", "InvalidAmount"] "InvalidNumber" := by
  refine ⟨T.k_NoneType_InvalidNumber, fun e h => ?_⟩
  simp only [List.mem_cons, List.not_mem_nil, or_false] at h
  rcases h with rfl | rfl | rfl
  · exact ⟨_, T.e_InvalidNumber, T.x_InvalidNumber, T.k_InvalidNumber_InvalidNumber⟩
  · exact ⟨_, T.e_InvalidList, T.x_InvalidList, T.k_InvalidList_InvalidNumber⟩
  · exact ⟨_, T.e_InvalidAmount, T.x_InvalidAmount, T.k_InvalidAmount_InvalidNumber⟩
theorem errs_InvalidList (T : Txt K mg) : ErrsOk PR K mg ["InvalidNumber", "InvalidList", "InvalidAmount"] "InvalidList" := by
  refine ⟨T.k_NoneType_InvalidList, fun e h => ?_⟩
  simp only [List.mem_cons, List.not_mem_nil, or_false] at h
  rcases h with rfl | rfl | rfl
  · exact ⟨_, T.e_InvalidNumber, T.x_InvalidNumber, T.k_InvalidNumber_InvalidList⟩
  · exact ⟨_, T.e_InvalidList, T.x_InvalidList, T.k_InvalidList_InvalidList⟩
  · exact ⟨_, T.e_InvalidAmount, T.x_InvalidAmount, T.k_InvalidAmount_InvalidList⟩
theorem errs_InvalidAmount (T : Txt K mg) : ErrsOk PR K mg ["InvalidNumber", "InvalidList", "InvalidAmount"] "InvalidAmount" := by
  refine ⟨T.k_NoneType_InvalidAmount, fun e h => ?_⟩
  simp only [List.mem_cons, List.not_mem_nil, or_false] at h
  rcases h with rfl | rfl | rfl
  · exact ⟨_, T.e_InvalidNumber, T.x_InvalidNumber, T.k_InvalidNumber_InvalidAmount⟩
  · exact ⟨_, T.e_InvalidList, T.x_InvalidList, T.k_InvalidList_InvalidAmount⟩
  · exact ⟨_, T.e_InvalidAmount, T.x_InvalidAmount, T.k_InvalidAmount_InvalidAmount⟩
def m_is_whole (value : PV) : Res Bool :=
  .ok ((value.isTy "int") && (!(value.isTy "bool")))
def sp_is_whole (K : Frag) : Sp := fun vs H Q E => ∃ (value : PV) (ω : List Ent) (G : Hp), PArgs G vs [is K value] ∧ At G (ω) H ∧ Says K G (ω) (m_is_whole value) (fun (r : Bool) => RS.val (is K r) (ω)) Q E
theorem use_is_whole {E : XK} {ω : List Ent} {value : PV} : SpR K (sp_is_whole K) E [is K value] ω ω (m_is_whole value) (fun (r : Bool) => RS.val (is K r) (ω)) := fun G H vs Q pa w s => ⟨value, ω, G, pa, w, s⟩
theorem ok_is_whole (T : Txt K mg) : FnOk PR w K mg base (L2.CX PR w) 1 (He.fAd K ("is_whole", none)) T.fd_is_whole ["value"] (sp_is_whole K) := by
  refine T.F_is_whole.ok sc_is_whole (fun vs H Q E h => ?_) (fun cdv A outer s H vs Q E hr h => ⟨_, PSs.nox ((pss_one (ps_ret (pe_and (pe_callB call_isi rfl T.fr_isinstance (by decide +kernel) (pa_cons (pv 0) (pa_cons (pe_bltn (v := .ty "int") rfl T.fr_int (by decide +kernel) rfl) pa_nil))) (pe_one (pe_not (pe_callB call_isi rfl T.fr_isinstance (by decide +kernel) (pa_cons (pv 0) (pa_cons (pe_bltn (v := .ty "bool") rfl T.fr_bool (by decide +kernel) rfl) pa_nil))))))))), ?_⟩)
  · obtain ⟨_, _, _, pa, _, _⟩ := h
    exact pa.len
  · obtain ⟨value, ω, G, pa, wA, sy⟩ := h
    try dsimp only [L2.cxOf, L2.Cx.nox, L2.Cx.wish]
    refine Go.fin (Γ := [some (is K value)]) (fo := (fun (r : Bool) => RS.val (is K r) (ω))) (ω := ω) (ωe := ω) (?_) pa rfl wA sy
    unfold m_is_whole
    exact Go.ret (EvX.and (EvX.ca (EvA.cons (EvX.var (i := 0) rfl) (EvA.cons EvX.c EvA.nil)) (CaX.isiT T (.ty _) anyk_int T.k_Roll_int)) fun _ => (EvX.not (EvX.ca (EvA.cons (EvX.var (i := 0) rfl) (EvA.cons EvX.c EvA.nil)) (CaX.isiT T (.ty _) anyk_bool T.k_Roll_bool)))) rfl (Dr.refl _)
def m_check_number (value : PV) (least : Int) : Res Unit :=
  Res.req (Res.val (m_is_whole value)) fun y1 =>
  Res.req (if (!y1) then some true else (Option.bind (PV.asI value) fun y3 => (some (decide (y3 < least))))) fun y5 =>
  (if y5 then .err ⟨"InvalidNumber", value⟩ else
  Res.req (PV.asI value) fun y10 =>
  .ok ())
def sp_check_number (K : Frag) : Sp := fun vs H Q E => ∃ (value : PV) (least : Int) (ω : List Ent) (G : Hp), PArgs G vs [is K value, is K least] ∧ At G (ω) H ∧ Says K G (ω) (m_check_number value least) (fun (r : Unit) => RS.val (is K r) (ω)) Q E
theorem use_check_number {E : XK} {ω : List Ent} {value : PV} {least : Int} : SpR K (sp_check_number K) E [is K value, is K least] ω ω (m_check_number value least) (fun (r : Unit) => RS.val (is K r) (ω)) := fun G H vs Q pa w s => ⟨value, least, ω, G, pa, w, s⟩
theorem ok_check_number (T : Txt K mg) : FnOk PR w K mg base (L2.CX PR w) 2 (He.fAd K ("check_number", none)) T.fd_check_number ["value", "least"] (sp_check_number K) := by
  refine T.F_check_number.ok sc_check_number (fun vs H Q E h => ?_) (fun cdv A outer s H vs Q E hr h => ⟨_, (pss_one (ps_if (PW.pt (pw_or (pt_not (pt_val (pe_call (ok_is_whole T) (hr.mono (by decide)) rfl T.g_is_whole T.F_is_whole.kp (b_is_whole T) .nil passF (pa_cons (pv 0) pa_nil)))) (pw_or1 (pt_cmpR op_lt (pv 0) (pv 1) (nomark _))))) (pss_one (ps_raiseE rfl T.e_InvalidNumber T.g_InvalidNumber hr (takes_of rfl rfl rfl rfl) (pa_cons (pv 0) pa_nil))) pss_nil)), ?_⟩)
  · obtain ⟨_, _, _, _, pa, _, _⟩ := h
    exact pa.len
  · obtain ⟨value, least, ω, G, pa, wA, sy⟩ := h
    try dsimp only [L2.cxOf, L2.Cx.nox, L2.Cx.wish]
    refine Go.fin (Γ := [some (is K value), some (is K least)]) (fo := (fun (r : Unit) => RS.val (is K r) (ω))) (ω := ω) (ωe := ω) (?_) pa rfl wA sy
    unfold m_check_number
    exact Go.req fun y1 h2 =>
  Go.req fun y5 h6 =>
  Go.last (Go.ifX (EvT.orO (EvT.not (EvT.B (EvX.call (EvA.cons (EvX.var (i := 0) rfl) EvA.nil) (use_is_whole) (val_ok h2) rfl))) (fun _ q7 => (bindO q7 fun y3 h4 q7 => (EvT.eq (EvT.test (EvX.op (EvX.asI (EvX.var (i := 0) rfl) h4) (EvX.var (i := 1) rfl) OpX.lt)) (Option.some.inj q7)))) h6) (fun h8 => Go.raise (EvA.cons (EvX.var (i := 0) rfl) EvA.nil) (Dr.refl _)) (fun _ z => nomatch z) (fun h9 =>
  Go.req fun y10 h11 =>
  Go.tell (i := 0) rfl (asI_imp h11) (
  Go.fall rfl (fun _ => rfl) (Dr.refl _))))
def m_is_amount (value : PV) : Res Bool :=
  Res.req (Res.val (m_is_whole value)) fun y12 =>
  Res.req (if y12 then (Option.bind (PV.asI value) fun y14 => (some (decide ((1 : Int) ≤ y14)))) else some false) fun y16 =>
  .ok y16
def sp_is_amount (K : Frag) : Sp := fun vs H Q E => ∃ (value : PV) (ω : List Ent) (G : Hp), PArgs G vs [is K value] ∧ At G (ω) H ∧ Says K G (ω) (m_is_amount value) (fun (r : Bool) => RS.val (is K r) (ω)) Q E
theorem use_is_amount {E : XK} {ω : List Ent} {value : PV} : SpR K (sp_is_amount K) E [is K value] ω ω (m_is_amount value) (fun (r : Bool) => RS.val (is K r) (ω)) := fun G H vs Q pa w s => ⟨value, ω, G, pa, w, s⟩
theorem ok_is_amount (T : Txt K mg) : FnOk PR w K mg base (L2.CX PR w) 2 (He.fAd K ("is_amount", none)) T.fd_is_amount ["value"] (sp_is_amount K) := by
  refine T.F_is_amount.ok sc_is_amount (fun vs H Q E h => ?_) (fun cdv A outer s H vs Q E hr h => ⟨_, PSs.nox ((pss_one (ps_ret (pe_and (pe_call (ok_is_whole T) (hr.mono (by decide)) rfl T.g_is_whole T.F_is_whole.kp (b_is_whole T) .nil passF (pa_cons (pv 0) pa_nil)) (pe_one (pe_cmpR op_ge (pv 0) pe_int (nomark _))))))), ?_⟩)
  · obtain ⟨_, _, _, pa, _, _⟩ := h
    exact pa.len
  · obtain ⟨value, ω, G, pa, wA, sy⟩ := h
    try dsimp only [L2.cxOf, L2.Cx.nox, L2.Cx.wish]
    refine Go.fin (Γ := [some (is K value)]) (fo := (fun (r : Bool) => RS.val (is K r) (ω))) (ω := ω) (ωe := ω) (?_) pa rfl wA sy
    unfold m_is_amount
    exact Go.req fun y12 h13 =>
  Go.req fun y16 h17 =>
  Go.ret (EvX.andO (EvX.call (EvA.cons (EvX.var (i := 0) rfl) EvA.nil) (use_is_whole) (val_ok h13) rfl) (fun _ q18 => (bindO q18 fun y14 h15 q18 => (EvX.eq (EvX.op (EvX.asI (EvX.var (i := 0) rfl) h15) EvX.int OpX.ge) (Option.some.inj q18)))) h17) rfl (Dr.refl _)
def m_check_amount (value : PV) : Res Unit :=
  Res.req (Res.val (m_is_amount value)) fun y19 =>
  (if (!y19) then .err ⟨"InvalidAmount", value⟩ else
  .ok ())
def sp_check_amount (K : Frag) : Sp := fun vs H Q E => ∃ (value : PV) (ω : List Ent) (G : Hp), PArgs G vs [is K value] ∧ At G (ω) H ∧ Says K G (ω) (m_check_amount value) (fun (r : Unit) => RS.val (is K r) (ω)) Q E
theorem use_check_amount {E : XK} {ω : List Ent} {value : PV} : SpR K (sp_check_amount K) E [is K value] ω ω (m_check_amount value) (fun (r : Unit) => RS.val (is K r) (ω)) := fun G H vs Q pa w s => ⟨value, ω, G, pa, w, s⟩
theorem ok_check_amount (T : Txt K mg) : FnOk PR w K mg base (L2.CX PR w) 3 (He.fAd K ("check_amount", none)) T.fd_check_amount ["value"] (sp_check_amount K) := by
  refine T.F_check_amount.ok sc_check_amount (fun vs H Q E h => ?_) (fun cdv A outer s H vs Q E hr h => ⟨_, (pss_one (ps_if (pt_not (pt_val (pe_call (ok_is_amount T) (hr.mono (by decide)) rfl T.g_is_amount T.F_is_amount.kp (b_is_amount T) .nil passF (pa_cons (pv 0) pa_nil)))) (pss_one (ps_raiseE rfl T.e_InvalidAmount T.g_InvalidAmount hr (takes_of rfl rfl rfl rfl) (pa_cons (pv 0) pa_nil))) pss_nil)), ?_⟩)
  · obtain ⟨_, _, _, pa, _, _⟩ := h
    exact pa.len
  · obtain ⟨value, ω, G, pa, wA, sy⟩ := h
    try dsimp only [L2.cxOf, L2.Cx.nox, L2.Cx.wish]
    refine Go.fin (Γ := [some (is K value)]) (fo := (fun (r : Unit) => RS.val (is K r) (ω))) (ω := ω) (ωe := ω) (?_) pa rfl wA sy
    unfold m_check_amount
    exact Go.req fun y19 h20 =>
  Go.last (Go.ifX (EvT.not (EvT.B (EvX.call (EvA.cons (EvX.var (i := 0) rfl) EvA.nil) (use_is_amount) (val_ok h20) rfl))) (fun h21 => Go.raise (EvA.cons (EvX.var (i := 0) rfl) EvA.nil) (Dr.refl _)) (fun _ z => nomatch z) (fun h22 =>
  Go.fall rfl (fun _ => rfl) (Dr.refl _)))
def m_check_list (value : PV) : Res Unit :=
  (if (!(value.isTy "list")) then .err ⟨"InvalidList", value⟩ else
  .ok ())
def sp_check_list (K : Frag) : Sp := fun vs H Q E => ∃ (value : PV) (ω : List Ent) (G : Hp), PArgs G vs [is K value] ∧ At G (ω) H ∧ Says K G (ω) (m_check_list value) (fun (r : Unit) => RS.val (is K r) (ω)) Q E
theorem use_check_list {E : XK} {ω : List Ent} {value : PV} : SpR K (sp_check_list K) E [is K value] ω ω (m_check_list value) (fun (r : Unit) => RS.val (is K r) (ω)) := fun G H vs Q pa w s => ⟨value, ω, G, pa, w, s⟩
theorem ok_check_list (T : Txt K mg) : FnOk PR w K mg base (L2.CX PR w) 1 (He.fAd K ("check_list", none)) T.fd_check_list ["value"] (sp_check_list K) := by
  refine T.F_check_list.ok sc_check_list (fun vs H Q E h => ?_) (fun cdv A outer s H vs Q E hr h => ⟨_, (pss_one (ps_if (pt_not (pt_val (pe_callB call_isi rfl T.fr_isinstance (by decide +kernel) (pa_cons (pv 0) (pa_cons (pe_bltn (v := .ty "list") rfl T.fr_list (by decide +kernel) rfl) pa_nil))))) (pss_one (ps_raiseE rfl T.e_InvalidList T.g_InvalidList hr (takes_of rfl rfl rfl rfl) (pa_cons (pv 0) pa_nil))) pss_nil)), ?_⟩)
  · obtain ⟨_, _, _, pa, _, _⟩ := h
    exact pa.len
  · obtain ⟨value, ω, G, pa, wA, sy⟩ := h
    try dsimp only [L2.cxOf, L2.Cx.nox, L2.Cx.wish]
    refine Go.fin (Γ := [some (is K value)]) (fo := (fun (r : Unit) => RS.val (is K r) (ω))) (ω := ω) (ωe := ω) (?_) pa rfl wA sy
    unfold m_check_list
    exact Go.last (Go.ifX (EvT.not (EvT.B (EvX.ca (EvA.cons (EvX.var (i := 0) rfl) (EvA.cons EvX.c EvA.nil)) (CaX.isiT T (.ty _) anyk_list T.k_Roll_list)))) (fun h23 => Go.raise (EvA.cons (EvX.var (i := 0) rfl) EvA.nil) (Dr.refl _)) (fun _ z => nomatch z) (fun h24 =>
  Go.fall rfl (fun _ => rfl) (Dr.refl _)))
def m_check_amounts (value : PV) : Res Unit :=
  Res.bind (m_check_list value) fun y25 =>
  Res.req (PV.asL value) fun y27 =>
  Res.bind (Res.fold (fun (s29 : Unit) (x30 : PV) =>
  Res.bind (m_check_amount x30) fun y31 =>
  Res.req (PV.asI x30) fun y33 =>
  .ok ()) y27 ()) fun (s35 : Unit) =>
  .ok ()
def sp_check_amounts (K : Frag) : Sp := fun vs H Q E => ∃ (value : PV) (ω : List Ent) (G : Hp), PArgs G vs [is K value] ∧ At G (ω) H ∧ Says K G (ω) (m_check_amounts value) (fun (r : Unit) => RS.val (is K r) (ω)) Q E
theorem use_check_amounts {E : XK} {ω : List Ent} {value : PV} : SpR K (sp_check_amounts K) E [is K value] ω ω (m_check_amounts value) (fun (r : Unit) => RS.val (is K r) (ω)) := fun G H vs Q pa w s => ⟨value, ω, G, pa, w, s⟩
theorem ok_check_amounts (T : Txt K mg) : FnOk PR w K mg base (L2.CX PR w) 4 (He.fAd K ("check_amounts", none)) T.fd_check_amounts ["value"] (sp_check_amounts K) := by
  refine T.F_check_amounts.ok sc_check_amounts (fun vs H Q E h => ?_) (fun cdv A outer s H vs Q E hr h => ⟨_, (pss_cons (ps_expr (pe_call (ok_check_list T) (hr.mono (by decide)) rfl T.g_check_list T.F_check_list.kp (b_check_list T) .nil (passes_call (takes_of rfl rfl rfl rfl) fun _ _ _ _ h => h) (pa_cons (pv 0) pa_nil)))
      (pss_one (ps_for (passes_of rfl) rfl (pi_list (pv 0)) (pg_name (i := 1) sc_check_amounts.nd rfl (by first | exact .inl rfl | exact .inr rfl))
      (pss_one (ps_expr (pe_call (ok_check_amount T) (hr.mono (by decide)) rfl T.g_check_amount T.F_check_amount.kp (b_check_amount T) .nil (passes_call (takes_of rfl rfl rfl rfl) fun _ _ _ _ h => h) (pa_cons (pv 1) pa_nil))))))), ?_⟩)
  · obtain ⟨_, _, _, pa, _, _⟩ := h
    exact pa.len
  · obtain ⟨value, ω, G, pa, wA, sy⟩ := h
    try dsimp only [L2.cxOf, L2.Cx.nox, L2.Cx.wish]
    refine Go.fin (Γ := [some (is K value), none]) (fo := (fun (r : Unit) => RS.val (is K r) (ω))) (ω := ω) (ωe := ω) (?_) pa rfl wA sy
    unfold m_check_amounts
    exact Go.dropCall (EvA.cons (EvX.var (i := 0) rfl) EvA.nil) (use_check_list) (Dr.refl _) fun y25 h26 =>
  Go.req fun y27 h28 =>
  Go.tell (i := 0) rfl (asL_imp h28) (
  Go.last (Go.seqN (fn := (fun (s29 : Unit) => ([some (is K (y27 : (List PV))), none], (ω)))) (Go.forN (IterX.list (EvX.var (i := 0) rfl)) (Sub.keep (Sub.keep Sub.nil)) (Dr.refl _) (fun _ => trivial) (fun s29 => TgX.name) fun s29 x30 =>
  Go.last (Go.dropCall (EvA.cons (EvX.var (i := 1) rfl) EvA.nil) (use_check_amount) (Dr.refl _) fun y31 h32 =>
  Go.req fun y33 h34 =>
  Go.tell (i := 1) rfl (asI_imp h34) (
  Go.next (Sub.keep (Sub.lose Sub.nil)) (Dr.refl _)))) fun s35 h36 =>
  Go.fall rfl (fun _ => rfl) (Dr.refl _)))
def m_Roll_init (worths : (List Int)) : Res MRoll :=
  (if ((!true) || (decide (worths = []))) then .bad else
  Res.bind (Res.fold (fun (s39 : Unit) (x40 : Int) =>
  Res.req (Res.val (m_is_whole (PV.of (x40 : Int)))) fun y41 =>
  (if ((!y41) || (decide (x40 < (1 : Int)))) then .bad else
  .ok ())) worths ()) fun (s45 : Unit) =>
  Res.bind (Res.fold (fun (s48 : (List Int)) (x49 : Int) =>
  Res.req (atI s48 (-(1 : Int))) fun y50 =>
  Res.req (app s48 (y50 + x49)) fun y52 =>
  .ok y52) worths [(0 : Int)]) fun (s54 : (List Int)) =>
  .ok (MRoll.mk ((Tu.mk worths) : (Tu Int)) ((Tu.mk s54) : (Tu Int))))
def sp_Roll_init (K : Frag) : Sp := fun vs H Q E => ∃ (worths : (List Int)) (p_self : Addr) (ω : List Ent) (G : Hp), PArgs G vs [adr p_self, is K worths] ∧ At G (.own p_self (oins (ga K "Roll") []) :: ω) H ∧ Says K G ω (m_Roll_init worths) (fun (r : MRoll) => RS.val (is K ()) (.own p_self (oins (ga K "Roll") [("row", is K r.row), ("firsts", is K r.firsts)]) :: ω)) Q E
theorem use_Roll_init {E : XK} {ω : List Ent} {worths : (List Int)} {p_self : Addr} : SpR K (sp_Roll_init K) E [adr p_self, is K worths] (.own p_self (oins (ga K "Roll") []) :: ω) ω (m_Roll_init worths) (fun (r : MRoll) => RS.val (is K ()) (.own p_self (oins (ga K "Roll") [("row", is K r.row), ("firsts", is K r.firsts)]) :: ω)) := fun G H vs Q pa w s => ⟨worths, p_self, ω, G, pa, w, s⟩
theorem ok_Roll_init (T : Txt K mg) : FnOk PR w K mg base (L2.CX PR w) 2 (He.fAd K ("Roll", some "__init__")) T.fd_Roll_init ["self", "worths"] (sp_Roll_init K) := by
  refine T.F_Roll_init.ok sc_Roll_init (fun vs H Q E h => ?_) (fun cdv A outer s H vs Q E hr h => ⟨_, PSs.nox ((pss_cons (ps_if (PW.pt (pw_or (pt_not (pt_val (pe_callB call_isi rfl T.fr_isinstance (by decide +kernel) (pa_cons (pv 1) (pa_cons (pe_bltn (v := .ty "list") rfl T.fr_list (by decide +kernel) rfl) pa_nil))))) (pw_or1 (pt_cmpR (op_eqD hr.units) (pv 1) (pe_lst pa_nil) (nomark _))))) (pss_one ps_never) pss_nil)
      (pss_cons (ps_for PassesOwn.never rfl (pi_list (pv 1)) (pg_name (i := 2) sc_Roll_init.nd rfl (by first | exact .inl rfl | exact .inr rfl))
      (pss_one (ps_if (PW.pt (pw_or (pt_not (pt_val (pe_call (ok_is_whole T) (hr.mono (by decide)) rfl T.g_is_whole T.F_is_whole.kp (b_is_whole T) .nil passF (pa_cons (pv 2) pa_nil)))) (pw_or1 (pt_cmpR op_lt (pv 2) pe_int (nomark _))))) (pss_one ps_never) pss_nil)))
      (pss_cons (ps_fld (pv 0) (pe_callTy RC.call_tupS rfl T.fr_tuple (by decide +kernel) (pa_cons (pv 1) pa_nil)) rfl)
      (pss_cons (ps_set (i := 3) sc_Roll_init.nd rfl (by first | exact .inl rfl | exact .inr rfl) (pe_lst (pa_cons pe_int pa_nil)))
      (pss_cons (ps_for PassesOwn.never rfl (pi_list (pv 1)) (pg_name (i := 2) sc_Roll_init.nd rfl (by first | exact .inl rfl | exact .inr rfl))
      (pss_one (ps_expr (pe_bm PySem.F.plainAttrs_list PySem.F.slot_list_append PySem.F.type_list_append mt_append (pv 3) (pa_cons (pe_op op_add (pe_ix ix_list (pv 3) (pe_un un_neg pe_int) (fun _ _ => rfl)) (pv 2)) pa_nil)))))
      (pss_one (ps_fld (pv 0) (pe_callTy RC.call_tupS rfl T.fr_tuple (by decide +kernel) (pa_cons (pv 3) pa_nil)) rfl)))))))), ?_⟩)
  · obtain ⟨_, _, _, _, pa, _, _⟩ := h
    exact pa.len
  · obtain ⟨worths, p_self, ω, G, pa, wA, sy⟩ := h
    try dsimp only [L2.cxOf, L2.Cx.nox, L2.Cx.wish]
    refine Go.fin (Γ := [some (adr p_self), some (is K worths), none, none]) (fo := (fun (r : MRoll) => RS.val (is K ()) (.own p_self (oins (ga K "Roll") [("row", is K r.row), ("firsts", is K r.firsts)]) :: ω))) (ω := .own p_self (oins (ga K "Roll") []) :: ω) (ωe := ω) (?_) pa rfl wA sy
    unfold m_Roll_init
    exact Go.ifX (EvT.or (EvT.not (EvT.B (EvX.ca (EvA.cons (EvX.var (i := 1) rfl) (EvA.cons EvX.c EvA.nil)) (CaX.isi (b := true) (.ty _) (kit_ty (by decide +kernel)))))) fun _ => (EvT.test (EvX.op (EvX.var (i := 1) rfl) (EvX.fr (EvF.lst EvA.nil rfl (by show 0 ≤ sizeLine; decide))) (OpX.eqA DtAt.of DtAt.of (by decide))))) (fun h37 => Go.never) (fun _ z => nomatch z) (fun h38 =>
  Go.seqN (fn := (fun (s39 : Unit) => ([some (adr p_self), some (is K (worths : (List Int))), none, none], (.own p_self (oins (ga K "Roll") []) :: ω)))) (Go.forN (IterX.list (EvX.var (i := 1) rfl)) (Sub.keep (Sub.keep (Sub.keep (Sub.keep Sub.nil)))) (Dr.refl _) (fun _ => trivial) (fun s39 => TgX.name) fun s39 x40 =>
  Go.req fun y41 h42 =>
  Go.last (Go.ifX (EvT.or (EvT.not (EvT.B (EvX.call (EvA.cons (EvX.any (x := (x40 : Int)) (EvX.var (i := 2) rfl)) EvA.nil) (use_is_whole) (val_ok h42) rfl))) fun _ => (EvT.test (EvX.op (EvX.var (i := 2) rfl) EvX.int OpX.lt))) (fun h43 => Go.never) (fun _ z => nomatch z) (fun h44 =>
  Go.next (Sub.keep (Sub.keep (Sub.lose (Sub.keep Sub.nil)))) (Dr.refl _)))) fun s45 h46 =>
  Go.setF (k := 0) (EvX.ca (EvA.cons (EvX.var (i := 1) rfl) EvA.nil) CaX.tuple) (EvX.var (i := 0) rfl) rfl rfl (by show 0 < 1000; decide) T.cl_Roll T.na_Roll_row (
  Go.asgF (i := 3) (φ := olst K ([(0 : Int)] : (List Int))) (EvF.lst (EvA.cons EvX.int EvA.nil) rfl (by show 1 ≤ sizeLine; decide)) fun p47 =>
  Go.seqN (fn := (fun (s48 : (List Int)) => ([some (adr p_self), some (is K (worths : (List Int))), none, some (adr p47)], (.own p47 (olst K (s48 : (List Int))) :: .own p_self (oins (ga K "Roll") [("row", is K ((Tu.mk worths) : (Tu Int)))]) :: ω)))) (Go.forN (IterX.list (EvX.var (i := 1) rfl)) (Sub.keep (Sub.keep (Sub.keep (Sub.keep Sub.nil)))) (Dr.refl _) (fun _ => trivial) (fun s48 => TgX.name) fun s48 x49 =>
  Go.req fun y50 h51 =>
  Go.req fun y52 h53 =>
  Go.last (Go.app (k := 0) (EvX.var (i := 3) rfl) ⟨_, rfl⟩ (EvX.op (EvX.op (EvX.var (i := 3) rfl) (EvX.neg EvX.int) (OpX.ixO (k := 0) rfl h51)) (EvX.var (i := 2) rfl) OpX.add) rfl h53 (
  Go.next (Sub.keep (Sub.keep (Sub.lose (Sub.keep Sub.nil)))) (Dr.refl _)))) fun s54 h55 =>
  Go.last (Go.setF (k := 1) (EvX.ca (EvA.cons (EvX.var (i := 3) rfl) EvA.nil) (CaX.tupleO (k := 0) rfl)) (EvX.var (i := 0) rfl) rfl rfl (by show 1 < 1000; decide) T.cl_Roll T.na_Roll_firsts (
  Go.fall rfl (fun _ => rfl) (Dr.drop (Dr.refl _))))))
def m_Roll_worths (self : MRoll) : Res (List Int) :=
  .ok self.row.l
def sp_Roll_worths (K : Frag) : Sp := fun vs H Q E => ∃ (self : MRoll) (ω : List Ent) (G : Hp), PArgs G vs [is K self] ∧ At G (ω) H ∧ Says K G (ω) (m_Roll_worths self) (fun (r : (List Int)) => RS.own (olst K (r : (List Int))) (ω)) Q E
theorem use_Roll_worths {E : XK} {ω : List Ent} {self : MRoll} : SpR K (sp_Roll_worths K) E [is K self] ω ω (m_Roll_worths self) (fun (r : (List Int)) => RS.own (olst K (r : (List Int))) (ω)) := fun G H vs Q pa w s => ⟨self, ω, G, pa, w, s⟩
theorem ok_Roll_worths (T : Txt K mg) : FnOk PR w K mg base (L2.CX PR w) 1 (He.fAd K ("Roll", some "worths")) T.fd_Roll_worths ["self"] (sp_Roll_worths K) := by
  refine T.F_Roll_worths.ok sc_Roll_worths (fun vs H Q E h => ?_) (fun cdv A outer s H vs Q E hr h => ⟨_, PSs.nox ((pss_one (ps_ret (pe_callTy RC.call_listS rfl T.fr_list (by decide +kernel) (pa_cons (pe_fld (pv 0) rfl) pa_nil))))), ?_⟩)
  · obtain ⟨_, _, _, pa, _, _⟩ := h
    exact pa.len
  · obtain ⟨self, ω, G, pa, wA, sy⟩ := h
    try dsimp only [L2.cxOf, L2.Cx.nox, L2.Cx.wish]
    refine Go.fin (Γ := [some (is K self)]) (fo := (fun (r : (List Int)) => RS.own (olst K (r : (List Int))) (ω))) (ω := ω) (ωe := ω) (?_) pa rfl wA sy
    unfold m_Roll_worths
    exact Go.retF (EvF.ca (EvA.cons (EvX.fld (EvX.var (i := 0) rfl) fld_Roll_row T.cl_Roll T.na_Roll_row) EvA.nil) CaF.listT) rfl (Dr.refl _)
def m_Roll_len (self : MRoll) : Res Int :=
  .ok (self.row.l.length : Int)
def sp_Roll_len (K : Frag) : Sp := fun vs H Q E => ∃ (self : MRoll) (ω : List Ent) (G : Hp), PArgs G vs [is K self] ∧ At G (ω) H ∧ Says K G (ω) (m_Roll_len self) (fun (r : Int) => RS.val (is K r) (ω)) Q E
theorem use_Roll_len {E : XK} {ω : List Ent} {self : MRoll} : SpR K (sp_Roll_len K) E [is K self] ω ω (m_Roll_len self) (fun (r : Int) => RS.val (is K r) (ω)) := fun G H vs Q pa w s => ⟨self, ω, G, pa, w, s⟩
theorem ok_Roll_len (T : Txt K mg) : FnOk PR w K mg base (L2.CX PR w) 1 (He.fAd K ("Roll", some "__len__")) T.fd_Roll_len ["self"] (sp_Roll_len K) := by
  refine T.F_Roll_len.ok sc_Roll_len (fun vs H Q E h => ?_) (fun cdv A outer s H vs Q E hr h => ⟨_, PSs.nox ((pss_one (ps_ret (pe_callB RC.call_lenS rfl T.fr_len (by decide +kernel) (pa_cons (pe_fld (pv 0) rfl) pa_nil))))), ?_⟩)
  · obtain ⟨_, _, _, pa, _, _⟩ := h
    exact pa.len
  · obtain ⟨self, ω, G, pa, wA, sy⟩ := h
    try dsimp only [L2.cxOf, L2.Cx.nox, L2.Cx.wish]
    refine Go.fin (Γ := [some (is K self)]) (fo := (fun (r : Int) => RS.val (is K r) (ω))) (ω := ω) (ωe := ω) (?_) pa rfl wA sy
    unfold m_Roll_len
    exact Go.ret (EvX.ca (EvA.cons (EvX.fld (EvX.var (i := 0) rfl) fld_Roll_row T.cl_Roll T.na_Roll_row) EvA.nil) CaX.lenT) rfl (Dr.refl _)
def lenOk (m : Res Int) : Option Int := match m with
  | .ok n => if 0 ≤ n ∧ n < 2 ^ 63 then some n else none
  | _ => none
theorem lenOk_of {m : Res Int} {n : Int} (h : lenOk m = some n) : m = .ok n ∧ 0 ≤ n ∧ n < 2 ^ 63 := by
  unfold lenOk at h
  split at h
  · split at h
    · rename_i c
      cases h
      exact ⟨rfl, c⟩
    · cases h
  · cases h
theorem call_lenR {X : Cx} (hp : X.prog = PR) (T : Txt X.K X.mg) (hr : Room 2 X.A) : CallR X (.builtin "len") (RC.rLenO (ga X.K "Roll") (sp_Roll_len X.K) fun _ _ _ => False) := RC.call_lenOwn (CX := L2.CX X.prog X.w) T.m_Roll_len (hp ▸ ok_Roll_len T) (hr.mono (by decide)) (b_Roll_len T) passF
theorem _root_.Lf.CaX.lenR {K : Frag} {ω : List Ent} {r : MRoll} {n : Int} (h : lenOk (m_Roll_len r) = some n) : CaX (RC.rLenO (ga K "Roll") (sp_Roll_len K) fun _ _ _ => False) ω ω [is K r] (is K n) := fun G H vs Q wA pa q => by
  obtain ⟨v, rfl, hv⟩ := PArgs.one pa
  obtain ⟨e, h0⟩ := lenOk_of h
  obtain ⟨p, dx, fs, rfl, hi, _⟩ := Ob.at_ hv
  exact ⟨p, dx, fs, rfl, wA.get hi, use_Roll_len G H _ _ pa wA (Says.ok' e fun v G2 H2 s2 w2 p2 => ⟨n, p2, h0, q _ G2 H2 s2 w2 rfl⟩)⟩

def m_Roll_lap (self : MRoll) : Res Int :=
  Res.req (atI self.firsts.l (-(1 : Int))) fun y56 =>
  .ok y56
def sp_Roll_lap (K : Frag) : Sp := fun vs H Q E => ∃ (self : MRoll) (ω : List Ent) (G : Hp), PArgs G vs [is K self] ∧ At G (ω) H ∧ Says K G (ω) (m_Roll_lap self) (fun (r : Int) => RS.val (is K r) (ω)) Q E
theorem use_Roll_lap {E : XK} {ω : List Ent} {self : MRoll} : SpR K (sp_Roll_lap K) E [is K self] ω ω (m_Roll_lap self) (fun (r : Int) => RS.val (is K r) (ω)) := fun G H vs Q pa w s => ⟨self, ω, G, pa, w, s⟩
theorem ok_Roll_lap (T : Txt K mg) : FnOk PR w K mg base (L2.CX PR w) 1 (He.fAd K ("Roll", some "lap")) T.fd_Roll_lap ["self"] (sp_Roll_lap K) := by
  refine T.F_Roll_lap.ok sc_Roll_lap (fun vs H Q E h => ?_) (fun cdv A outer s H vs Q E hr h => ⟨_, PSs.nox ((pss_one (ps_ret (pe_ix ix_tup (pe_fld (pv 0) rfl) (pe_un un_neg pe_int) (fun _ _ => rfl))))), ?_⟩)
  · obtain ⟨_, _, _, pa, _, _⟩ := h
    exact pa.len
  · obtain ⟨self, ω, G, pa, wA, sy⟩ := h
    try dsimp only [L2.cxOf, L2.Cx.nox, L2.Cx.wish]
    refine Go.fin (Γ := [some (is K self)]) (fo := (fun (r : Int) => RS.val (is K r) (ω))) (ω := ω) (ωe := ω) (?_) pa rfl wA sy
    unfold m_Roll_lap
    exact Go.req fun y56 h57 =>
  Go.ret (EvX.op (EvX.fld (EvX.var (i := 0) rfl) fld_Roll_firsts T.cl_Roll T.na_Roll_firsts) (EvX.neg EvX.int) (OpX.ixT h57)) rfl (Dr.refl _)
def m_Roll_worth (self : MRoll) (at' : Int) : Res Int :=
  Res.req (Res.val (m_check_number (PV.of (at' : Int)) (0 : Int))) fun y58 =>
  Res.req (imod at' (self.row.l.length : Int)) fun y60 =>
  Res.req (atI self.row.l y60) fun y62 =>
  .ok y62
def sp_Roll_worth (K : Frag) : Sp := fun vs H Q E => ∃ (self : MRoll) (at' : Int) (ω : List Ent) (G : Hp), PArgs G vs [is K self, is K at'] ∧ At G (ω) H ∧ Says K G (ω) (m_Roll_worth self at') (fun (r : Int) => RS.val (is K r) (ω)) Q E
theorem use_Roll_worth {E : XK} {ω : List Ent} {self : MRoll} {at' : Int} : SpR K (sp_Roll_worth K) E [is K self, is K at'] ω ω (m_Roll_worth self at') (fun (r : Int) => RS.val (is K r) (ω)) := fun G H vs Q pa w s => ⟨self, at', ω, G, pa, w, s⟩
theorem ok_Roll_worth (T : Txt K mg) : FnOk PR w K mg base (L2.CX PR w) 3 (He.fAd K ("Roll", some "worth")) T.fd_Roll_worth ["self", "at"] (sp_Roll_worth K) := by
  refine T.F_Roll_worth.ok sc_Roll_worth (fun vs H Q E h => ?_) (fun cdv A outer s H vs Q E hr h => ⟨_, PSs.nox ((pss_cons (ps_expr (pe_call (ok_check_number T) (hr.mono (by decide)) rfl T.g_check_number T.F_check_number.kp (b_check_number T) .nil passF (pa_cons (pv 1) (pa_cons pe_int pa_nil))))
      (pss_one (ps_ret (pe_ix ix_tup (pe_fld (pv 0) rfl) (pe_op op_mod (pv 1) (pe_callB RC.call_lenS rfl T.fr_len (by decide +kernel) (pa_cons (pe_fld (pv 0) rfl) pa_nil))) (fun _ _ => rfl)))))), ?_⟩)
  · obtain ⟨_, _, _, _, pa, _, _⟩ := h
    exact pa.len
  · obtain ⟨self, at', ω, G, pa, wA, sy⟩ := h
    try dsimp only [L2.cxOf, L2.Cx.nox, L2.Cx.wish]
    refine Go.fin (Γ := [some (is K self), some (is K at')]) (fo := (fun (r : Int) => RS.val (is K r) (ω))) (ω := ω) (ωe := ω) (?_) pa rfl wA sy
    unfold m_Roll_worth
    exact Go.req fun y58 h59 =>
  Go.drop (EvX.call (EvA.cons (EvX.any (x := (at' : Int)) (EvX.var (i := 1) rfl)) (EvA.cons EvX.int EvA.nil)) (use_check_number) (val_ok h59) rfl) (
  Go.req fun y60 h61 =>
  Go.req fun y62 h63 =>
  Go.ret (EvX.op (EvX.fld (EvX.var (i := 0) rfl) fld_Roll_row T.cl_Roll T.na_Roll_row) (EvX.op (EvX.var (i := 1) rfl) (EvX.ca (EvA.cons (EvX.fld (EvX.var (i := 0) rfl) fld_Roll_row T.cl_Roll T.na_Roll_row) EvA.nil) CaX.lenT) (OpX.mod h61)) (OpX.ixT h63)) rfl (Dr.refl _))
def m_Roll_upto (self : MRoll) (many : Int) : Res Int :=
  Res.req (ifdiv many (self.row.l.length : Int)) fun y64 =>
  Res.req (atI self.firsts.l (-(1 : Int))) fun y66 =>
  Res.req (imul y64 y66) fun y68 =>
  Res.req (imod many (self.row.l.length : Int)) fun y70 =>
  Res.req (atI self.firsts.l y70) fun y72 =>
  .ok (y68 + y72)
def sp_Roll_upto (K : Frag) : Sp := fun vs H Q E => ∃ (self : MRoll) (many : Int) (ω : List Ent) (G : Hp), PArgs G vs [is K self, is K many] ∧ At G (ω) H ∧ Says K G (ω) (m_Roll_upto self many) (fun (r : Int) => RS.val (is K r) (ω)) Q E
theorem use_Roll_upto {E : XK} {ω : List Ent} {self : MRoll} {many : Int} : SpR K (sp_Roll_upto K) E [is K self, is K many] ω ω (m_Roll_upto self many) (fun (r : Int) => RS.val (is K r) (ω)) := fun G H vs Q pa w s => ⟨self, many, ω, G, pa, w, s⟩
theorem ok_Roll_upto (T : Txt K mg) : FnOk PR w K mg base (L2.CX PR w) 1 (He.fAd K ("Roll", some "upto")) T.fd_Roll_upto ["self", "many"] (sp_Roll_upto K) := by
  refine T.F_Roll_upto.ok sc_Roll_upto (fun vs H Q E h => ?_) (fun cdv A outer s H vs Q E hr h => ⟨_, PSs.nox ((pss_one (ps_ret (pe_op op_add (pe_op op_mulW (pe_op op_fdivW (pv 1) (pe_callB RC.call_lenS rfl T.fr_len (by decide +kernel) (pa_cons (pe_fld (pv 0) rfl) pa_nil))) (pe_ix ix_tup (pe_fld (pv 0) rfl) (pe_un un_neg pe_int) (fun _ _ => rfl))) (pe_ix ix_tup (pe_fld (pv 0) rfl) (pe_op op_mod (pv 1) (pe_callB RC.call_lenS rfl T.fr_len (by decide +kernel) (pa_cons (pe_fld (pv 0) rfl) pa_nil))) (fun _ _ => rfl)))))), ?_⟩)
  · obtain ⟨_, _, _, _, pa, _, _⟩ := h
    exact pa.len
  · obtain ⟨self, many, ω, G, pa, wA, sy⟩ := h
    try dsimp only [L2.cxOf, L2.Cx.nox, L2.Cx.wish]
    refine Go.fin (Γ := [some (is K self), some (is K many)]) (fo := (fun (r : Int) => RS.val (is K r) (ω))) (ω := ω) (ωe := ω) (?_) pa rfl wA sy
    unfold m_Roll_upto
    exact Go.req fun y64 h65 =>
  Go.req fun y66 h67 =>
  Go.req fun y68 h69 =>
  Go.req fun y70 h71 =>
  Go.req fun y72 h73 =>
  Go.ret (EvX.op (EvX.op (EvX.op (EvX.var (i := 1) rfl) (EvX.ca (EvA.cons (EvX.fld (EvX.var (i := 0) rfl) fld_Roll_row T.cl_Roll T.na_Roll_row) EvA.nil) CaX.lenT) (OpX.fdiv h65)) (EvX.op (EvX.fld (EvX.var (i := 0) rfl) fld_Roll_firsts T.cl_Roll T.na_Roll_firsts) (EvX.neg EvX.int) (OpX.ixT h67)) (OpX.mul h69)) (EvX.op (EvX.fld (EvX.var (i := 0) rfl) fld_Roll_firsts T.cl_Roll T.na_Roll_firsts) (EvX.op (EvX.var (i := 1) rfl) (EvX.ca (EvA.cons (EvX.fld (EvX.var (i := 0) rfl) fld_Roll_row T.cl_Roll T.na_Roll_row) EvA.nil) CaX.lenT) (OpX.mod h71)) (OpX.ixT h73)) OpX.add) rfl (Dr.refl _)
def m_Roll_total (self : MRoll) (start : Int) (length : Int) : Res Int :=
  Res.req (Res.val (m_check_number (PV.of (start : Int)) (0 : Int))) fun y74 =>
  Res.req (Res.val (m_check_number (PV.of (length : Int)) (0 : Int))) fun y76 =>
  Res.req (Res.val (m_Roll_upto self (start + length))) fun y78 =>
  Res.req (Res.val (m_Roll_upto self start)) fun y80 =>
  .ok (y78 - y80)
def sp_Roll_total (K : Frag) : Sp := fun vs H Q E => ∃ (self : MRoll) (start : Int) (length : Int) (ω : List Ent) (G : Hp), PArgs G vs [is K self, is K start, is K length] ∧ At G (ω) H ∧ Says K G (ω) (m_Roll_total self start length) (fun (r : Int) => RS.val (is K r) (ω)) Q E
theorem use_Roll_total {E : XK} {ω : List Ent} {self : MRoll} {start : Int} {length : Int} : SpR K (sp_Roll_total K) E [is K self, is K start, is K length] ω ω (m_Roll_total self start length) (fun (r : Int) => RS.val (is K r) (ω)) := fun G H vs Q pa w s => ⟨self, start, length, ω, G, pa, w, s⟩
theorem ok_Roll_total (T : Txt K mg) : FnOk PR w K mg base (L2.CX PR w) 3 (He.fAd K ("Roll", some "total")) T.fd_Roll_total ["self", "start", "length"] (sp_Roll_total K) := by
  refine T.F_Roll_total.ok sc_Roll_total (fun vs H Q E h => ?_) (fun cdv A outer s H vs Q E hr h => ⟨_, PSs.nox ((pss_cons (ps_expr (pe_call (ok_check_number T) (hr.mono (by decide)) rfl T.g_check_number T.F_check_number.kp (b_check_number T) .nil passF (pa_cons (pv 1) (pa_cons pe_int pa_nil))))
      (pss_cons (ps_expr (pe_call (ok_check_number T) (hr.mono (by decide)) rfl T.g_check_number T.F_check_number.kp (b_check_number T) .nil passF (pa_cons (pv 2) (pa_cons pe_int pa_nil))))
      (pss_one (ps_ret (pe_op op_sub (pe_meth (pv 0) T.cl_Roll T.m_Roll_upto (ok_Roll_upto T) (hr.mono (by decide)) (b_Roll_upto T) .nil passF (pa_cons (pe_op op_add (pv 1) (pv 2)) pa_nil)) (pe_meth (pv 0) T.cl_Roll T.m_Roll_upto (ok_Roll_upto T) (hr.mono (by decide)) (b_Roll_upto T) .nil passF (pa_cons (pv 1) pa_nil)))))))), ?_⟩)
  · obtain ⟨_, _, _, _, _, pa, _, _⟩ := h
    exact pa.len
  · obtain ⟨self, start, length, ω, G, pa, wA, sy⟩ := h
    try dsimp only [L2.cxOf, L2.Cx.nox, L2.Cx.wish]
    refine Go.fin (Γ := [some (is K self), some (is K start), some (is K length)]) (fo := (fun (r : Int) => RS.val (is K r) (ω))) (ω := ω) (ωe := ω) (?_) pa rfl wA sy
    unfold m_Roll_total
    exact Go.req fun y74 h75 =>
  Go.drop (EvX.call (EvA.cons (EvX.any (x := (start : Int)) (EvX.var (i := 1) rfl)) (EvA.cons EvX.int EvA.nil)) (use_check_number) (val_ok h75) rfl) (
  Go.req fun y76 h77 =>
  Go.drop (EvX.call (EvA.cons (EvX.any (x := (length : Int)) (EvX.var (i := 2) rfl)) (EvA.cons EvX.int EvA.nil)) (use_check_number) (val_ok h77) rfl) (
  Go.req fun y78 h79 =>
  Go.req fun y80 h81 =>
  Go.ret (EvX.op (EvX.meth (EvX.var (i := 0) rfl) InsAt.of rfl (EvA.cons (EvX.op (EvX.var (i := 1) rfl) (EvX.var (i := 2) rfl) OpX.add) EvA.nil) (use_Roll_upto) (val_ok h79) rfl) (EvX.meth (EvX.var (i := 0) rfl) InsAt.of rfl (EvA.cons (EvX.var (i := 1) rfl) EvA.nil) (use_Roll_upto) (val_ok h81) rfl) OpX.sub) rfl (Dr.refl _)))
def m_Roll_eq (self : MRoll) (other : MRoll) : Res Bool :=
  .ok (true && (decide (self.row = other.row)))
def sp_Roll_eq (K : Frag) : Sp := fun vs H Q E => ∃ (self : MRoll) (other : MRoll) (ω : List Ent) (G : Hp), PArgs G vs [is K self, is K other] ∧ At G (ω) H ∧ Says K G (ω) (m_Roll_eq self other) (fun (r : Bool) => RS.val (is K r) (ω)) Q E
theorem use_Roll_eq {E : XK} {ω : List Ent} {self : MRoll} {other : MRoll} : SpR K (sp_Roll_eq K) E [is K self, is K other] ω ω (m_Roll_eq self other) (fun (r : Bool) => RS.val (is K r) (ω)) := fun G H vs Q pa w s => ⟨self, other, ω, G, pa, w, s⟩
theorem ok_Roll_eq (T : Txt K mg) : FnOk PR w K mg base (L2.CX PR w) 1 (He.fAd K ("Roll", some "__eq__")) T.fd_Roll_eq ["self", "other"] (sp_Roll_eq K) := by
  refine T.F_Roll_eq.ok sc_Roll_eq (fun vs H Q E h => ?_) (fun cdv A outer s H vs Q E hr h => ⟨_, PSs.nox ((pss_one (ps_ret (pe_and (pe_callB call_isi rfl T.fr_isinstance (by decide +kernel) (pa_cons (pv 1) (pa_cons (pe_glob (v := .ref (He.ga K "Roll")) rfl T.g_Roll rfl) pa_nil))) (pe_one (pe_cmpR (op_eqD hr.units) (pe_fld (pv 0) rfl) (pe_fld (pv 1) rfl) (nomark _))))))), ?_⟩)
  · obtain ⟨_, _, _, _, pa, _, _⟩ := h
    exact pa.len
  · obtain ⟨self, other, ω, G, pa, wA, sy⟩ := h
    try dsimp only [L2.cxOf, L2.Cx.nox, L2.Cx.wish]
    refine Go.fin (Γ := [some (is K self), some (is K other)]) (fo := (fun (r : Bool) => RS.val (is K r) (ω))) (ω := ω) (ωe := ω) (?_) pa rfl wA sy
    unfold m_Roll_eq
    exact Go.ret (EvX.and (EvX.ca (EvA.cons (EvX.var (i := 1) rfl) (EvA.cons EvX.c EvA.nil)) (CaX.isiR T (.own _) T.k_Roll_Roll)) fun _ => (EvX.op (EvX.fld (EvX.var (i := 0) rfl) fld_Roll_row T.cl_Roll T.na_Roll_row) (EvX.fld (EvX.var (i := 1) rfl) fld_Roll_row T.cl_Roll T.na_Roll_row) (OpX.eqA DtAt.of DtAt.of (by decide)))) rfl (Dr.refl _)
theorem op_eqR {X : Cx} (hp : X.prog = PR) (T : Txt X.K X.mg) (hr : Room 2 X.A) : OpR X (compareOp .Eq) (RC.rEqO X.K (ga X.K "Roll") (sp_Roll_eq X.K) fun _ _ _ => False) := RC.op_eqOwn (CX := L2.CX X.prog X.w) T.m_Roll_eq (hp ▸ ok_Roll_eq T) (hr.mono (by decide)) (b_Roll_eq T) passF
theorem op_neR {X : Cx} (hp : X.prog = PR) (T : Txt X.K X.mg) (hr : Room 2 X.A) : OpR X (compareOp .NotEq) (RC.rNeO X.K (ga X.K "Roll") (sp_Roll_eq X.K) fun _ _ _ => False) := RC.op_neOwn (CX := L2.CX X.prog X.w) T.m_Roll_eq T.x_Roll.ne T.x_Roll.hm (hp ▸ ok_Roll_eq T) (hr.mono (by decide)) (b_Roll_eq T) passF
theorem _root_.Lf.OpX.eqR {K : Frag} {mg : Str → Option Value} {ω : List Ent} (T : Txt K mg) {x y : MRoll} {b : Bool} (h : Res.val (m_Roll_eq x y) = some b) : OpX (RC.rEqO K (ga K "Roll") (sp_Roll_eq K) fun _ _ _ => False) ω ω (is K x) (is K y) (is K b) := fun G H u v Q wA p1 p2 q => by
  obtain ⟨p, dx, fs, rfl, hi, _⟩ := Ob.at_ (show Rp.rep K G u x from p1)
  exact ⟨p, dx, fs, rfl, wA.get hi, ⟨_, rollTy T wA p2, T.n_Roll_Roll⟩, use_Roll_eq G H _ _ (.cons p1 (.cons p2 .nil)) wA (Says.ok' (val_ok h) fun v G2 H2 s2 w2 p2 => ⟨b, p2, q _ G2 H2 s2 w2 rfl⟩)⟩
theorem _root_.Lf.OpX.neR {K : Frag} {mg : Str → Option Value} {ω : List Ent} (T : Txt K mg) {x y : MRoll} {b : Bool} (h : Res.val (m_Roll_eq x y) = some b) : OpX (RC.rNeO K (ga K "Roll") (sp_Roll_eq K) fun _ _ _ => False) ω ω (is K x) (is K y) (is K (!b)) := fun G H u v Q wA p1 p2 q => by
  obtain ⟨p, dx, fs, rfl, hi, _⟩ := Ob.at_ (show Rp.rep K G u x from p1)
  exact ⟨p, dx, fs, rfl, wA.get hi, ⟨_, rollTy T wA p2, T.n_Roll_Roll⟩, use_Roll_eq G H _ _ (.cons p1 (.cons p2 .nil)) wA (Says.ok' (val_ok h) fun v G2 H2 s2 w2 p2 => ⟨b, p2, q _ G2 H2 s2 w2 rfl⟩)⟩

def m_check_roll (value : MRoll) : Res Unit :=
  (if (!true) then .bad else
  .ok ())
def sp_check_roll (K : Frag) : Sp := fun vs H Q E => ∃ (value : MRoll) (ω : List Ent) (G : Hp), PArgs G vs [is K value] ∧ At G (ω) H ∧ Says K G (ω) (m_check_roll value) (fun (r : Unit) => RS.val (is K r) (ω)) Q E
theorem use_check_roll {E : XK} {ω : List Ent} {value : MRoll} : SpR K (sp_check_roll K) E [is K value] ω ω (m_check_roll value) (fun (r : Unit) => RS.val (is K r) (ω)) := fun G H vs Q pa w s => ⟨value, ω, G, pa, w, s⟩
theorem ok_check_roll (T : Txt K mg) : FnOk PR w K mg base (L2.CX PR w) 1 (He.fAd K ("check_roll", none)) T.fd_check_roll ["value"] (sp_check_roll K) := by
  refine T.F_check_roll.ok sc_check_roll (fun vs H Q E h => ?_) (fun cdv A outer s H vs Q E hr h => ⟨_, PSs.nox ((pss_one (ps_if (pt_not (pt_val (pe_callB call_isi rfl T.fr_isinstance (by decide +kernel) (pa_cons (pv 0) (pa_cons (pe_glob (v := .ref (He.ga K "Roll")) rfl T.g_Roll rfl) pa_nil))))) (pss_one ps_never) pss_nil))), ?_⟩)
  · obtain ⟨_, _, _, pa, _, _⟩ := h
    exact pa.len
  · obtain ⟨value, ω, G, pa, wA, sy⟩ := h
    try dsimp only [L2.cxOf, L2.Cx.nox, L2.Cx.wish]
    refine Go.fin (Γ := [some (is K value)]) (fo := (fun (r : Unit) => RS.val (is K r) (ω))) (ω := ω) (ωe := ω) (?_) pa rfl wA sy
    unfold m_check_roll
    exact Go.last (Go.ifX (EvT.not (EvT.B (EvX.ca (EvA.cons (EvX.var (i := 0) rfl) (EvA.cons EvX.c EvA.nil)) (CaX.isiR T (.own _) T.k_Roll_Roll)))) (fun h82 => Go.never) (fun _ z => nomatch z) (fun h83 =>
  Go.fall rfl (fun _ => rfl) (Dr.refl _)))
def m_short_strips (roll : MRoll) : Res (Dic Int (List (Int × Int))) :=
  Res.req (lenOk (m_Roll_len roll)) fun y85 =>
  Res.req (irng (0 : Int) y85) fun y87 =>
  Res.bind (Res.fold (fun (s89 : (Dic Int (List (Int × Int)))) (x90 : Int) =>
  Res.req (lenOk (m_Roll_len roll)) fun y91 =>
  Res.req (irng (1 : Int) (y91 + (1 : Int))) fun y93 =>
  Res.bind (Res.fold (fun (s95 : (Dic Int (List (Int × Int)))) (x96 : Int) =>
  Res.req (Res.val (m_Roll_total roll x90 x96)) fun y97 =>
  Res.req (cat ((s95.get? y97).getD []) [(x90, x96)]) fun y99 =>
  Res.req (s95.put y97 y99) fun y101 =>
  .ok y101) y93 s89) fun (s103 : (Dic Int (List (Int × Int)))) =>
  .ok s103) y87 (Dic.mk [])) fun (s105 : (Dic Int (List (Int × Int)))) =>
  .ok s105
def sp_short_strips (K : Frag) : Sp := fun vs H Q E => ∃ (roll : MRoll) (ω : List Ent) (G : Hp), PArgs G vs [is K roll] ∧ At G (ω) H ∧ Says K G (ω) (m_short_strips roll) (fun (r : (Dic Int (List (Int × Int)))) => RS.own (odic K (r : (Dic Int (List (Int × Int))))) (ω)) Q E
theorem use_short_strips {E : XK} {ω : List Ent} {roll : MRoll} : SpR K (sp_short_strips K) E [is K roll] ω ω (m_short_strips roll) (fun (r : (Dic Int (List (Int × Int)))) => RS.own (odic K (r : (Dic Int (List (Int × Int))))) (ω)) := fun G H vs Q pa w s => ⟨roll, ω, G, pa, w, s⟩
theorem ok_short_strips (T : Txt K mg) : FnOk PR w K mg base (L2.CX PR w) 4 (He.fAd K ("short_strips", none)) T.fd_short_strips ["roll"] (sp_short_strips K) := by
  refine T.F_short_strips.ok sc_short_strips (fun vs H Q E h => ?_) (fun cdv A outer s H vs Q E hr h => ⟨_, PSs.nox ((pss_cons (ps_set (i := 1) sc_short_strips.nd rfl (by first | exact .inl rfl | exact .inr rfl) pe_dnewK)
      (pss_cons (ps_for PassesOwn.never rfl (pi_range1 rfl T.fr_range (pa_cons (pe_callB (call_lenR rfl T (hr.mono (by decide))) rfl T.fr_len (by decide +kernel) (pa_cons (pv 0) pa_nil)) pa_nil)) (pg_name (i := 2) sc_short_strips.nd rfl (by first | exact .inl rfl | exact .inr rfl))
      (pss_one (ps_for PassesOwn.never rfl (pi_range2 rfl T.fr_range (pa_cons pe_int (pa_cons (pe_op op_add (pe_callB (call_lenR rfl T (hr.mono (by decide))) rfl T.fr_len (by decide +kernel) (pa_cons (pv 0) pa_nil)) pe_int) pa_nil))) (pg_name (i := 3) sc_short_strips.nd rfl (by first | exact .inl rfl | exact .inr rfl))
      (pss_cons (ps_set (i := 4) sc_short_strips.nd rfl (by first | exact .inl rfl | exact .inr rfl) (pe_meth (pv 0) T.cl_Roll T.m_Roll_total (ok_Roll_total T) (hr.mono (by decide)) (b_Roll_total T) .nil passF (pa_cons (pv 2) (pa_cons (pv 3) pa_nil))))
      (pss_one (ps_dput (hu_of hr) (pv 1) (pv 4) (pe_lst (StX.pa_star (pe_dget2 (hu_of hr) (pv 1) (pv 4) (pe_lst pa_nil) ⟨rfl, rfl, rfl, rfl⟩) (pa_cons (pe_tup (pa_cons (pv 2) (pa_cons (pv 3) pa_nil))) pa_nil))) rfl))))))
      (pss_one (ps_ret (pv 1)))))), ?_⟩)
  · obtain ⟨_, _, _, pa, _, _⟩ := h
    exact pa.len
  · obtain ⟨roll, ω, G, pa, wA, sy⟩ := h
    try dsimp only [L2.cxOf, L2.Cx.nox, L2.Cx.wish]
    refine Go.fin (Γ := [some (is K roll), none, none, none, none]) (fo := (fun (r : (Dic Int (List (Int × Int)))) => RS.own (odic K (r : (Dic Int (List (Int × Int))))) (ω))) (ω := ω) (ωe := ω) (?_) pa rfl wA sy
    unfold m_short_strips
    exact Go.asgF (i := 1) (φ := odic K ((Dic.mk []) : (Dic Int (List (Int × Int))))) EvF.dnew fun p84 =>
  Go.req fun y85 h86 =>
  Go.req fun y87 h88 =>
  Go.seqN (fn := (fun (s89 : (Dic Int (List (Int × Int)))) => ([some (is K (roll : MRoll)), some (adr p84), none, none, none], (.own p84 (odic K (s89 : (Dic Int (List (Int × Int))))) :: ω)))) (Go.forN (IterX.rng1 (EvA.cons (EvX.ca (EvA.cons (EvX.var (i := 0) rfl) EvA.nil) (CaX.lenR h86)) EvA.nil) h88) (Sub.keep (Sub.keep (Sub.keep (Sub.keep (Sub.keep Sub.nil))))) (Dr.refl _) (fun _ => trivial) (fun s89 => TgX.name) fun s89 x90 =>
  Go.req fun y91 h92 =>
  Go.req fun y93 h94 =>
  Go.last (Go.seqN (fn := (fun (s95 : (Dic Int (List (Int × Int)))) => ([some (is K (roll : MRoll)), some (adr p84), some (is K (x90 : Int)), none, none], (.own p84 (odic K (s95 : (Dic Int (List (Int × Int))))) :: ω)))) (Go.forN (IterX.rng2 (EvA.cons EvX.int (EvA.cons (EvX.op (EvX.ca (EvA.cons (EvX.var (i := 0) rfl) EvA.nil) (CaX.lenR h92)) EvX.int OpX.add) EvA.nil)) h94) (Sub.keep (Sub.keep (Sub.keep (Sub.keep (Sub.keep Sub.nil))))) (Dr.refl _) (fun _ => trivial) (fun s95 => TgX.name) fun s95 x96 =>
  Go.req fun y97 h98 =>
  Go.asg (i := 4) (EvX.meth (EvX.var (i := 0) rfl) InsAt.of rfl (EvA.cons (EvX.var (i := 2) rfl) (EvA.cons (EvX.var (i := 3) rfl) EvA.nil)) (use_Roll_total) (val_ok h98) rfl) (
  Go.req fun y99 h100 =>
  Go.req fun y101 h102 =>
  Go.last (Go.dput (k := 0) (EvX.fr (EvF.starL (EvX.dget2O (k := 0) (EvX.var (i := 1) rfl) (EvX.var (i := 4) rfl) (EvX.fr (EvF.lst EvA.nil rfl (by show 0 ≤ sizeLine; decide))) rfl rfl) (EvA.cons (EvX.pair (EvA.cons (EvX.var (i := 2) rfl) (EvA.cons (EvX.var (i := 3) rfl) EvA.nil))) EvA.nil) rfl h100)) (EvX.var (i := 1) rfl) (EvX.var (i := 4) rfl) rfl h102 (
  Go.next (Sub.keep (Sub.keep (Sub.keep (Sub.lose (Sub.lose Sub.nil))))) (Dr.refl _))))) fun s103 h104 =>
  Go.next (Sub.keep (Sub.keep (Sub.lose (Sub.keep (Sub.keep Sub.nil))))) (Dr.refl _))) fun s105 h106 =>
  Go.retO (i := 1) (k := 0) rfl rfl rfl (Dr.refl _)
end
end Mi
set_option pp.maxSteps 600
namespace Mi
open PySem PySem.Spec PyProof.Rows L2 He Lf RC
open PySem.W (Frag)
section
variable {w : World} {K : Frag} {mg : Str → Option Value} {base : Heap}
def m_rests_of (roll : MRoll) : Res (List Int) :=
  Res.req (Res.val (m_short_strips roll)) fun y107 =>
  Res.req (mapO (fun (x109 : Int) => (Option.bind (Res.val (m_Roll_lap roll)) fun y114 => (Option.bind (imod x109 y114) fun y116 => (some (some y116))))) (List.map (fun x => x.1) y107.l)) fun y118 =>
  Res.req (setOk y118) fun y120 =>
  .ok y120
def sp_rests_of (K : Frag) : Sp := fun vs H Q E => ∃ (roll : MRoll) (ω : List Ent) (G : Hp), PArgs G vs [is K roll] ∧ At G (ω) H ∧ Says K G (ω) (m_rests_of roll) (fun (r : (List Int)) => RS.own (olst K (r : (List Int))) (ω)) Q E
theorem use_rests_of {E : XK} {ω : List Ent} {roll : MRoll} : SpR K (sp_rests_of K) E [is K roll] ω ω (m_rests_of roll) (fun (r : (List Int)) => RS.own (olst K (r : (List Int))) (ω)) := fun G H vs Q pa w s => ⟨roll, ω, G, pa, w, s⟩
theorem ok_rests_of (T : Txt K mg) : FnOk PR w K mg base (L2.CX PR w) 5 (He.fAd K ("rests_of", none)) T.fd_rests_of ["roll"] (sp_rests_of K) := by
  refine T.F_rests_of.ok sc_rests_of (fun vs H Q E h => ?_) (fun cdv A outer s H vs Q E hr h => ⟨_, PSs.nox ((pss_one (ps_ret (pe_callB (cr_sortS rfl) rfl T.fr_sorted (by decide +kernel) (pa_cons (pe_callTy (cr_setL rfl) rfl T.fr_set (by decide +kernel) (pa_cons (pe_lc (own := [("worth", 1)]) rfl sc_rests_of.nd (pi_keys (pe_lockV (pe_call (ok_short_strips T) (hr.mono (by decide)) rfl T.g_short_strips T.F_short_strips.kp (b_short_strips T) .nil passF (pa_cons (pv 0) pa_nil)))) (blkOk_by (N := N_rests_of) (sc := defScope s_rests_of) (by decide +kernel)) (fun _ _ _ _ _ => (pg_name (i := 1) sc_rests_of.nd rfl (by first | exact .inl rfl | exact .inr rfl))) (fun _ _ _ _ _ => pts_nil) (fun _ _ _ _ _ => (pe_op op_mod (pv 1) (pe_meth0 (pv 0) T.cl_Roll T.m_Roll_lap (ok_Roll_lap T) (hr.mono (by decide)) (b_Roll_lap T) .nil passF)))) pa_nil)) pa_nil))))), ?_⟩)
  · obtain ⟨_, _, _, pa, _, _⟩ := h
    exact pa.len
  · obtain ⟨roll, ω, G, pa, wA, sy⟩ := h
    try dsimp only [L2.cxOf, L2.Cx.nox, L2.Cx.wish]
    refine Go.fin (Γ := [some (is K roll), none]) (fo := (fun (r : (List Int)) => RS.own (olst K (r : (List Int))) (ω))) (ω := ω) (ωe := ω) (?_) pa rfl wA sy
    unfold m_rests_of
    exact Go.req fun y107 h108 =>
  Go.req fun y118 h119 =>
  Go.req fun y120 h121 =>
  Go.retF (EvF.sortedSet (EvA.cons (EvX.fr (EvF.lc (IterX.keys (EvX.frD (EvF.call (EvA.cons (EvX.var (i := 0) rfl) EvA.nil) (use_short_strips) (val_ok h108) rfl))) trivial (fun _ _ _ => trivial) (TgW.name (by decide)) h119 fun x109 o112 p110 f111 q113 => (bindO q113 fun y114 h115 q113 => (bindO q113 fun y116 h117 q113 => (Elt.all (EvX.op (EvX.var (i := 1) rfl) (EvX.meth (EvX.var (i := 0) rfl) InsAt.of rfl EvA.nil (use_Roll_lap) (val_ok h115) rfl) (OpX.mod h117)) q113))))) EvA.nil) h121) rfl (Dr.refl _)
def m_rests (roll : MRoll) : Res (List Int) :=
  Res.req (Res.val (m_check_roll roll)) fun y122 =>
  Res.req (Res.val (m_rests_of roll)) fun y124 =>
  .ok y124
def sp_rests (K : Frag) : Sp := fun vs H Q E => ∃ (roll : MRoll) (ω : List Ent) (G : Hp), PArgs G vs [is K roll] ∧ At G (ω) H ∧ Says K G (ω) (m_rests roll) (fun (r : (List Int)) => RS.own (olst K (r : (List Int))) (ω)) Q E
theorem use_rests {E : XK} {ω : List Ent} {roll : MRoll} : SpR K (sp_rests K) E [is K roll] ω ω (m_rests roll) (fun (r : (List Int)) => RS.own (olst K (r : (List Int))) (ω)) := fun G H vs Q pa w s => ⟨roll, ω, G, pa, w, s⟩
theorem ok_rests (T : Txt K mg) : FnOk PR w K mg base (L2.CX PR w) 6 (He.fAd K ("rests", none)) T.fd_rests ["roll"] (sp_rests K) := by
  refine T.F_rests.ok sc_rests (fun vs H Q E h => ?_) (fun cdv A outer s H vs Q E hr h => ⟨_, PSs.nox ((pss_cons (ps_expr (pe_call (ok_check_roll T) (hr.mono (by decide)) rfl T.g_check_roll T.F_check_roll.kp (b_check_roll T) .nil passF (pa_cons (pv 0) pa_nil)))
      (pss_one (ps_ret (pe_call (ok_rests_of T) (hr.mono (by decide)) rfl T.g_rests_of T.F_rests_of.kp (b_rests_of T) .nil passF (pa_cons (pv 0) pa_nil)))))), ?_⟩)
  · obtain ⟨_, _, _, pa, _, _⟩ := h
    exact pa.len
  · obtain ⟨roll, ω, G, pa, wA, sy⟩ := h
    try dsimp only [L2.cxOf, L2.Cx.nox, L2.Cx.wish]
    refine Go.fin (Γ := [some (is K roll)]) (fo := (fun (r : (List Int)) => RS.own (olst K (r : (List Int))) (ω))) (ω := ω) (ωe := ω) (?_) pa rfl wA sy
    unfold m_rests
    exact Go.req fun y122 h123 =>
  Go.drop (EvX.call (EvA.cons (EvX.var (i := 0) rfl) EvA.nil) (use_check_roll) (val_ok h123) rfl) (
  Go.req fun y124 h125 =>
  Go.retF (EvF.call (EvA.cons (EvX.var (i := 0) rfl) EvA.nil) (use_rests_of) (val_ok h125) rfl) rfl (Dr.refl _))
def m_least_form (row : (List Int)) : Res (List Int) :=
  Res.req (some (row, row.reverse)) fun y127 =>
  Res.bind (Res.fold (fun (s129 : (List (List Int))) (x130 : (List Int)) =>
  Res.req (irng (0 : Int) (x130.length : Int)) fun y131 =>
  Res.req (mapO (fun (x133 : Int) => (Option.bind (cat (cut x130 (some x133) none) (cut x130 none (some x133))) fun y138 => (some (some y138)))) y131) fun y140 =>
  Res.req (cat s129 y140) fun y142 =>
  .ok y142) [y127.1, y127.2] []) fun (s144 : (List (List Int))) =>
  Res.req (minL s144) fun y148 =>
  .ok y148
def sp_least_form (K : Frag) : Sp := fun vs H Q E => ∃ (row : (List Int)) (ω : List Ent) (G : Hp), PArgs G vs [is K row] ∧ At G (ω) H ∧ Says K G (ω) (m_least_form row) (fun (r : (List Int)) => RS.val (is K r) (ω)) Q E
theorem use_least_form {E : XK} {ω : List Ent} {row : (List Int)} : SpR K (sp_least_form K) E [is K row] ω ω (m_least_form row) (fun (r : (List Int)) => RS.val (is K r) (ω)) := fun G H vs Q pa w s => ⟨row, ω, G, pa, w, s⟩
theorem ok_least_form (T : Txt K mg) : FnOk PR w K mg base (L2.CX PR w) 2 (He.fAd K ("least_form", none)) T.fd_least_form ["row"] (sp_least_form K) := by
  refine T.F_least_form.ok sc_least_form (fun vs H Q E h => ?_) (fun cdv A outer s H vs Q E hr h => ⟨_, PSs.nox ((pss_cons (ps_set (i := 1) sc_least_form.nd rfl (by first | exact .inl rfl | exact .inr rfl) (pe_lst pa_nil))
      (pss_cons (ps_for PassesOwn.never rfl (pi_tup (pe_tup (pa_cons (pv 0) (pa_cons (pe_revL (pv 0)) pa_nil)))) (pg_name (i := 2) sc_least_form.nd rfl (by first | exact .inl rfl | exact .inr rfl))
      (pss_one (ps_expr (pe_bm PySem.F.plainAttrs_list PySem.F.slot_list_extend PySem.F.type_list_extend mt_extend (pv 1) (pa_cons (pe_lc (own := [("at", 3)]) rfl sc_least_form.nd (pi_range1 rfl T.fr_range (pa_cons (pe_callB RC.call_lenS rfl T.fr_len (by decide +kernel) (pa_cons (pv 2) pa_nil)) pa_nil)) (blkOk_by (N := N_least_form) (sc := defScope s_least_form) (by decide +kernel)) (fun _ _ _ _ _ => (pg_name (i := 3) sc_least_form.nd rfl (by first | exact .inl rfl | exact .inr rfl))) (fun _ _ _ _ _ => pts_nil) (fun _ _ _ _ _ => (pe_op op_cat (pe_slice (RC.kOf rSlL (K := K) sl_list rfl) (pv 2) (po_some (pv 3)) po_none) (pe_slice (RC.kOf rSlL (K := K) sl_list rfl) (pv 2) po_none (po_some (pv 3)))))) pa_nil)))))
      (pss_one (ps_ret (pe_callB (RC.cr_minLL rfl (hr.mono (by decide))) rfl T.fr_min (by decide +kernel) (pa_cons (pv 1) pa_nil))))))), ?_⟩)
  · obtain ⟨_, _, _, pa, _, _⟩ := h
    exact pa.len
  · obtain ⟨row, ω, G, pa, wA, sy⟩ := h
    try dsimp only [L2.cxOf, L2.Cx.nox, L2.Cx.wish]
    refine Go.fin (Γ := [some (is K row), none, none, none]) (fo := (fun (r : (List Int)) => RS.val (is K r) (ω))) (ω := ω) (ωe := ω) (?_) pa rfl wA sy
    unfold m_least_form
    exact Go.asgF (i := 1) (φ := olst K ([] : (List (List Int)))) (EvF.lst EvA.nil rfl (by show 0 ≤ sizeLine; decide)) fun p126 =>
  Go.req fun y127 h128 =>
  Go.seqN (fn := (fun (s129 : (List (List Int))) => ([some (is K (row : (List Int))), some (adr p126), none, none], (.own p126 (olst K (s129 : (List (List Int)))) :: ω)))) (Go.forN (IterX.tup (EvX.tuOf (EvX.eq (EvX.pair (EvA.cons (EvX.var (i := 0) rfl) (EvA.cons (EvX.fr (EvF.rev (EvX.var (i := 0) rfl))) EvA.nil))) (Option.some.inj h128)))) (Sub.keep (Sub.keep (Sub.keep (Sub.keep Sub.nil)))) (Dr.refl _) (fun _ => trivial) (fun s129 => TgX.name) fun s129 x130 =>
  Go.req fun y131 h132 =>
  Go.req fun y140 h141 =>
  Go.req fun y142 h143 =>
  Go.last (Go.ext (k := 0) (EvX.var (i := 1) rfl) ⟨_, rfl⟩ (EvX.fr (EvF.lc (IterX.rng1 (EvA.cons (EvX.ca (EvA.cons (EvX.var (i := 2) rfl) EvA.nil) CaX.len) EvA.nil) h132) trivial (fun _ _ _ => trivial) (TgW.name (by decide)) h141 fun x133 o136 p134 f135 q137 => (bindO q137 fun y138 h139 q137 => (Elt.all (EvX.fr (EvF.op (EvX.fr (EvF.slL (EvX.var (i := 2) rfl) (EvO.some (K := K) (EvX.var (i := 3) rfl)) EvO.none)) (EvX.fr (EvF.slL (EvX.var (i := 2) rfl) EvO.none (EvO.some (K := K) (EvX.var (i := 3) rfl)))) (OpF.cat h139))) q137)))) rfl h143 (
  Go.next (Sub.keep (Sub.keep (Sub.lose (Sub.keep Sub.nil)))) (Dr.refl _)))) fun s144 h145 =>
  Go.freeze (k := 0) (i := 1) rfl rfl (Go.req fun y148 h149 =>
  Go.ret (EvX.ca (EvA.cons (EvX.var (i := 1) rfl) EvA.nil) (CaX.minD h149 (by decide))) rfl (Dr.refl _))
def m_first_form (roll : MRoll) : Res (List Int) :=
  Res.req (Res.val (m_check_roll roll)) fun y150 =>
  Res.req (Res.val (m_Roll_worths roll)) fun y152 =>
  Res.req (Res.val (m_least_form y152)) fun y154 =>
  .ok y154
def sp_first_form (K : Frag) : Sp := fun vs H Q E => ∃ (roll : MRoll) (ω : List Ent) (G : Hp), PArgs G vs [is K roll] ∧ At G (ω) H ∧ Says K G (ω) (m_first_form roll) (fun (r : (List Int)) => RS.val (is K r) (ω)) Q E
theorem use_first_form {E : XK} {ω : List Ent} {roll : MRoll} : SpR K (sp_first_form K) E [is K roll] ω ω (m_first_form roll) (fun (r : (List Int)) => RS.val (is K r) (ω)) := fun G H vs Q pa w s => ⟨roll, ω, G, pa, w, s⟩
theorem ok_first_form (T : Txt K mg) : FnOk PR w K mg base (L2.CX PR w) 3 (He.fAd K ("first_form", none)) T.fd_first_form ["roll"] (sp_first_form K) := by
  refine T.F_first_form.ok sc_first_form (fun vs H Q E h => ?_) (fun cdv A outer s H vs Q E hr h => ⟨_, PSs.nox ((pss_cons (ps_expr (pe_call (ok_check_roll T) (hr.mono (by decide)) rfl T.g_check_roll T.F_check_roll.kp (b_check_roll T) .nil passF (pa_cons (pv 0) pa_nil)))
      (pss_one (ps_ret (pe_call (ok_least_form T) (hr.mono (by decide)) rfl T.g_least_form T.F_least_form.kp (b_least_form T) .nil passF (pa_cons (pe_meth0 (pv 0) T.cl_Roll T.m_Roll_worths (ok_Roll_worths T) (hr.mono (by decide)) (b_Roll_worths T) .nil passF) pa_nil)))))), ?_⟩)
  · obtain ⟨_, _, _, pa, _, _⟩ := h
    exact pa.len
  · obtain ⟨roll, ω, G, pa, wA, sy⟩ := h
    try dsimp only [L2.cxOf, L2.Cx.nox, L2.Cx.wish]
    refine Go.fin (Γ := [some (is K roll)]) (fo := (fun (r : (List Int)) => RS.val (is K r) (ω))) (ω := ω) (ωe := ω) (?_) pa rfl wA sy
    unfold m_first_form
    exact Go.req fun y150 h151 =>
  Go.drop (EvX.call (EvA.cons (EvX.var (i := 0) rfl) EvA.nil) (use_check_roll) (val_ok h151) rfl) (
  Go.req fun y152 h153 =>
  Go.req fun y154 h155 =>
  Go.ret (EvX.call (EvA.cons (EvX.fr (EvF.meth (EvX.var (i := 0) rfl) InsAt.of rfl EvA.nil (use_Roll_worths) (val_ok h153) rfl)) EvA.nil) (use_least_form) (val_ok h155) rfl) rfl (Dr.refl _))
def m_rows_of_ : Nat → Int → Int → Res (List (List Int))
  | 0, _, _ => .bad
  | n_ + 1, many, lap =>
  (if (decide (many = (1 : Int))) then .ok [[lap]] else
  Res.req (irng (1 : Int) ((lap - many) + (2 : Int))) fun y159 =>
  Res.bind (Res.fold (fun (s161 : (List (List Int))) (x162 : Int) =>
  Res.req (Res.val (m_rows_of_ n_ (many - (1 : Int)) (lap - x162))) fun y163 =>
  Res.req (mapO (fun (x165 : (List Int)) => (Option.bind (cat [x162] x165) fun y170 => (some (some y170)))) y163) fun y172 =>
  Res.req (cat s161 y172) fun y174 =>
  .ok y174) y159 []) fun (s176 : (List (List Int))) =>
  .ok s176)
theorem m_rows_of_s (n_ : Nat) (many : Int) (lap : Int) : m_rows_of_ (n_ + 1) many lap = (
  (if (decide (many = (1 : Int))) then .ok [[lap]] else
  Res.req (irng (1 : Int) ((lap - many) + (2 : Int))) fun y159 =>
  Res.bind (Res.fold (fun (s161 : (List (List Int))) (x162 : Int) =>
  Res.req (Res.val (m_rows_of_ n_ (many - (1 : Int)) (lap - x162))) fun y163 =>
  Res.req (mapO (fun (x165 : (List Int)) => (Option.bind (cat [x162] x165) fun y170 => (some (some y170)))) y163) fun y172 =>
  Res.req (cat s161 y172) fun y174 =>
  .ok y174) y159 []) fun (s176 : (List (List Int))) =>
  .ok s176)) := rfl
abbrev m_rows_of (many : Int) (lap : Int) : Res (List (List Int)) := m_rows_of_ 8 many lap
def sp_rows_of_ (n_ : Nat) (K : Frag) : Sp := fun vs H Q E => ∃ (many : Int) (lap : Int) (ω : List Ent) (G : Hp), PArgs G vs [is K many, is K lap] ∧ At G ω H ∧ Says K G ω (m_rows_of_ n_ many lap) (fun (r : (List (List Int))) => RS.own (olst (α := Nw G (List Int)) K r) (ω)) Q E
abbrev sp_rows_of (K : Frag) : Sp := sp_rows_of_ 8 K
theorem new_rows_of_ {n_ : Nat} {E : XK} {many : Int} {lap : Int} : OwnR K (sp_rows_of_ n_ K) E [is K many, is K lap] (m_rows_of_ n_ many lap) := fun G H vs Q ω pa w s => ⟨many, lap, ω, G, pa, w, s⟩
theorem use_rows_of_ {n_ : Nat} {E : XK} {ω : List Ent} {many : Int} {lap : Int} : SpR K (sp_rows_of_ n_ K) E [is K many, is K lap] ω ω (m_rows_of_ n_ many lap) (fun (r : (List (List Int))) => RS.own (olst K (r : (List (List Int)))) ω) := OwnR.val new_rows_of_
theorem new_rows_of {E : XK} {many : Int} {lap : Int} : OwnR K (sp_rows_of K) E [is K many, is K lap] (m_rows_of many lap) := new_rows_of_
theorem use_rows_of {E : XK} {ω : List Ent} {many : Int} {lap : Int} : SpR K (sp_rows_of K) E [is K many, is K lap] ω ω (m_rows_of many lap) (fun (r : (List (List Int))) => RS.own (olst K (r : (List (List Int)))) ω) := OwnR.val new_rows_of
theorem ok_rows_of_ (T : Txt K mg) : (n_ : Nat) → FnOk PR w K mg base (L2.CX PR w) (1 + n_) (He.fAd K ("rows_of", none)) T.fd_rows_of ["many", "lap"] (sp_rows_of_ n_ K)
  | 0 => ⟨fun vs H Q E h => by
      obtain ⟨_, _, _, _, pa, _, _⟩ := h
      exact pa.len, fun A outer s H args us vs Q E hr e0 hb r h => by
      obtain ⟨_, _, _, _, _, _, sy⟩ := h
      exact absurd rfl sy.1⟩
  | n_ + 1 => by
    have ih := ok_rows_of_ T n_
    refine T.F_rows_of.ok sc_rows_of (fun vs H Q E h => ?_) (fun cdv A outer s H vs Q E hr h => ⟨_, PSs.nox ((pss_cons (ps_if (pt_cmpR op_eq (pv 0) pe_int (nomark _)) (pss_one (ps_ret (pe_lst (pa_cons (pe_lst (pa_cons (pv 1) pa_nil)) pa_nil)))) pss_nil)
      (pss_cons (ps_set (i := 2) sc_rows_of.nd rfl (by first | exact .inl rfl | exact .inr rfl) (pe_lst pa_nil))
      (pss_cons (ps_for PassesOwn.never rfl (pi_range2 rfl T.fr_range (pa_cons pe_int (pa_cons (pe_op op_add (pe_op op_sub (pv 1) (pv 0)) pe_int) pa_nil))) (pg_name (i := 3) sc_rows_of.nd rfl (by first | exact .inl rfl | exact .inr rfl))
      (pss_one (ps_expr (pe_bm PySem.F.plainAttrs_list PySem.F.slot_list_extend PySem.F.type_list_extend mt_extend (pv 2) (pa_cons (pe_lc (own := [("rest", 4)]) rfl sc_rows_of.nd (pi_list (pe_call ((fun _ => ih) T) (hr.mono (by first | exact Nat.le_refl _ | exact Nat.le_trans (by decide) (Nat.le_add_right _ _))) rfl T.g_rows_of T.F_rows_of.kp (b_rows_of T) .nil passF (pa_cons (pe_op op_sub (pv 0) pe_int) (pa_cons (pe_op op_sub (pv 1) (pv 3)) pa_nil)))) (blkOk_by (N := N_rows_of) (sc := defScope s_rows_of) (by decide +kernel)) (fun _ _ _ _ _ => (pg_name (i := 4) sc_rows_of.nd rfl (by first | exact .inl rfl | exact .inr rfl))) (fun _ _ _ _ _ => pts_nil) (fun _ _ _ _ _ => (pe_lst (pa_cons (pv 3) (RC.kOf (fun K => StX.tStar K (tVar 4) tNil) (K := K) (StX.pa_star (pv 4) pa_nil) rfl))))) pa_nil)))))
      (pss_one (ps_ret (pv 2))))))), ?_⟩)
    · obtain ⟨_, _, _, _, pa, _, _⟩ := h
      exact pa.len
    · obtain ⟨many, lap, ω, G, pa, wA, sy⟩ := h
      try dsimp only [L2.cxOf, L2.Cx.nox, L2.Cx.wish]
      refine Go.fin (ms := [kept G (is K many), is K lap]) (Γ := [some (kept G (is K many)), some (is K lap), none, none, none]) (fo := (fun (r : (List (List Int))) => RS.own (olst (α := Nw G (List Int)) K r) (ω))) (ω := ω) (ωe := ω) (?_) (PArgs.kept0 pa) rfl wA sy
      rw [m_rows_of_s]
      exact Go.ifE (EvT.test (EvX.op (EvX.varK (i := 0) rfl) EvX.int OpX.eq)) (fun h156 =>
  Go.retF (EvF.lst (EvA.cons (EvX.frK (i := 0) rfl (EvF.lst (EvA.cons (EvX.var (i := 1) rfl) EvA.nil) rfl (by show 1 ≤ sizeLine; decide))) EvA.nil) rfl (by show 1 ≤ sizeLine; decide)) rfl (Dr.refl _)) (fun h157 =>
  Go.asgF (i := 2) (φ := olst K ([] : (List (Nw G (List Int))))) (EvF.lst EvA.nil rfl (by show 0 ≤ sizeLine; decide)) fun p158 =>
  Go.req fun y159 h160 =>
  Go.seqN (fn := (fun (s161 : (List (List Int))) => ([some (kept G (is K (many : Int))), some (is K (lap : Int)), some (adr p158), none, none], (.own p158 (olst (α := Nw G (List Int)) K s161) :: ω)))) (Go.forN (IterX.rng2 (EvA.cons EvX.int (EvA.cons (EvX.op (EvX.op (EvX.var (i := 1) rfl) (EvX.varK (i := 0) rfl) OpX.sub) EvX.int OpX.add) EvA.nil)) h160) (Sub.keep (Sub.keep (Sub.keep (Sub.keep (Sub.keep Sub.nil))))) (Dr.refl _) (fun _ => trivial) (fun s161 => TgX.name) fun s161 x162 =>
  Go.req fun y163 h164 =>
  Go.req fun y172 h173 =>
  Go.req fun y174 h175 =>
  Go.last (Go.ext (α := Nw G (List Int)) (k := 0) (EvX.var (i := 2) rfl) ⟨_, rfl⟩ (EvX.fr (EvF.lc (β := Nw G (List Int)) (IterX.list (EvX.fr (EvF.call (EvA.cons (EvX.op (EvX.varK (i := 0) rfl) EvX.int OpX.sub) (EvA.cons (EvX.op (EvX.var (i := 1) rfl) (EvX.var (i := 3) rfl) OpX.sub) EvA.nil)) (use_rows_of_) (val_ok h164) rfl))) trivial (fun _ _ _ => trivial) (TgW.name (by decide)) h173 fun x165 o168 p166 f167 q169 => (bindO q169 fun y170 h171 q169 => (Elt.all (EvX.frK (i := 0) rfl (EvF.starR (EvX.var (i := 3) rfl) (EvX.var (i := 4) rfl) h171)) q169)))) rfl h175 (
  Go.next (Sub.keep (Sub.keep (Sub.keep (Sub.lose (Sub.keep Sub.nil))))) (Dr.refl _)))) fun s176 h177 =>
  Go.retO (i := 2) (k := 0) rfl rfl rfl (Dr.refl _))
theorem ok_rows_of (T : Txt K mg) : FnOk PR w K mg base (L2.CX PR w) 9 (He.fAd K ("rows_of", none)) T.fd_rows_of ["many", "lap"] (sp_rows_of K) := ok_rows_of_ T 8
def m_forms_of (many : Int) (lap : Int) : Res (List (List Int)) :=
  Res.req (Res.val (m_rows_of many lap)) fun y178 =>
  Res.req (mapO (fun (x180 : (List Int)) => (Option.bind (Res.val (m_least_form x180)) fun y185 => (if (decide (y185 = x180)) then (some (some x180)) else some none))) y178) fun y187 =>
  .ok y187
def sp_forms_of (K : Frag) : Sp := fun vs H Q E => ∃ (many : Int) (lap : Int) (ω : List Ent) (G : Hp), PArgs G vs [is K many, is K lap] ∧ At G (ω) H ∧ Says K G (ω) (m_forms_of many lap) (fun (r : (List (List Int))) => RS.own (olst (α := Nw G (List Int)) K r) (ω)) Q E
theorem new_forms_of {E : XK} {many : Int} {lap : Int} : OwnR K (sp_forms_of K) E [is K many, is K lap] (m_forms_of many lap) := fun G H vs Q ω pa w s => ⟨many, lap, ω, G, pa, w, s⟩
theorem use_forms_of {E : XK} {ω : List Ent} {many : Int} {lap : Int} : SpR K (sp_forms_of K) E [is K many, is K lap] ω ω (m_forms_of many lap) (fun (r : (List (List Int))) => RS.own (olst K (r : (List (List Int)))) ω) := OwnR.val new_forms_of
theorem ok_forms_of (T : Txt K mg) : FnOk PR w K mg base (L2.CX PR w) 10 (He.fAd K ("forms_of", none)) T.fd_forms_of ["many", "lap"] (sp_forms_of K) := by
  refine T.F_forms_of.ok sc_forms_of (fun vs H Q E h => ?_) (fun cdv A outer s H vs Q E hr h => ⟨_, PSs.nox ((pss_one (ps_ret (pe_lc (own := [("row", 2)]) rfl sc_forms_of.nd (pi_list (pe_call (ok_rows_of T) (hr.mono (by decide)) rfl T.g_rows_of T.F_rows_of.kp (b_rows_of T) .nil passF (pa_cons (pv 0) (pa_cons (pv 1) pa_nil)))) (blkOk_by (N := N_forms_of) (sc := defScope s_forms_of) (by decide +kernel)) (fun _ _ _ _ _ => (pg_name (i := 2) sc_forms_of.nd rfl (by first | exact .inl rfl | exact .inr rfl))) (fun _ _ _ _ _ => (pts_one (pt_cmpR (RC.kOf rEqD (K := K) (op_eqD hr.units) rfl) (pe_call (ok_least_form T) (hr.mono (by decide)) rfl T.g_least_form T.F_least_form.kp (b_least_form T) .nil passF (pa_cons (pv 2) pa_nil)) (pv 2) (nomark _)))) (fun _ _ _ _ _ => (pv 2)))))), ?_⟩)
  · obtain ⟨_, _, _, _, pa, _, _⟩ := h
    exact pa.len
  · obtain ⟨many, lap, ω, G, pa, wA, sy⟩ := h
    try dsimp only [L2.cxOf, L2.Cx.nox, L2.Cx.wish]
    refine Go.fin (ms := [kept G (is K many), is K lap]) (Γ := [some (kept G (is K many)), some (is K lap), none]) (fo := (fun (r : (List (List Int))) => RS.own (olst (α := Nw G (List Int)) K r) (ω))) (ω := ω) (ωe := ω) (?_) (PArgs.kept0 pa) rfl wA sy
    unfold m_forms_of
    exact Go.req fun y178 h179 =>
  Go.req fun y187 h188 =>
  Go.retF (EvF.lc (α := Nw G (List Int)) (β := Nw G (List Int)) (IterX.list (EvX.fr (α := Nw G (List Int)) (EvF.callO (α := List Int) (i := 0) rfl (EvA.cons (EvX.varK (i := 0) rfl) (EvA.cons (EvX.var (i := 1) rfl) EvA.nil)) (new_rows_of) (val_ok h179)))) trivial (fun _ _ _ => trivial) (TgW.name (by decide)) h188 fun x180 o183 p181 f182 q184 => (bindO q184 fun y185 h186 q184 => (Elt.iteO (EvT.test (EvX.op (EvX.call (EvA.cons (EvX.nw (α := List Int) (EvX.var (i := 2) rfl)) EvA.nil) (use_least_form) (val_ok h186) rfl) (EvX.nw (α := List Int) (EvX.var (i := 2) rfl)) (OpX.eqA DtAt.of DtAt.of (by decide)))) (fun _ q189 => ⟨_, (Option.some.inj q189).symm, (EvX.var (i := 2) rfl)⟩) q184))) rfl (Dr.refl _)
def m_told_back (many : PV) (lap : PV) (goes : PV) (lacks : PV) : Res (List (List Int)) :=
  Res.bind (m_check_number many (1 : Int)) fun y190 =>
  Res.req (PV.asI many) fun y192 =>
  Res.req (Res.val (m_is_whole lap)) fun y194 =>
  Res.req (if (!y194) then some true else (Option.bind (PV.asI lap) fun y196 => (some (decide (y196 < y192))))) fun y198 =>
  (if y198 then .err ⟨"InvalidNumber", lap⟩ else
  Res.req (PV.asI lap) fun y203 =>
  Res.bind (m_check_amounts goes) fun y205 =>
  Res.req (PV.asLI goes) fun y207 =>
  Res.bind (m_check_amounts lacks) fun y209 =>
  Res.req (PV.asLI lacks) fun y211 =>
  Res.req (Res.val (m_forms_of y192 y203)) fun y214 =>
  Res.bind (Res.fold (fun (s216 : (List (List Int))) (x217 : (List Int)) =>
  Res.req (Res.val (m_Roll_init x217)) fun y218 =>
  Res.req (Res.val (m_rests_of y218)) fun y220 =>
  Res.req (mapO (fun (x222 : Int) => (Option.bind (imod x222 y203) fun y227 => (if (!decide (y227 ∈ y220)) then (some (some x222)) else some none))) y207) fun y229 =>
  Res.req (mapO (fun (x233 : Int) => (Option.bind (imod x233 y203) fun y238 => (if (decide (y238 ∈ y220)) then (some (some x233)) else some none))) y211) fun y240 =>
  Res.req (cat y229 y240) fun y243 =>
  (if (decide (y243 = [])) then Res.req (app s216 x217) fun y247 =>
  .ok y247 else .ok s216)) y214 []) fun (s249 : (List (List Int))) =>
  .ok s249)
def sp_told_back (K : Frag) : Sp := fun vs H Q E => ∃ (many : PV) (lap : PV) (goes : PV) (lacks : PV) (ω : List Ent) (G : Hp), PArgs G vs [is K many, is K lap, is K goes, is K lacks] ∧ At G (ω) H ∧ Says K G (ω) (m_told_back many lap goes lacks) (fun (r : (List (List Int))) => RS.own (olst (α := Nw G (List Int)) K r) (ω)) Q E
theorem new_told_back {E : XK} {many : PV} {lap : PV} {goes : PV} {lacks : PV} : OwnR K (sp_told_back K) E [is K many, is K lap, is K goes, is K lacks] (m_told_back many lap goes lacks) := fun G H vs Q ω pa w s => ⟨many, lap, goes, lacks, ω, G, pa, w, s⟩
theorem use_told_back {E : XK} {ω : List Ent} {many : PV} {lap : PV} {goes : PV} {lacks : PV} : SpR K (sp_told_back K) E [is K many, is K lap, is K goes, is K lacks] ω ω (m_told_back many lap goes lacks) (fun (r : (List (List Int))) => RS.own (olst K (r : (List (List Int)))) ω) := OwnR.val new_told_back
theorem ok_told_back (T : Txt K mg) : FnOk PR w K mg base (L2.CX PR w) 11 (He.fAd K ("told_back", none)) T.fd_told_back ["many", "lap", "goes", "lacks"] (sp_told_back K) := by
  refine T.F_told_back.ok sc_told_back (fun vs H Q E h => ?_) (fun cdv A outer s H vs Q E hr h => ⟨_, (pss_cons (ps_expr (pe_call (ok_check_number T) (hr.mono (by decide)) rfl T.g_check_number T.F_check_number.kp (b_check_number T) .nil (passes_call (takes_of rfl rfl rfl rfl) fun _ _ _ _ h => h) (pa_cons (pv 0) (pa_cons pe_int pa_nil))))
      (pss_cons (ps_if (PW.pt (pw_or (pt_not (pt_val (pe_call (ok_is_whole T) (hr.mono (by decide)) rfl T.g_is_whole T.F_is_whole.kp (b_is_whole T) .nil passF (pa_cons (pv 1) pa_nil)))) (pw_or1 (pt_cmpR op_lt (pv 1) (pv 0) (nomark _))))) (pss_one (ps_raiseE rfl T.e_InvalidNumber T.g_InvalidNumber hr (takes_of rfl rfl rfl rfl) (pa_cons (pv 1) pa_nil))) pss_nil)
      (pss_cons (ps_expr (pe_call (ok_check_amounts T) (hr.mono (by decide)) rfl T.g_check_amounts T.F_check_amounts.kp (b_check_amounts T) .nil (passes_call (takes_of rfl rfl rfl rfl) fun _ _ _ _ h => h) (pa_cons (pv 2) pa_nil)))
      (pss_cons (ps_expr (pe_call (ok_check_amounts T) (hr.mono (by decide)) rfl T.g_check_amounts T.F_check_amounts.kp (b_check_amounts T) .nil (passes_call (takes_of rfl rfl rfl rfl) fun _ _ _ _ h => h) (pa_cons (pv 3) pa_nil)))
      (pss_cons (ps_set (i := 4) sc_told_back.nd rfl (by first | exact .inl rfl | exact .inr rfl) (pe_lst pa_nil))
      (pss_cons (ps_for (passes_of rfl) rfl (pi_list (pe_call (ok_forms_of T) (hr.mono (by decide)) rfl T.g_forms_of T.F_forms_of.kp (b_forms_of T) .nil passF (pa_cons (pv 0) (pa_cons (pv 1) pa_nil)))) (pg_name (i := 5) sc_told_back.nd rfl (by first | exact .inl rfl | exact .inr rfl))
      (pss_cons (ps_set (i := 6) sc_told_back.nd rfl (by first | exact .inl rfl | exact .inr rfl) (pe_call (ok_rests_of T) (hr.mono (by decide)) rfl T.g_rests_of T.F_rests_of.kp (b_rests_of T) .nil passF (pa_cons (pe_make T.mk_Roll (ok_Roll_init T) (hr.mono (by decide)) rfl T.g_Roll (b_Roll_init T) .nil passF (pa_cons (pv 5) pa_nil)) pa_nil)))
      (pss_cons (ps_setLc (i := 7) (own := [("amount", 8)]) rfl sc_told_back.nd rfl rfl (sw_true rfl rfl rfl (by decide +kernel)) (pi_list (pv 2)) (blkOk_by (N := N_told_back) (sc := defScope s_told_back) (by decide +kernel)) (fun _ _ _ _ _ => (pg_name (i := 8) sc_told_back.nd rfl (by first | exact .inl rfl | exact .inr rfl))) (fun _ _ _ _ _ => (pts_one (pt_cmpR (RC.kOf (fun K => rIn K true) (K := K) op_notIn_seq rfl) (pe_op op_mod (pv 8) (pv 1)) (pv 6) rfl))) (fun _ _ _ _ _ => (pv 8)))
      (pss_cons (ps_expr (pe_bm PySem.F.plainAttrs_list PySem.F.slot_list_extend PySem.F.type_list_extend mt_extend (pv 7) (pa_cons (pe_lc (own := [("amount", 8)]) rfl sc_told_back.nd (pi_list (pv 3)) (blkOk_by (N := N_told_back) (sc := defScope s_told_back) (by decide +kernel)) (fun _ _ _ _ _ => (pg_name (i := 8) sc_told_back.nd rfl (by first | exact .inl rfl | exact .inr rfl))) (fun _ _ _ _ _ => (pts_one (pt_cmpR (RC.kOf (fun K => rIn K false) (K := K) op_in_seq rfl) (pe_op op_mod (pv 8) (pv 1)) (pv 6) rfl))) (fun _ _ _ _ _ => (pv 8))) pa_nil)))
      (pss_one (ps_if (pt_cmpR (op_eqD hr.units) (pv 7) (pe_lst pa_nil) (nomark _)) (pss_one (ps_expr (pe_bm PySem.F.plainAttrs_list PySem.F.slot_list_append PySem.F.type_list_append mt_append (pv 4) (pa_cons (pv 5) pa_nil)))) pss_nil))))))
      (pss_one (ps_ret (pv 4))))))))), ?_⟩)
  · obtain ⟨_, _, _, _, _, _, pa, _, _⟩ := h
    exact pa.len
  · obtain ⟨many, lap, goes, lacks, ω, G, pa, wA, sy⟩ := h
    try dsimp only [L2.cxOf, L2.Cx.nox, L2.Cx.wish]
    refine Go.fin (ms := [kept G (is K many), is K lap, is K goes, is K lacks]) (Γ := [some (kept G (is K many)), some (is K lap), some (is K goes), some (is K lacks), none, none, none, none, none]) (fo := (fun (r : (List (List Int))) => RS.own (olst (α := Nw G (List Int)) K r) (ω))) (ω := ω) (ωe := ω) (?_) (PArgs.kept0 pa) rfl wA sy
    unfold m_told_back
    exact Go.dropCall (EvA.cons (EvX.varK (i := 0) rfl) (EvA.cons EvX.int EvA.nil)) (use_check_number) (Dr.refl _) fun y190 h191 =>
  Go.req fun y192 h193 =>
  Go.tell (i := 0) (m' := kept G (is K _)) rfl (fun _ _ p => ⟨asI_imp h193 _ _ p.1, p.2⟩) (
  Go.req fun y194 h195 =>
  Go.req fun y198 h199 =>
  Go.ifX (EvT.orO (EvT.not (EvT.B (EvX.call (EvA.cons (EvX.var (i := 1) rfl) EvA.nil) (use_is_whole) (val_ok h195) rfl))) (fun _ q200 => (bindO q200 fun y196 h197 q200 => (EvT.eq (EvT.test (EvX.op (EvX.asI (EvX.var (i := 1) rfl) h197) (EvX.varK (i := 0) rfl) OpX.lt)) (Option.some.inj q200)))) h199) (fun h201 => Go.raise (EvA.cons (EvX.var (i := 1) rfl) EvA.nil) (Dr.refl _)) (fun _ z => nomatch z) (fun h202 =>
  Go.req fun y203 h204 =>
  Go.tell (i := 1) rfl (asI_imp h204) (
  Go.dropCall (EvA.cons (EvX.var (i := 2) rfl) EvA.nil) (use_check_amounts) (Dr.refl _) fun y205 h206 =>
  Go.req fun y207 h208 =>
  Go.tell (i := 2) rfl (asLI_imp h208) (
  Go.dropCall (EvA.cons (EvX.var (i := 3) rfl) EvA.nil) (use_check_amounts) (Dr.refl _) fun y209 h210 =>
  Go.req fun y211 h212 =>
  Go.tell (i := 3) rfl (asLI_imp h212) (
  Go.asgF (i := 4) (φ := olst K ([] : (List (Nw G (List Int))))) (EvF.lst EvA.nil rfl (by show 0 ≤ sizeLine; decide)) fun p213 =>
  Go.req fun y214 h215 =>
  Go.seqN (fn := (fun (s216 : (List (List Int))) => ([some (kept G (is K (y192 : Int))), some (is K (y203 : Int)), some (is K (y207 : (List Int))), some (is K (y211 : (List Int))), some (adr p213), none, none, none, none], (.own p213 (olst (α := Nw G (List Int)) K s216) :: ω)))) (Go.forN (α := Nw G (List Int)) (IterX.list (α := Nw G (List Int)) (EvX.fr (α := Nw G (List Int)) (EvF.callO (α := List Int) (i := 0) rfl (EvA.cons (EvX.varK (i := 0) rfl) (EvA.cons (EvX.var (i := 1) rfl) EvA.nil)) (new_forms_of) (val_ok h215)))) (Sub.keep (Sub.keep (Sub.keep (Sub.keep (Sub.keep (Sub.keep (Sub.keep (Sub.keep (Sub.keep Sub.nil))))))))) (Dr.refl _) (fun _ => trivial) (fun s216 => TgX.name) fun s216 x217 =>
  Go.req fun y218 h219 =>
  Go.req fun y220 h221 =>
  Go.asg (i := 6) (EvX.fr (EvF.call (EvA.cons (EvX.make (EvA.cons (EvX.nw (α := List Int) (EvX.var (i := 5) rfl)) EvA.nil) (fun _ => (use_Roll_init)) made_Roll (val_ok h219)) EvA.nil) (use_rests_of) (val_ok h221) rfl)) (
  Go.req fun y229 h230 =>
  Go.asgF (i := 7) (φ := olst K (y229 : (List Int))) (EvF.lc (IterX.list (EvX.var (i := 2) rfl)) trivial (fun _ _ _ => trivial) (TgW.name (by decide)) h230 fun x222 o225 p223 f224 q226 => (bindO q226 fun y227 h228 q226 => (Elt.iteO (EvT.test (EvX.op (EvX.op (EvX.var (i := 8) rfl) (EvX.var (i := 1) rfl) (OpX.mod h228)) (EvX.var (i := 6) rfl) OpX.niL)) (fun _ q231 => ⟨_, (Option.some.inj q231).symm, (EvX.var (i := 8) rfl)⟩) q226))) fun p232 =>
  Go.req fun y240 h241 =>
  Go.req fun y243 h244 =>
  Go.ext (k := 0) (EvX.var (i := 7) rfl) ⟨_, rfl⟩ (EvX.fr (EvF.lc (IterX.list (EvX.var (i := 3) rfl)) trivial (fun _ _ _ => trivial) (TgW.name (by decide)) h241 fun x233 o236 p234 f235 q237 => (bindO q237 fun y238 h239 q237 => (Elt.iteO (EvT.test (EvX.op (EvX.op (EvX.var (i := 8) rfl) (EvX.var (i := 1) rfl) (OpX.mod h239)) (EvX.var (i := 6) rfl) OpX.inL)) (fun _ q242 => ⟨_, (Option.some.inj q242).symm, (EvX.var (i := 8) rfl)⟩) q237)))) rfl h244 (
  Go.ifS (EvT.test (EvX.op (EvX.var (i := 7) rfl) (EvX.fr (EvF.lst EvA.nil rfl (by show 0 ≤ sizeLine; decide))) (OpX.eqA (DtAt.own (k := 0) rfl) DtAt.of (by decide)))) (fun h245 =>
  Go.req fun y247 h248 =>
  Go.last (Go.app (α := Nw G (List Int)) (k := 1) (EvX.var (i := 4) rfl) ⟨_, rfl⟩ (EvX.var (i := 5) rfl) rfl h248 (
  Go.next (Sub.keep (Sub.keep (Sub.keep (Sub.keep (Sub.keep (Sub.lose (Sub.lose (Sub.lose (Sub.keep Sub.nil))))))))) (Dr.drop (Dr.refl _))))) (fun h246 =>
  Go.next (Sub.keep (Sub.keep (Sub.keep (Sub.keep (Sub.keep (Sub.lose (Sub.lose (Sub.lose (Sub.keep Sub.nil))))))))) (Dr.drop (Dr.refl _)))))) fun s249 h250 =>
  Go.retO (i := 4) (k := 0) rfl rfl rfl (Dr.refl _))))))
end
end Mi
set_option pp.maxSteps 600
namespace Mi
open PySem PySem.Spec PyProof.Rows L2 He Lf RC
open PySem.W (Frag)
section
variable {w : World} {K : Frag} {mg : Str → Option Value} {base : Heap}
def m_l_mixed (_law_cell : Int) (_law_k : Int) : Res Int :=
  Res.req (imul ((7919 : Int) * _law_k) _law_k) fun y251 =>
  Res.req (some (((((_law_cell * (1103515245 : Int)) + y251) + _law_k) + (1 : Int)) % (2147483647 : Int))) fun y253 =>
  Res.req (imul y253 y253) fun y255 =>
  Res.req (some ((y255 + (69621 : Int)) % (2147483629 : Int))) fun y257 =>
  .ok ((y257 * (48271 : Int)) % (2147483587 : Int))
def sp_l_mixed (K : Frag) : Sp := fun vs H Q E => ∃ (_law_cell : Int) (_law_k : Int) (ω : List Ent) (G : Hp), PArgs G vs [is K _law_cell, is K _law_k] ∧ At G (ω) H ∧ Says K G (ω) (m_l_mixed _law_cell _law_k) (fun (r : Int) => RS.val (is K r) (ω)) Q E
theorem use_l_mixed {E : XK} {ω : List Ent} {_law_cell : Int} {_law_k : Int} : SpR K (sp_l_mixed K) E [is K _law_cell, is K _law_k] ω ω (m_l_mixed _law_cell _law_k) (fun (r : Int) => RS.val (is K r) (ω)) := fun G H vs Q pa w s => ⟨_law_cell, _law_k, ω, G, pa, w, s⟩
theorem ok_l_mixed (T : Txt K mg) : FnOk PR w K mg base (L2.CX PR w) 1 (He.fAd K ("_law_mixed", none)) T.fd_l_mixed ["_law_cell", "_law_k"] (sp_l_mixed K) := by
  refine T.F_l_mixed.ok sc_l_mixed (fun vs H Q E h => ?_) (fun cdv A outer s H vs Q E hr h => ⟨_, PSs.nox ((pss_cons (ps_set (i := 2) sc_l_mixed.nd rfl (by first | exact .inl rfl | exact .inr rfl) (pe_op op_mod (pe_op op_add (pe_op op_add (pe_op op_add (pe_op op_mul (pv 0) pe_int) (pe_op op_mulW (pe_op op_mul pe_int (pv 1)) (pv 1))) (pv 1)) pe_int) pe_int))
      (pss_cons (ps_set (i := 2) sc_l_mixed.nd rfl (by first | exact .inl rfl | exact .inr rfl) (pe_op op_mod (pe_op op_add (pe_op op_mulW (pv 2) (pv 2)) pe_int) pe_int))
      (pss_one (ps_ret (pe_op op_mod (pe_op op_mul (pv 2) pe_int) pe_int)))))), ?_⟩)
  · obtain ⟨_, _, _, _, pa, _, _⟩ := h
    exact pa.len
  · obtain ⟨_law_cell, _law_k, ω, G, pa, wA, sy⟩ := h
    try dsimp only [L2.cxOf, L2.Cx.nox, L2.Cx.wish]
    refine Go.fin (Γ := [some (is K _law_cell), some (is K _law_k), none]) (fo := (fun (r : Int) => RS.val (is K r) (ω))) (ω := ω) (ωe := ω) (?_) pa rfl wA sy
    unfold m_l_mixed
    exact Go.req fun y251 h252 =>
  Go.req fun y253 h254 =>
  Go.asg (i := 2) (EvX.eq (EvX.op (EvX.op (EvX.op (EvX.op (EvX.op (EvX.var (i := 0) rfl) EvX.int (OpX.mulK (.inr (by decide)))) (EvX.op (EvX.op EvX.int (EvX.var (i := 1) rfl) (OpX.mulK (.inl (by decide)))) (EvX.var (i := 1) rfl) (OpX.mul h252)) OpX.add) (EvX.var (i := 1) rfl) OpX.add) EvX.int OpX.add) EvX.int (OpX.modK (by decide))) (Option.some.inj h254)) (
  Go.req fun y255 h256 =>
  Go.req fun y257 h258 =>
  Go.asg (i := 2) (EvX.eq (EvX.op (EvX.op (EvX.op (EvX.var (i := 2) rfl) (EvX.var (i := 2) rfl) (OpX.mul h256)) EvX.int OpX.add) EvX.int (OpX.modK (by decide))) (Option.some.inj h258)) (
  Go.ret (EvX.op (EvX.op (EvX.var (i := 2) rfl) EvX.int (OpX.mulK (.inr (by decide)))) EvX.int (OpX.modK (by decide))) rfl (Dr.refl _)))
def m_l_purse (_law_script : Sc) (_law_at : Int) : Res (List Int) :=
  Res.req (some (cut _law_script.l (some _law_at) (some (_law_at + (1 : Int)))).sum) fun y259 =>
  Res.req (ipow ((10 : Int) ^ 60) (10 : Int)) fun y261 =>
  Res.req (imod (max2 (y259 - ((10 : Int) ^ 18)) (0 : Int)) y261) fun y263 =>
  .ok [y263, (y259 % (2147483647 : Int)), ((1000 : Int) * _law_at)]
def sp_l_purse (K : Frag) : Sp := fun vs H Q E => ∃ (_law_script : Sc) (_law_at : Int) (ω : List Ent) (G : Hp), _law_script.l.length ≤ 63 ∧ PArgs G vs [is K _law_script, is K _law_at] ∧ At G (ω) H ∧ Says K G (ω) (m_l_purse _law_script _law_at) (fun (r : (List Int)) => RS.own (olst K (r : (List Int))) (ω)) Q E
theorem use_l_purse {E : XK} {ω : List Ent} {_law_script : Sc} {_law_at : Int} (hsc : _law_script.l.length ≤ 63) : SpR K (sp_l_purse K) E [is K _law_script, is K _law_at] ω ω (m_l_purse _law_script _law_at) (fun (r : (List Int)) => RS.own (olst K (r : (List Int))) (ω)) := fun G H vs Q pa w s => ⟨_law_script, _law_at, ω, G, hsc, pa, w, s⟩
theorem ok_l_purse (T : Txt K mg) : FnOk PR w K mg base (L2.CX PR w) 1 (He.fAd K ("_law_purse", none)) T.fd_l_purse ["_law_script", "_law_at"] (sp_l_purse K) := by
  refine T.F_l_purse.ok sc_l_purse (fun vs H Q E h => ?_) (fun cdv A outer s H vs Q E hr h => ⟨_, PSs.nox ((pss_cons (ps_set (i := 2) sc_l_purse.nd rfl (by first | exact .inl rfl | exact .inr rfl) (pe_callB (cr_sum rfl) rfl T.fr_sum (by decide +kernel) (pa_cons (pe_slice sl_list (pv 0) (po_some (pv 1)) (po_some (pe_op op_add (pv 1) pe_int))) pa_nil)))
      (pss_one (ps_ret (pe_lst (pa_cons (pe_op op_mod (pe_callB (RC.call_max2S rfl) rfl T.fr_max (by decide +kernel) (pa_cons (pe_op op_sub (pv 2) (pe_op op_pow pe_int pe_int)) (pa_cons pe_int pa_nil))) (pe_op RC.op_powW (pe_op op_pow pe_int pe_int) pe_int)) (pa_cons (pe_op op_mod (pv 2) pe_int) (pa_cons (pe_op op_mul pe_int (pv 1)) pa_nil)))))))), ?_⟩)
  · obtain ⟨_, _, _, _, _, pa, _, _⟩ := h
    exact pa.len
  · obtain ⟨_law_script, _law_at, ω, G, hsc, pa, wA, sy⟩ := h
    try dsimp only [L2.cxOf, L2.Cx.nox, L2.Cx.wish]
    refine Go.fin (Γ := [some (is K _law_script), some (is K _law_at), none]) (fo := (fun (r : (List Int)) => RS.own (olst K (r : (List Int))) (ω))) (ω := ω) (ωe := ω) (?_) pa rfl wA sy
    unfold m_l_purse
    exact Go.req fun y259 h260 =>
  Go.asg (i := 2) (EvX.eq (EvX.ca (EvA.cons (EvX.fr (EvF.slS (EvX.var (i := 0) rfl) (EvO.some (K := K) (EvX.var (i := 1) rfl)) (EvO.some (K := K) (EvX.op (EvX.var (i := 1) rfl) EvX.int OpX.add)) hsc)) EvA.nil) CaX.sum) (Option.some.inj h260)) (
  Go.req fun y261 h262 =>
  Go.req fun y263 h264 =>
  Go.retF (EvF.lst (EvA.cons (EvX.op (EvX.ca (EvA.cons (EvX.op (EvX.var (i := 2) rfl) (EvX.op EvX.int EvX.int (OpX.powK ⟨by decide, by decide, by decide⟩)) OpX.sub) (EvA.cons EvX.int EvA.nil)) CaX.max2) (EvX.op (EvX.op EvX.int EvX.int (OpX.powK ⟨by decide, by decide, by decide⟩)) EvX.int (OpX.pow h262)) (OpX.mod h264)) (EvA.cons (EvX.op (EvX.var (i := 2) rfl) EvX.int (OpX.modK (by decide))) (EvA.cons (EvX.op EvX.int (EvX.var (i := 1) rfl) (OpX.mulK (.inl (by decide)))) EvA.nil))) rfl (by show 3 ≤ sizeLine; decide)) rfl (Dr.refl _))
def m_l_draw (_law_purse_here : (List Int)) (_law_out_of : Int) : Res (Int × (List Int)) :=
  Res.req (atI _law_purse_here (0 : Int)) fun y265 =>
  (if (decide ((0 : Int) < y265)) then Res.req (atI _law_purse_here (0 : Int)) fun y269 =>
  Res.req (imod y269 _law_out_of) fun y271 =>
  Res.req (atI _law_purse_here (0 : Int)) fun y273 =>
  Res.req (ifdiv y273 _law_out_of) fun y275 =>
  Res.req (setAt _law_purse_here (0 : Int) y275) fun y277 =>
  .ok (y271, y277) else
  Res.req (irng (0 : Int) ((1 : Int) + ((Builtin.Int.intBits _law_out_of : Int) / (30 : Int)))) fun y279 =>
  Res.bind (Res.fold (fun (s281 : Int × (List Int)) (x282 : Int) =>
  Res.req (atI s281.2 (2 : Int)) fun y283 =>
  Res.req (setAt s281.2 (2 : Int) (y283 + (1 : Int))) fun y285 =>
  Res.req (atI y285 (1 : Int)) fun y287 =>
  Res.req (atI y285 (2 : Int)) fun y289 =>
  Res.req (Res.val (m_l_mixed y287 y289)) fun y291 =>
  Res.req (some ((s281.1 * (2147483587 : Int)) + y291)) fun y293 =>
  .ok (y293, y285)) y279 ((0 : Int), _law_purse_here)) fun (s295 : Int × (List Int)) =>
  Res.req (imod s295.1 _law_out_of) fun y297 =>
  .ok (y297, s295.2))
def sp_l_draw (K : Frag) : Sp := fun vs H Q E => ∃ (_law_purse_here : (List Int)) (_law_out_of : Int) (p__law_purse_here : Addr) (ω : List Ent) (G : Hp), PArgs G vs [adr p__law_purse_here, is K _law_out_of] ∧ At G (.own p__law_purse_here (olst K _law_purse_here) :: ω) H ∧ Says K G (.own p__law_purse_here (olst K _law_purse_here) :: ω) (m_l_draw _law_purse_here _law_out_of) (fun (r : (Int × (List Int))) => RS.val (is K r.1) (.own p__law_purse_here (olst K r.2) :: ω)) Q E
theorem use_l_draw {E : XK} {ω : List Ent} {_law_purse_here : (List Int)} {_law_out_of : Int} {p__law_purse_here : Addr} {k : Nat} (ho : ω[k]? = some (Ent.own p__law_purse_here (olst K _law_purse_here))) : SpR K (sp_l_draw K) E [adr p__law_purse_here, is K _law_out_of] ω ω (m_l_draw _law_purse_here _law_out_of) (fun (r : (Int × (List Int))) => RS.val (is K r.1) (ω.set k (.own p__law_purse_here (olst K r.2)))) := fun G H vs Q pa w s => ⟨_law_purse_here, _law_out_of, p__law_purse_here, ω.eraseIdx k, G, pa, w.front ho, Says.front (φ := olst K _law_purse_here) (φ' := fun (r : (Int × (List Int))) => olst K r.2) (f1 := fun (r : (Int × (List Int))) => is K r.1) ho s⟩
theorem ok_l_draw (T : Txt K mg) : FnOk PR w K mg base (L2.CX PR w) 2 (He.fAd K ("_law_draw", none)) T.fd_l_draw ["_law_purse_here", "_law_out_of"] (sp_l_draw K) := by
  refine T.F_l_draw.ok sc_l_draw (fun vs H Q E h => ?_) (fun cdv A outer s H vs Q E hr h => ⟨_, PSs.nox ((pss_cons (ps_if (pt_cmpR op_gt (pe_ix ix_list (pv 0) pe_int (fun _ _ => rfl)) pe_int (nomark _)) (pss_cons (ps_set (i := 2) sc_l_draw.nd rfl (by first | exact .inl rfl | exact .inr rfl) (pe_op op_mod (pe_ix ix_list (pv 0) pe_int (fun _ _ => rfl)) (pv 1)))
      (pss_cons (ps_asg (pe_op op_fdivW (pe_ix ix_list (pv 0) pe_int (fun _ _ => rfl)) (pv 1)) (pg_sub (pv 0) pe_int set_list))
      (pss_one (ps_ret (pv 2))))) pss_nil)
      (pss_cons (ps_set (i := 3) sc_l_draw.nd rfl (by first | exact .inl rfl | exact .inr rfl) pe_int)
      (pss_cons (ps_for PassesOwn.never rfl (pi_range1 rfl T.fr_range (pa_cons (pe_op op_add pe_int (pe_op op_fdiv (pe_bits (pv 1)) pe_int)) pa_nil)) (pg_name (i := 4) sc_l_draw.nd rfl (by first | exact .inl rfl | exact .inr rfl))
      (pss_cons (ps_asg (pe_op op_add (pe_ix ix_list (pv 0) pe_int (fun _ _ => rfl)) pe_int) (pg_sub (pv 0) pe_int set_list))
      (pss_one (ps_set (i := 3) sc_l_draw.nd rfl (by first | exact .inl rfl | exact .inr rfl) (pe_op op_add (pe_op op_mul (pv 3) pe_int) (pe_call (ok_l_mixed T) (hr.mono (by decide)) rfl T.g_l_mixed T.F_l_mixed.kp (b_l_mixed T) .nil passF (pa_cons (pe_ix ix_list (pv 0) pe_int (fun _ _ => rfl)) (pa_cons (pe_ix ix_list (pv 0) pe_int (fun _ _ => rfl)) pa_nil))))))))
      (pss_one (ps_ret (pe_op op_mod (pv 3) (pv 1)))))))), ?_⟩)
  · obtain ⟨_, _, _, _, _, pa, _, _⟩ := h
    exact pa.len
  · obtain ⟨_law_purse_here, _law_out_of, p__law_purse_here, ω, G, pa, wA, sy⟩ := h
    try dsimp only [L2.cxOf, L2.Cx.nox, L2.Cx.wish]
    refine Go.fin (Γ := [some (adr p__law_purse_here), some (is K _law_out_of), none, none, none]) (fo := (fun (r : (Int × (List Int))) => RS.val (is K r.1) (.own p__law_purse_here (olst K r.2) :: ω))) (ω := .own p__law_purse_here (olst K _law_purse_here) :: ω) (ωe := .own p__law_purse_here (olst K _law_purse_here) :: ω) (?_) pa rfl wA sy
    unfold m_l_draw
    exact Go.req fun y265 h266 =>
  Go.ifE (EvT.test (EvX.op (EvX.op (EvX.var (i := 0) rfl) EvX.int (OpX.ixO (k := 0) rfl h266)) EvX.int OpX.gt)) (fun h267 =>
  Go.req fun y269 h270 =>
  Go.req fun y271 h272 =>
  Go.asg (i := 2) (EvX.op (EvX.op (EvX.var (i := 0) rfl) EvX.int (OpX.ixO (k := 0) rfl h270)) (EvX.var (i := 1) rfl) (OpX.mod h272)) (
  Go.req fun y273 h274 =>
  Go.req fun y275 h276 =>
  Go.req fun y277 h278 =>
  Go.setL (k := 0) (EvX.op (EvX.op (EvX.var (i := 0) rfl) EvX.int (OpX.ixO (k := 0) rfl h274)) (EvX.var (i := 1) rfl) (OpX.fdiv h276)) (EvX.var (i := 0) rfl) EvX.int rfl h278 (
  Go.ret (EvX.var (i := 2) rfl) rfl (Dr.refl _)))) (fun h268 =>
  Go.asg (i := 3) EvX.int (
  Go.req fun y279 h280 =>
  Go.seqN (fn := (fun (s281 : Int × (List Int)) => ([some (adr p__law_purse_here), some (is K (_law_out_of : Int)), none, some (is K (s281.1 : Int)), none], (.own p__law_purse_here (olst K (s281.2 : (List Int))) :: ω)))) (Go.forN (IterX.rng1 (EvA.cons (EvX.op EvX.int (EvX.op (EvX.bits (EvX.var (i := 1) rfl)) EvX.int (OpX.fdivK ⟨by decide, by decide⟩)) OpX.add) EvA.nil) h280) (Sub.keep (Sub.keep (Sub.keep (Sub.keep (Sub.keep Sub.nil))))) (Dr.refl _) (fun _ => trivial) (fun s281 => TgX.name) fun s281 x282 =>
  Go.req fun y283 h284 =>
  Go.req fun y285 h286 =>
  Go.setL (k := 0) (EvX.op (EvX.op (EvX.var (i := 0) rfl) EvX.int (OpX.ixO (k := 0) rfl h284)) EvX.int OpX.add) (EvX.var (i := 0) rfl) EvX.int rfl h286 (
  Go.req fun y287 h288 =>
  Go.req fun y289 h290 =>
  Go.req fun y291 h292 =>
  Go.req fun y293 h294 =>
  Go.last (Go.asg (i := 3) (EvX.eq (EvX.op (EvX.op (EvX.var (i := 3) rfl) EvX.int (OpX.mulK (.inr (by decide)))) (EvX.call (EvA.cons (EvX.op (EvX.var (i := 0) rfl) EvX.int (OpX.ixO (k := 0) rfl h288)) (EvA.cons (EvX.op (EvX.var (i := 0) rfl) EvX.int (OpX.ixO (k := 0) rfl h290)) EvA.nil)) (use_l_mixed) (val_ok h292) rfl) OpX.add) (Option.some.inj h294)) (
  Go.next (Sub.keep (Sub.keep (Sub.keep (Sub.keep (Sub.lose Sub.nil))))) (Dr.refl _))))) fun s295 h296 =>
  Go.req fun y297 h298 =>
  Go.ret (EvX.op (EvX.var (i := 3) rfl) (EvX.var (i := 1) rfl) (OpX.mod h298)) rfl (Dr.refl _)))
def m_l_worths_drawn (_law_purse_here : (List Int)) (_law_most : Int) (_law_greatest : Int) : Res ((List Int) × (List Int)) :=
  Res.req (Res.val (m_l_draw _law_purse_here _law_most)) fun y300 =>
  Res.req (irng (0 : Int) ((1 : Int) + y300.1)) fun y302 =>
  Res.bind (Res.fold (fun (s304 : (List Int) × (List Int)) (x305 : Int) =>
  Res.req (Res.val (m_l_draw s304.2 _law_greatest)) fun y306 =>
  Res.req (app s304.1 ((1 : Int) + y306.1)) fun y308 =>
  .ok (y308, y306.2)) y302 ([], y300.2)) fun (s310 : (List Int) × (List Int)) =>
  .ok (s310.1, s310.2)
def sp_l_worths_drawn (K : Frag) : Sp := fun vs H Q E => ∃ (_law_purse_here : (List Int)) (_law_most : Int) (_law_greatest : Int) (p__law_purse_here : Addr) (ω : List Ent) (G : Hp), PArgs G vs [adr p__law_purse_here, is K _law_most, is K _law_greatest] ∧ At G (.own p__law_purse_here (olst K _law_purse_here) :: ω) H ∧ Says K G (.own p__law_purse_here (olst K _law_purse_here) :: ω) (m_l_worths_drawn _law_purse_here _law_most _law_greatest) (fun (r : ((List Int) × (List Int))) => RS.val (is K r.1) (.own p__law_purse_here (olst K r.2) :: ω)) Q E
theorem use_l_worths_drawn {E : XK} {ω : List Ent} {_law_purse_here : (List Int)} {_law_most : Int} {_law_greatest : Int} {p__law_purse_here : Addr} {k : Nat} (ho : ω[k]? = some (Ent.own p__law_purse_here (olst K _law_purse_here))) : SpR K (sp_l_worths_drawn K) E [adr p__law_purse_here, is K _law_most, is K _law_greatest] ω ω (m_l_worths_drawn _law_purse_here _law_most _law_greatest) (fun (r : ((List Int) × (List Int))) => RS.val (is K r.1) (ω.set k (.own p__law_purse_here (olst K r.2)))) := fun G H vs Q pa w s => ⟨_law_purse_here, _law_most, _law_greatest, p__law_purse_here, ω.eraseIdx k, G, pa, w.front ho, Says.front (φ := olst K _law_purse_here) (φ' := fun (r : ((List Int) × (List Int))) => olst K r.2) (f1 := fun (r : ((List Int) × (List Int))) => is K r.1) ho s⟩
theorem ok_l_worths_drawn (T : Txt K mg) : FnOk PR w K mg base (L2.CX PR w) 3 (He.fAd K ("_law_worths_drawn", none)) T.fd_l_worths_drawn ["_law_purse_here", "_law_most", "_law_greatest"] (sp_l_worths_drawn K) := by
  refine T.F_l_worths_drawn.ok sc_l_worths_drawn (fun vs H Q E h => ?_) (fun cdv A outer s H vs Q E hr h => ⟨_, PSs.nox ((pss_cons (ps_set (i := 3) sc_l_worths_drawn.nd rfl (by first | exact .inl rfl | exact .inr rfl) (pe_lst pa_nil))
      (pss_cons (ps_for PassesOwn.never rfl (pi_range1 rfl T.fr_range (pa_cons (pe_op op_add pe_int (pe_call (ok_l_draw T) (hr.mono (by decide)) rfl T.g_l_draw T.F_l_draw.kp (b_l_draw T) .nil passF (pa_cons (pv 0) (pa_cons (pv 1) pa_nil)))) pa_nil)) (pg_name (i := 4) sc_l_worths_drawn.nd rfl (by first | exact .inl rfl | exact .inr rfl))
      (pss_one (ps_expr (pe_bm PySem.F.plainAttrs_list PySem.F.slot_list_append PySem.F.type_list_append mt_append (pv 3) (pa_cons (pe_op op_add pe_int (pe_call (ok_l_draw T) (hr.mono (by decide)) rfl T.g_l_draw T.F_l_draw.kp (b_l_draw T) .nil passF (pa_cons (pv 0) (pa_cons (pv 2) pa_nil)))) pa_nil)))))
      (pss_one (ps_ret (pv 3)))))), ?_⟩)
  · obtain ⟨_, _, _, _, _, _, pa, _, _⟩ := h
    exact pa.len
  · obtain ⟨_law_purse_here, _law_most, _law_greatest, p__law_purse_here, ω, G, pa, wA, sy⟩ := h
    try dsimp only [L2.cxOf, L2.Cx.nox, L2.Cx.wish]
    refine Go.fin (Γ := [some (adr p__law_purse_here), some (is K _law_most), some (is K _law_greatest), none, none]) (fo := (fun (r : ((List Int) × (List Int))) => RS.val (is K r.1) (.own p__law_purse_here (olst K r.2) :: ω))) (ω := .own p__law_purse_here (olst K _law_purse_here) :: ω) (ωe := .own p__law_purse_here (olst K _law_purse_here) :: ω) (?_) pa rfl wA sy
    unfold m_l_worths_drawn
    exact Go.asgF (i := 3) (φ := olst K ([] : (List Int))) (EvF.lst EvA.nil rfl (by show 0 ≤ sizeLine; decide)) fun p299 =>
  Go.req fun y300 h301 =>
  Go.req fun y302 h303 =>
  Go.seqN (fn := (fun (s304 : (List Int) × (List Int)) => ([some (adr p__law_purse_here), some (is K (_law_most : Int)), some (is K (_law_greatest : Int)), some (adr p299), none], (.own p299 (olst K (s304.1 : (List Int))) :: .own p__law_purse_here (olst K (s304.2 : (List Int))) :: ω)))) (Go.forN (IterX.rng1 (EvA.cons (EvX.op EvX.int (EvX.call (EvA.cons (EvX.var (i := 0) rfl) (EvA.cons (EvX.var (i := 1) rfl) EvA.nil)) (use_l_draw (k := 1) rfl) (val_ok h301) rfl) OpX.add) EvA.nil) h303) (Sub.keep (Sub.keep (Sub.keep (Sub.keep (Sub.keep Sub.nil))))) (Dr.refl _) (fun _ => trivial) (fun s304 => TgX.name) fun s304 x305 =>
  Go.req fun y306 h307 =>
  Go.req fun y308 h309 =>
  Go.last (Go.app (k := 0) (EvX.var (i := 3) rfl) ⟨_, rfl⟩ (EvX.op EvX.int (EvX.call (EvA.cons (EvX.var (i := 0) rfl) (EvA.cons (EvX.var (i := 2) rfl) EvA.nil)) (use_l_draw (k := 1) rfl) (val_ok h307) rfl) OpX.add) rfl h309 (
  Go.next (Sub.keep (Sub.keep (Sub.keep (Sub.keep (Sub.lose Sub.nil))))) (Dr.refl _)))) fun s310 h311 =>
  Go.freeze (k := 0) (i := 3) rfl rfl (Go.ret (EvX.var (i := 3) rfl) rfl (Dr.refl _))
def m_l_sum (_law_some : (List Int)) (_law_start : Int) (_law_length : Int) : Res Int :=
  Res.req (ifdiv _law_length (_law_some.length : Int)) fun y312 =>
  Res.req (imod _law_length (_law_some.length : Int)) fun y314 =>
  Res.req (imul y312 _law_some.sum) fun y316 =>
  Res.req (irng _law_start (_law_start + y314)) fun y318 =>
  Res.bind (Res.fold (fun (s320 : Int) (x321 : Int) =>
  Res.req (imod x321 (_law_some.length : Int)) fun y322 =>
  Res.req (atI _law_some y322) fun y324 =>
  .ok (s320 + y324)) y318 y316) fun (s326 : Int) =>
  .ok s326
def sp_l_sum (K : Frag) : Sp := fun vs H Q E => ∃ (_law_some : (List Int)) (_law_start : Int) (_law_length : Int) (ω : List Ent) (G : Hp), PArgs G vs [is K _law_some, is K _law_start, is K _law_length] ∧ At G (ω) H ∧ Says K G (ω) (m_l_sum _law_some _law_start _law_length) (fun (r : Int) => RS.val (is K r) (ω)) Q E
theorem use_l_sum {E : XK} {ω : List Ent} {_law_some : (List Int)} {_law_start : Int} {_law_length : Int} : SpR K (sp_l_sum K) E [is K _law_some, is K _law_start, is K _law_length] ω ω (m_l_sum _law_some _law_start _law_length) (fun (r : Int) => RS.val (is K r) (ω)) := fun G H vs Q pa w s => ⟨_law_some, _law_start, _law_length, ω, G, pa, w, s⟩
theorem ok_l_sum (T : Txt K mg) : FnOk PR w K mg base (L2.CX PR w) 1 (He.fAd K ("_law_sum", none)) T.fd_l_sum ["_law_some", "_law_start", "_law_length"] (sp_l_sum K) := by
  refine T.F_l_sum.ok sc_l_sum (fun vs H Q E h => ?_) (fun cdv A outer s H vs Q E hr h => ⟨_, PSs.nox ((pss_cons (ps_par (i := 3) (j := 4) rfl sc_l_sum.nd rfl rfl (by decide) rfl rfl (pa_cons (pe_op op_fdivW (pv 2) (pe_callB RC.call_lenS rfl T.fr_len (by decide +kernel) (pa_cons (pv 0) pa_nil))) (pa_cons (pe_op op_mod (pv 2) (pe_callB RC.call_lenS rfl T.fr_len (by decide +kernel) (pa_cons (pv 0) pa_nil))) pa_nil)) rfl)
      (pss_cons (ps_set (i := 5) sc_l_sum.nd rfl (by first | exact .inl rfl | exact .inr rfl) (pe_op op_mulW (pv 3) (pe_callB (cr_sum rfl) rfl T.fr_sum (by decide +kernel) (pa_cons (pv 0) pa_nil))))
      (pss_cons (ps_for PassesOwn.never rfl (pi_range2 rfl T.fr_range (pa_cons (pv 1) (pa_cons (pe_op op_add (pv 1) (pv 4)) pa_nil))) (pg_name (i := 6) sc_l_sum.nd rfl (by first | exact .inl rfl | exact .inr rfl))
      (pss_one (ps_set (i := 5) sc_l_sum.nd rfl (by first | exact .inl rfl | exact .inr rfl) (pe_op op_add (pv 5) (pe_ix ix_list (pv 0) (pe_op op_mod (pv 6) (pe_callB RC.call_lenS rfl T.fr_len (by decide +kernel) (pa_cons (pv 0) pa_nil))) (fun _ _ => rfl))))))
      (pss_one (ps_ret (pv 5))))))), ?_⟩)
  · obtain ⟨_, _, _, _, _, pa, _, _⟩ := h
    exact pa.len
  · obtain ⟨_law_some, _law_start, _law_length, ω, G, pa, wA, sy⟩ := h
    try dsimp only [L2.cxOf, L2.Cx.nox, L2.Cx.wish]
    refine Go.fin (Γ := [some (is K _law_some), some (is K _law_start), some (is K _law_length), none, none, none, none]) (fo := (fun (r : Int) => RS.val (is K r) (ω))) (ω := ω) (ωe := ω) (?_) pa rfl wA sy
    unfold m_l_sum
    exact Go.req fun y312 h313 =>
  Go.req fun y314 h315 =>
  Go.par (i := 3) (j := 4) (EvA.cons (EvX.op (EvX.var (i := 2) rfl) (EvX.ca (EvA.cons (EvX.var (i := 0) rfl) EvA.nil) CaX.len) (OpX.fdiv h313)) (EvA.cons (EvX.op (EvX.var (i := 2) rfl) (EvX.ca (EvA.cons (EvX.var (i := 0) rfl) EvA.nil) CaX.len) (OpX.mod h315)) EvA.nil)) (
  Go.req fun y316 h317 =>
  Go.asg (i := 5) (EvX.op (EvX.var (i := 3) rfl) (EvX.ca (EvA.cons (EvX.var (i := 0) rfl) EvA.nil) CaX.sum) (OpX.mul h317)) (
  Go.req fun y318 h319 =>
  Go.seqN (fn := (fun (s320 : Int) => ([some (is K (_law_some : (List Int))), some (is K (_law_start : Int)), some (is K (_law_length : Int)), some (is K (y312 : Int)), some (is K (y314 : Int)), some (is K (s320 : Int)), none], (ω)))) (Go.forN (IterX.rng2 (EvA.cons (EvX.var (i := 1) rfl) (EvA.cons (EvX.op (EvX.var (i := 1) rfl) (EvX.var (i := 4) rfl) OpX.add) EvA.nil)) h319) (Sub.keep (Sub.keep (Sub.keep (Sub.keep (Sub.keep (Sub.keep (Sub.keep Sub.nil))))))) (Dr.refl _) (fun _ => trivial) (fun s320 => TgX.name) fun s320 x321 =>
  Go.req fun y322 h323 =>
  Go.req fun y324 h325 =>
  Go.last (Go.asg (i := 5) (EvX.op (EvX.var (i := 5) rfl) (EvX.op (EvX.var (i := 0) rfl) (EvX.op (EvX.var (i := 6) rfl) (EvX.ca (EvA.cons (EvX.var (i := 0) rfl) EvA.nil) CaX.len) (OpX.mod h323)) (OpX.ixL h325)) OpX.add) (
  Go.next (Sub.keep (Sub.keep (Sub.keep (Sub.keep (Sub.keep (Sub.keep (Sub.lose Sub.nil))))))) (Dr.refl _)))) fun s326 h327 =>
  Go.ret (EvX.var (i := 5) rfl) rfl (Dr.refl _)))
def m_l_forms (_law_row : (List Int)) : Res (List (List Int)) :=
  Res.bind (Res.fold (fun (s328 : (List (List Int))) (x329 : (List Int)) =>
  Res.req (irng (0 : Int) (x329.length : Int)) fun y330 =>
  Res.req (mapO (fun (x332 : Int) => (Option.bind (cat (cut x329 (some x332) none) (cut x329 none (some x332))) fun y337 => (some (some y337)))) y330) fun y339 =>
  Res.req (cat s328 y339) fun y341 =>
  .ok y341) [_law_row, _law_row.reverse] []) fun (s343 : (List (List Int))) =>
  .ok (sortR s343)
def sp_l_forms (K : Frag) : Sp := fun vs H Q E => ∃ (_law_row : (List Int)) (ω : List Ent) (G : Hp), PArgs G vs [is K _law_row] ∧ At G (ω) H ∧ Says K G (ω) (m_l_forms _law_row) (fun (r : (List (List Int))) => RS.val (is K r) (ω)) Q E
theorem use_l_forms {E : XK} {ω : List Ent} {_law_row : (List Int)} : SpR K (sp_l_forms K) E [is K _law_row] ω ω (m_l_forms _law_row) (fun (r : (List (List Int))) => RS.val (is K r) (ω)) := fun G H vs Q pa w s => ⟨_law_row, ω, G, pa, w, s⟩
theorem ok_l_forms (T : Txt K mg) : FnOk PR w K mg base (L2.CX PR w) 2 (He.fAd K ("_law_forms", none)) T.fd_l_forms ["_law_row"] (sp_l_forms K) := by
  refine T.F_l_forms.ok sc_l_forms (fun vs H Q E h => ?_) (fun cdv A outer s H vs Q E hr h => ⟨_, PSs.nox ((pss_cons (ps_set (i := 1) sc_l_forms.nd rfl (by first | exact .inl rfl | exact .inr rfl) (pe_lst pa_nil))
      (pss_cons (ps_for PassesOwn.never rfl (pi_list (pe_lst (pa_cons (pv 0) (pa_cons (pe_revL (pv 0)) pa_nil)))) (pg_name (i := 2) sc_l_forms.nd rfl (by first | exact .inl rfl | exact .inr rfl))
      (pss_one (ps_set (i := 1) sc_l_forms.nd rfl (by first | exact .inl rfl | exact .inr rfl) (pe_op op_cat (pv 1) (pe_lc (own := [("_law_at", 3)]) rfl sc_l_forms.nd (pi_range1 rfl T.fr_range (pa_cons (pe_callB RC.call_lenS rfl T.fr_len (by decide +kernel) (pa_cons (pv 2) pa_nil)) pa_nil)) (blkOk_by (N := N_l_forms) (sc := defScope s_l_forms) (by decide +kernel)) (fun _ _ _ _ _ => (pg_name (i := 3) sc_l_forms.nd rfl (by first | exact .inl rfl | exact .inr rfl))) (fun _ _ _ _ _ => pts_nil) (fun _ _ _ _ _ => (pe_op op_cat (pe_slice (RC.kOf rSlL (K := K) sl_list rfl) (pv 2) (po_some (pv 3)) po_none) (pe_slice (RC.kOf rSlL (K := K) sl_list rfl) (pv 2) po_none (po_some (pv 3))))))))))
      (pss_one (ps_ret (pe_callB (cr_sortedL (hr.mono (by decide))) rfl T.fr_sorted (by decide +kernel) (pa_cons (pv 1) pa_nil))))))), ?_⟩)
  · obtain ⟨_, _, _, pa, _, _⟩ := h
    exact pa.len
  · obtain ⟨_law_row, ω, G, pa, wA, sy⟩ := h
    try dsimp only [L2.cxOf, L2.Cx.nox, L2.Cx.wish]
    refine Go.fin (Γ := [some (is K _law_row), none, none, none]) (fo := (fun (r : (List (List Int))) => RS.val (is K r) (ω))) (ω := ω) (ωe := ω) (?_) pa rfl wA sy
    unfold m_l_forms
    exact Go.asg (i := 1) (EvX.fr (EvF.lst EvA.nil rfl (by show 0 ≤ sizeLine; decide))) (
  Go.seqN (fn := (fun (s328 : (List (List Int))) => ([some (is K (_law_row : (List Int))), some (is K (s328 : (List (List Int)))), none, none], (ω)))) (Go.forN (IterX.list (EvX.fr (EvF.lst (EvA.cons (EvX.var (i := 0) rfl) (EvA.cons (EvX.fr (EvF.rev (EvX.var (i := 0) rfl))) EvA.nil)) rfl (by show 2 ≤ sizeLine; decide)))) (Sub.keep (Sub.keep (Sub.keep (Sub.keep Sub.nil)))) (Dr.refl _) (fun _ => trivial) (fun s328 => TgX.name) fun s328 x329 =>
  Go.req fun y330 h331 =>
  Go.req fun y339 h340 =>
  Go.req fun y341 h342 =>
  Go.last (Go.asg (i := 1) (EvX.fr (EvF.op (EvX.var (i := 1) rfl) (EvX.fr (EvF.lc (IterX.rng1 (EvA.cons (EvX.ca (EvA.cons (EvX.var (i := 2) rfl) EvA.nil) CaX.len) EvA.nil) h331) trivial (fun _ _ _ => trivial) (TgW.name (by decide)) h340 fun x332 o335 p333 f334 q336 => (bindO q336 fun y337 h338 q336 => (Elt.all (EvX.fr (EvF.op (EvX.fr (EvF.slL (EvX.var (i := 2) rfl) (EvO.some (K := K) (EvX.var (i := 3) rfl)) EvO.none)) (EvX.fr (EvF.slL (EvX.var (i := 2) rfl) EvO.none (EvO.some (K := K) (EvX.var (i := 3) rfl)))) (OpF.cat h338))) q336)))) (OpF.cat h342))) (
  Go.next (Sub.keep (Sub.keep (Sub.lose (Sub.keep Sub.nil)))) (Dr.refl _)))) fun s343 h344 =>
  Go.ret (EvX.fr (EvF.ca (EvA.cons (EvX.var (i := 1) rfl) EvA.nil) CaF.sortR)) rfl (Dr.refl _))
def m_l_rests (_law_some : (List Int)) : Res (List Int) :=
  Res.req (some (_law_some.sum, [])) fun y345 =>
  Res.req (irng (0 : Int) (_law_some.length : Int)) fun y347 =>
  Res.bind (Res.fold (fun (s349 : (List Int)) (x350 : Int) =>
  Res.req (irng (1 : Int) ((_law_some.length : Int) + (1 : Int))) fun y351 =>
  Res.req (mapO (fun (x353 : Int) => (Option.bind (Res.val (m_l_sum _law_some x350 x353)) fun y358 => (Option.bind (imod y358 y345.1) fun y360 => (some (some y360))))) y351) fun y362 =>
  Res.req (cat s349 y362) fun y364 =>
  .ok y364) y347 y345.2) fun (s366 : (List Int)) =>
  .ok s366
def sp_l_rests (K : Frag) : Sp := fun vs H Q E => ∃ (_law_some : (List Int)) (ω : List Ent) (G : Hp), PArgs G vs [is K _law_some] ∧ At G (ω) H ∧ Says K G (ω) (m_l_rests _law_some) (fun (r : (List Int)) => RS.val (is K r) (ω)) Q E
theorem use_l_rests {E : XK} {ω : List Ent} {_law_some : (List Int)} : SpR K (sp_l_rests K) E [is K _law_some] ω ω (m_l_rests _law_some) (fun (r : (List Int)) => RS.val (is K r) (ω)) := fun G H vs Q pa w s => ⟨_law_some, ω, G, pa, w, s⟩
theorem ok_l_rests (T : Txt K mg) : FnOk PR w K mg base (L2.CX PR w) 2 (He.fAd K ("_law_rests", none)) T.fd_l_rests ["_law_some"] (sp_l_rests K) := by
  refine T.F_l_rests.ok sc_l_rests (fun vs H Q E h => ?_) (fun cdv A outer s H vs Q E hr h => ⟨_, PSs.nox ((pss_cons (ps_asg (pe_tup (pa_cons (pe_callB (cr_sum rfl) rfl T.fr_sum (by decide +kernel) (pa_cons (pv 0) pa_nil)) (pa_cons (pe_lst pa_nil) pa_nil))) (pg_tup rfl (pgs_cons (pg_name (i := 1) sc_l_rests.nd rfl (by first | exact .inl rfl | exact .inr rfl)) (pgs_cons (pg_name (i := 2) sc_l_rests.nd rfl (by first | exact .inl rfl | exact .inr rfl)) pgs_nil))))
      (pss_cons (ps_for PassesOwn.never rfl (pi_range1 rfl T.fr_range (pa_cons (pe_callB RC.call_lenS rfl T.fr_len (by decide +kernel) (pa_cons (pv 0) pa_nil)) pa_nil)) (pg_name (i := 3) sc_l_rests.nd rfl (by first | exact .inl rfl | exact .inr rfl))
      (pss_one (ps_set (i := 2) sc_l_rests.nd rfl (by first | exact .inl rfl | exact .inr rfl) (pe_op op_cat (pv 2) (pe_lc (own := [("_law_length", 4)]) rfl sc_l_rests.nd (pi_range2 rfl T.fr_range (pa_cons pe_int (pa_cons (pe_op op_add (pe_callB RC.call_lenS rfl T.fr_len (by decide +kernel) (pa_cons (pv 0) pa_nil)) pe_int) pa_nil))) (blkOk_by (N := N_l_rests) (sc := defScope s_l_rests) (by decide +kernel)) (fun _ _ _ _ _ => (pg_name (i := 4) sc_l_rests.nd rfl (by first | exact .inl rfl | exact .inr rfl))) (fun _ _ _ _ _ => pts_nil) (fun _ _ _ _ _ => (pe_op op_mod (pe_call (ok_l_sum T) (hr.mono (by decide)) rfl T.g_l_sum T.F_l_sum.kp (b_l_sum T) .nil passF (pa_cons (pv 0) (pa_cons (pv 3) (pa_cons (pv 4) pa_nil)))) (pv 1))))))))
      (pss_one (ps_ret (pv 2)))))), ?_⟩)
  · obtain ⟨_, _, _, pa, _, _⟩ := h
    exact pa.len
  · obtain ⟨_law_some, ω, G, pa, wA, sy⟩ := h
    try dsimp only [L2.cxOf, L2.Cx.nox, L2.Cx.wish]
    refine Go.fin (Γ := [some (is K _law_some), none, none, none, none]) (fo := (fun (r : (List Int)) => RS.val (is K r) (ω))) (ω := ω) (ωe := ω) (?_) pa rfl wA sy
    unfold m_l_rests
    exact Go.req fun y345 h346 =>
  Go.asgT (EvX.eq (EvX.pair (EvA.cons (EvX.ca (EvA.cons (EvX.var (i := 0) rfl) EvA.nil) CaX.sum) (EvA.cons (EvX.fr (EvF.lst EvA.nil rfl (by show 0 ≤ sizeLine; decide))) EvA.nil))) (Option.some.inj h346)) (TgX.pair TgX.name fun _ => TgX.name) (
  Go.req fun y347 h348 =>
  Go.seqN (fn := (fun (s349 : (List Int)) => ([some (is K (_law_some : (List Int))), some (is K (y345.1 : Int)), some (is K (s349 : (List Int))), none, none], (ω)))) (Go.forN (IterX.rng1 (EvA.cons (EvX.ca (EvA.cons (EvX.var (i := 0) rfl) EvA.nil) CaX.len) EvA.nil) h348) (Sub.keep (Sub.keep (Sub.keep (Sub.keep (Sub.keep Sub.nil))))) (Dr.refl _) (fun _ => trivial) (fun s349 => TgX.name) fun s349 x350 =>
  Go.req fun y351 h352 =>
  Go.req fun y362 h363 =>
  Go.req fun y364 h365 =>
  Go.last (Go.asg (i := 2) (EvX.fr (EvF.op (EvX.var (i := 2) rfl) (EvX.fr (EvF.lc (IterX.rng2 (EvA.cons EvX.int (EvA.cons (EvX.op (EvX.ca (EvA.cons (EvX.var (i := 0) rfl) EvA.nil) CaX.len) EvX.int OpX.add) EvA.nil)) h352) trivial (fun _ _ _ => trivial) (TgW.name (by decide)) h363 fun x353 o356 p354 f355 q357 => (bindO q357 fun y358 h359 q357 => (bindO q357 fun y360 h361 q357 => (Elt.all (EvX.op (EvX.call (EvA.cons (EvX.var (i := 0) rfl) (EvA.cons (EvX.var (i := 3) rfl) (EvA.cons (EvX.var (i := 4) rfl) EvA.nil))) (use_l_sum) (val_ok h359) rfl) (EvX.var (i := 1) rfl) (OpX.mod h361)) q357))))) (OpF.cat h365))) (
  Go.next (Sub.keep (Sub.keep (Sub.keep (Sub.lose (Sub.keep Sub.nil))))) (Dr.refl _)))) fun s366 h367 =>
  Go.ret (EvX.var (i := 2) rfl) rfl (Dr.refl _))
def m_l_rows (_law_many : Int) (_law_lap : Int) : Res (List (List Int)) :=
  Res.req (irng (0 : Int) (_law_many - (1 : Int))) fun y368 =>
  Res.bind (Res.fold (fun (s370 : (List (List Int))) (x371 : Int) =>
  Res.bind (Res.fold (fun (s372 : (List (List Int))) (x373 : (List Int)) =>
  Res.req (irng (1 : Int) (_law_lap - x373.sum)) fun y374 =>
  Res.req (mapO (fun (x376 : Int) => (Option.bind (cat x373 [x376]) fun y381 => (some (some y381)))) y374) fun y383 =>
  Res.req (cat s372 y383) fun y385 =>
  .ok y385) s370 []) fun (s387 : (List (List Int))) =>
  .ok s387) y368 [[]]) fun (s389 : (List (List Int))) =>
  Res.req (mapO (fun (x391 : (List Int)) => (Option.bind (cat x391 [(_law_lap - x391.sum)]) fun y396 => (some (some y396)))) s389) fun y398 =>
  Res.req (mapO (fun (x400 : (List Int)) => (Option.bind (atI x400 (-(1 : Int))) fun y405 => (if (decide ((0 : Int) < y405)) then (some (some x400)) else some none))) y398) fun y407 =>
  .ok (sortR y407)
def sp_l_rows (K : Frag) : Sp := fun vs H Q E => ∃ (_law_many : Int) (_law_lap : Int) (ω : List Ent) (G : Hp), PArgs G vs [is K _law_many, is K _law_lap] ∧ At G (ω) H ∧ Says K G (ω) (m_l_rows _law_many _law_lap) (fun (r : (List (List Int))) => RS.val (is K r) (ω)) Q E
theorem use_l_rows {E : XK} {ω : List Ent} {_law_many : Int} {_law_lap : Int} : SpR K (sp_l_rows K) E [is K _law_many, is K _law_lap] ω ω (m_l_rows _law_many _law_lap) (fun (r : (List (List Int))) => RS.val (is K r) (ω)) := fun G H vs Q pa w s => ⟨_law_many, _law_lap, ω, G, pa, w, s⟩
theorem ok_l_rows (T : Txt K mg) : FnOk PR w K mg base (L2.CX PR w) 2 (He.fAd K ("_law_rows", none)) T.fd_l_rows ["_law_many", "_law_lap"] (sp_l_rows K) := by
  refine T.F_l_rows.ok sc_l_rows (fun vs H Q E h => ?_) (fun cdv A outer s H vs Q E hr h => ⟨_, PSs.nox ((pss_cons (ps_set (i := 2) sc_l_rows.nd rfl (by first | exact .inl rfl | exact .inr rfl) (pe_lst (pa_cons (pe_lst pa_nil) pa_nil)))
      (pss_cons (ps_for PassesOwn.never rfl (pi_range1 rfl T.fr_range (pa_cons (pe_op op_sub (pv 0) pe_int) pa_nil)) (pg_name (i := 3) sc_l_rows.nd rfl (by first | exact .inl rfl | exact .inr rfl))
      (pss_cons (ps_set (i := 4) sc_l_rows.nd rfl (by first | exact .inl rfl | exact .inr rfl) (pe_lst pa_nil))
      (pss_cons (ps_for PassesOwn.never rfl (pi_list (pv 2)) (pg_name (i := 5) sc_l_rows.nd rfl (by first | exact .inl rfl | exact .inr rfl))
      (pss_one (ps_set (i := 4) sc_l_rows.nd rfl (by first | exact .inl rfl | exact .inr rfl) (pe_op op_cat (pv 4) (pe_lc (own := [("_law_worth", 7)]) rfl sc_l_rows.nd (pi_range2 rfl T.fr_range (pa_cons pe_int (pa_cons (pe_op op_sub (pv 1) (pe_callB (cr_sum rfl) rfl T.fr_sum (by decide +kernel) (pa_cons (pv 5) pa_nil))) pa_nil))) (blkOk_by (N := N_l_rows) (sc := defScope s_l_rows) (by decide +kernel)) (fun _ _ _ _ _ => (pg_name (i := 7) sc_l_rows.nd rfl (by first | exact .inl rfl | exact .inr rfl))) (fun _ _ _ _ _ => pts_nil) (fun _ _ _ _ _ => (pe_op op_cat (pv 5) (pe_lst (pa_cons (pv 7) pa_nil)))))))))
      (pss_one (ps_set (i := 2) sc_l_rows.nd rfl (by first | exact .inl rfl | exact .inr rfl) (pv 4))))))
      (pss_cons (ps_setLc (i := 6) (own := [("_law_row", 5)]) rfl sc_l_rows.nd rfl rfl (sw_true rfl rfl rfl (by decide +kernel)) (pi_list (pv 2)) (blkOk_by (N := N_l_rows) (sc := defScope s_l_rows) (by decide +kernel)) (fun _ _ _ _ _ => (pg_name (i := 5) sc_l_rows.nd rfl (by first | exact .inl rfl | exact .inr rfl))) (fun _ _ _ _ _ => pts_nil) (fun _ _ _ _ _ => (pe_op op_cat (pv 5) (pe_lst (pa_cons (pe_op op_sub (pv 1) (pe_callB (RC.kOf rSum (K := K) (cr_sum rfl) rfl) rfl T.fr_sum (by decide +kernel) (pa_cons (pv 5) pa_nil))) pa_nil)))))
      (pss_one (ps_ret (pe_callB (cr_sortedL (hr.mono (by decide))) rfl T.fr_sorted (by decide +kernel) (pa_cons (pe_lc (own := [("_law_row", 5)]) rfl sc_l_rows.nd (pi_list (pv 6)) (blkOk_by (N := N_l_rows) (sc := defScope s_l_rows) (by decide +kernel)) (fun _ _ _ _ _ => (pg_name (i := 5) sc_l_rows.nd rfl (by first | exact .inl rfl | exact .inr rfl))) (fun _ _ _ _ _ => (pts_one (pt_cmpR op_gt (pe_ix (RC.kOf rIxL (K := K) ix_list rfl) (pv 5) (pe_un un_neg pe_int) (fun _ _ => rfl)) pe_int (nomark _)))) (fun _ _ _ _ _ => (pv 5))) pa_nil)))))))), ?_⟩)
  · obtain ⟨_, _, _, _, pa, _, _⟩ := h
    exact pa.len
  · obtain ⟨_law_many, _law_lap, ω, G, pa, wA, sy⟩ := h
    try dsimp only [L2.cxOf, L2.Cx.nox, L2.Cx.wish]
    refine Go.fin (Γ := [some (is K _law_many), some (is K _law_lap), none, none, none, none, none, none]) (fo := (fun (r : (List (List Int))) => RS.val (is K r) (ω))) (ω := ω) (ωe := ω) (?_) pa rfl wA sy
    unfold m_l_rows
    exact Go.asg (i := 2) (EvX.fr (EvF.lst (EvA.cons (EvX.fr (EvF.lst EvA.nil rfl (by show 0 ≤ sizeLine; decide))) EvA.nil) rfl (by show 1 ≤ sizeLine; decide))) (
  Go.req fun y368 h369 =>
  Go.seqN (fn := (fun (s370 : (List (List Int))) => ([some (is K (_law_many : Int)), some (is K (_law_lap : Int)), some (is K (s370 : (List (List Int)))), none, none, none, none, none], (ω)))) (Go.forN (IterX.rng1 (EvA.cons (EvX.op (EvX.var (i := 0) rfl) EvX.int OpX.sub) EvA.nil) h369) (Sub.keep (Sub.keep (Sub.keep (Sub.keep (Sub.keep (Sub.keep (Sub.keep (Sub.keep Sub.nil)))))))) (Dr.refl _) (fun _ => trivial) (fun s370 => TgX.name) fun s370 x371 =>
  Go.asg (i := 4) (EvX.fr (EvF.lst EvA.nil rfl (by show 0 ≤ sizeLine; decide))) (
  Go.seqN (fn := (fun (s372 : (List (List Int))) => ([some (is K (_law_many : Int)), some (is K (_law_lap : Int)), some (is K (s370 : (List (List Int)))), some (is K (x371 : Int)), some (is K (s372 : (List (List Int)))), none, none, none], (ω)))) (Go.forN (IterX.list (EvX.var (i := 2) rfl)) (Sub.keep (Sub.keep (Sub.keep (Sub.keep (Sub.keep (Sub.keep (Sub.keep (Sub.keep Sub.nil)))))))) (Dr.refl _) (fun _ => trivial) (fun s372 => TgX.name) fun s372 x373 =>
  Go.req fun y374 h375 =>
  Go.req fun y383 h384 =>
  Go.req fun y385 h386 =>
  Go.last (Go.asg (i := 4) (EvX.fr (EvF.op (EvX.var (i := 4) rfl) (EvX.fr (EvF.lc (IterX.rng2 (EvA.cons EvX.int (EvA.cons (EvX.op (EvX.var (i := 1) rfl) (EvX.ca (EvA.cons (EvX.var (i := 5) rfl) EvA.nil) CaX.sum) OpX.sub) EvA.nil)) h375) trivial (fun _ _ _ => trivial) (TgW.name (by decide)) h384 fun x376 o379 p377 f378 q380 => (bindO q380 fun y381 h382 q380 => (Elt.all (EvX.fr (EvF.op (EvX.var (i := 5) rfl) (EvX.fr (EvF.lst (EvA.cons (EvX.var (i := 7) rfl) EvA.nil) rfl (by show 1 ≤ sizeLine; decide))) (OpF.cat h382))) q380)))) (OpF.cat h386))) (
  Go.next (Sub.keep (Sub.keep (Sub.keep (Sub.keep (Sub.keep (Sub.lose (Sub.keep (Sub.keep Sub.nil)))))))) (Dr.refl _)))) fun s387 h388 =>
  Go.last (Go.asg (i := 2) (EvX.var (i := 4) rfl) (
  Go.next (Sub.keep (Sub.keep (Sub.keep (Sub.lose (Sub.lose (Sub.keep (Sub.keep (Sub.keep Sub.nil)))))))) (Dr.refl _))))) fun s389 h390 =>
  Go.req fun y398 h399 =>
  Go.asg (i := 6) (EvX.fr (EvF.lc (IterX.list (EvX.var (i := 2) rfl)) trivial (fun _ _ _ => trivial) (TgW.name (by decide)) h399 fun x391 o394 p392 f393 q395 => (bindO q395 fun y396 h397 q395 => (Elt.all (EvX.fr (EvF.op (EvX.var (i := 5) rfl) (EvX.fr (EvF.lst (EvA.cons (EvX.op (EvX.var (i := 1) rfl) (EvX.ca (EvA.cons (EvX.var (i := 5) rfl) EvA.nil) CaX.sum) OpX.sub) EvA.nil) rfl (by show 1 ≤ sizeLine; decide))) (OpF.cat h397))) q395)))) (
  Go.req fun y407 h408 =>
  Go.ret (EvX.fr (EvF.ca (EvA.cons (EvX.fr (EvF.lc (IterX.list (EvX.var (i := 6) rfl)) trivial (fun _ _ _ => trivial) (TgW.name (by decide)) h408 fun x400 o403 p401 f402 q404 => (bindO q404 fun y405 h406 q404 => (Elt.iteO (EvT.test (EvX.op (EvX.op (EvX.var (i := 5) rfl) (EvX.neg EvX.int) (OpX.ixL h406)) EvX.int OpX.gt)) (fun _ q409 => ⟨_, (Option.some.inj q409).symm, (EvX.var (i := 5) rfl)⟩) q404)))) EvA.nil) CaF.sortR)) rfl (Dr.refl _)))
def m_l_due (_law_many : Int) (_law_lap : Int) (_law_there : (List Int)) (_law_lacks : (List Int)) : Res (List (List Int)) :=
  Res.req (Res.val (m_l_rows _law_many _law_lap)) fun y411 =>
  Res.bind (Res.fold (fun (s413 : (List (List Int))) (x414 : (List Int)) =>
  Res.req (Res.val (m_l_forms x414)) fun y415 =>
  Res.req (atI y415 (0 : Int)) fun y417 =>
  (if (decide (x414 = y417)) then Res.req (Res.val (m_l_rests x414)) fun y421 =>
  Res.req (mapO (fun (x423 : Int) => (Option.bind (imod x423 _law_lap) fun y428 => (if (!decide (y428 ∈ y421)) then (some (some x423)) else some none))) _law_there) fun y430 =>
  Res.req (mapO (fun (x433 : Int) => (Option.bind (imod x433 _law_lap) fun y438 => (if (decide (y438 ∈ y421)) then (some (some x433)) else some none))) _law_lacks) fun y440 =>
  Res.req (cat y430 y440) fun y443 =>
  (if (decide (y443 = [])) then Res.req (app s413 x414) fun y447 =>
  .ok y447 else .ok s413) else .ok s413)) y411 []) fun (s449 : (List (List Int))) =>
  .ok s449
def sp_l_due (K : Frag) : Sp := fun vs H Q E => ∃ (_law_many : Int) (_law_lap : Int) (_law_there : (List Int)) (_law_lacks : (List Int)) (ω : List Ent) (G : Hp), PArgs G vs [is K _law_many, is K _law_lap, is K _law_there, is K _law_lacks] ∧ At G (ω) H ∧ Says K G (ω) (m_l_due _law_many _law_lap _law_there _law_lacks) (fun (r : (List (List Int))) => RS.val (is K r) (ω)) Q E
theorem use_l_due {E : XK} {ω : List Ent} {_law_many : Int} {_law_lap : Int} {_law_there : (List Int)} {_law_lacks : (List Int)} : SpR K (sp_l_due K) E [is K _law_many, is K _law_lap, is K _law_there, is K _law_lacks] ω ω (m_l_due _law_many _law_lap _law_there _law_lacks) (fun (r : (List (List Int))) => RS.val (is K r) (ω)) := fun G H vs Q pa w s => ⟨_law_many, _law_lap, _law_there, _law_lacks, ω, G, pa, w, s⟩
theorem ok_l_due (T : Txt K mg) : FnOk PR w K mg base (L2.CX PR w) 3 (He.fAd K ("_law_due", none)) T.fd_l_due ["_law_many", "_law_lap", "_law_there", "_law_lacks"] (sp_l_due K) := by
  refine T.F_l_due.ok sc_l_due (fun vs H Q E h => ?_) (fun cdv A outer s H vs Q E hr h => ⟨_, PSs.nox ((pss_cons (ps_set (i := 4) sc_l_due.nd rfl (by first | exact .inl rfl | exact .inr rfl) (pe_lst pa_nil))
      (pss_cons (ps_for PassesOwn.never rfl (pi_list (pe_call (ok_l_rows T) (hr.mono (by decide)) rfl T.g_l_rows T.F_l_rows.kp (b_l_rows T) .nil passF (pa_cons (pv 0) (pa_cons (pv 1) pa_nil)))) (pg_name (i := 5) sc_l_due.nd rfl (by first | exact .inl rfl | exact .inr rfl))
      (pss_one (ps_if (pt_cmpR (op_eqD hr.units) (pv 5) (pe_ix ix_list (pe_call (ok_l_forms T) (hr.mono (by decide)) rfl T.g_l_forms T.F_l_forms.kp (b_l_forms T) .nil passF (pa_cons (pv 5) pa_nil)) pe_int (fun _ _ => rfl)) (nomark _)) (pss_cons (ps_set (i := 6) sc_l_due.nd rfl (by first | exact .inl rfl | exact .inr rfl) (pe_call (ok_l_rests T) (hr.mono (by decide)) rfl T.g_l_rests T.F_l_rests.kp (b_l_rests T) .nil passF (pa_cons (pv 5) pa_nil)))
      (pss_cons (ps_setLc (i := 7) (own := [("_law_amount", 8)]) rfl sc_l_due.nd rfl rfl (sw_true rfl rfl rfl (by decide +kernel)) (pi_list (pv 2)) (blkOk_by (N := N_l_due) (sc := defScope s_l_due) (by decide +kernel)) (fun _ _ _ _ _ => (pg_name (i := 8) sc_l_due.nd rfl (by first | exact .inl rfl | exact .inr rfl))) (fun _ _ _ _ _ => (pts_one (pt_cmpR (RC.kOf (fun K => rIn K true) (K := K) op_notIn_seq rfl) (pe_op op_mod (pe_callTy RC.call_intS rfl T.fr_int (by decide +kernel) (pa_cons (pv 8) pa_nil)) (pv 1)) (pv 6) rfl))) (fun _ _ _ _ _ => (pv 8)))
      (pss_cons (ps_set (i := 7) sc_l_due.nd rfl (by first | exact .inl rfl | exact .inr rfl) (pe_op op_cat (pv 7) (pe_lc (own := [("_law_amount", 8)]) rfl sc_l_due.nd (pi_list (pv 3)) (blkOk_by (N := N_l_due) (sc := defScope s_l_due) (by decide +kernel)) (fun _ _ _ _ _ => (pg_name (i := 8) sc_l_due.nd rfl (by first | exact .inl rfl | exact .inr rfl))) (fun _ _ _ _ _ => (pts_one (pt_cmpR (RC.kOf (fun K => rIn K false) (K := K) op_in_seq rfl) (pe_op op_mod (pe_callTy RC.call_intS rfl T.fr_int (by decide +kernel) (pa_cons (pv 8) pa_nil)) (pv 1)) (pv 6) rfl))) (fun _ _ _ _ _ => (pv 8)))))
      (pss_one (ps_if (pt_cmpR (op_eqD hr.units) (pv 7) (pe_lst pa_nil) (nomark _)) (pss_one (ps_expr (pe_bm PySem.F.plainAttrs_list PySem.F.slot_list_append PySem.F.type_list_append mt_append (pv 4) (pa_cons (pv 5) pa_nil)))) pss_nil))))) pss_nil)))
      (pss_one (ps_ret (pv 4)))))), ?_⟩)
  · obtain ⟨_, _, _, _, _, _, pa, _, _⟩ := h
    exact pa.len
  · obtain ⟨_law_many, _law_lap, _law_there, _law_lacks, ω, G, pa, wA, sy⟩ := h
    try dsimp only [L2.cxOf, L2.Cx.nox, L2.Cx.wish]
    refine Go.fin (Γ := [some (is K _law_many), some (is K _law_lap), some (is K _law_there), some (is K _law_lacks), none, none, none, none, none]) (fo := (fun (r : (List (List Int))) => RS.val (is K r) (ω))) (ω := ω) (ωe := ω) (?_) pa rfl wA sy
    unfold m_l_due
    exact Go.asgF (i := 4) (φ := olst K ([] : (List (List Int)))) (EvF.lst EvA.nil rfl (by show 0 ≤ sizeLine; decide)) fun p410 =>
  Go.req fun y411 h412 =>
  Go.seqN (fn := (fun (s413 : (List (List Int))) => ([some (is K (_law_many : Int)), some (is K (_law_lap : Int)), some (is K (_law_there : (List Int))), some (is K (_law_lacks : (List Int))), some (adr p410), none, none, none, none], (.own p410 (olst K (s413 : (List (List Int)))) :: ω)))) (Go.forN (IterX.list (EvX.call (EvA.cons (EvX.var (i := 0) rfl) (EvA.cons (EvX.var (i := 1) rfl) EvA.nil)) (use_l_rows) (val_ok h412) rfl)) (Sub.keep (Sub.keep (Sub.keep (Sub.keep (Sub.keep (Sub.keep (Sub.keep (Sub.keep (Sub.keep Sub.nil))))))))) (Dr.refl _) (fun _ => trivial) (fun s413 => TgX.name) fun s413 x414 =>
  Go.req fun y415 h416 =>
  Go.req fun y417 h418 =>
  Go.ifS (EvT.test (EvX.op (EvX.var (i := 5) rfl) (EvX.op (EvX.call (EvA.cons (EvX.var (i := 5) rfl) EvA.nil) (use_l_forms) (val_ok h416) rfl) EvX.int (OpX.ixL h418)) (OpX.eqA DtAt.of DtAt.of (by decide)))) (fun h419 =>
  Go.req fun y421 h422 =>
  Go.asg (i := 6) (EvX.call (EvA.cons (EvX.var (i := 5) rfl) EvA.nil) (use_l_rests) (val_ok h422) rfl) (
  Go.req fun y430 h431 =>
  Go.asg (i := 7) (EvX.fr (EvF.lc (IterX.list (EvX.var (i := 2) rfl)) trivial (fun _ _ _ => trivial) (TgW.name (by decide)) h431 fun x423 o426 p424 f425 q427 => (bindO q427 fun y428 h429 q427 => (Elt.iteO (EvT.test (EvX.op (EvX.op (EvX.ca (EvA.cons (EvX.var (i := 8) rfl) EvA.nil) CaX.int1) (EvX.var (i := 1) rfl) (OpX.mod h429)) (EvX.var (i := 6) rfl) OpX.niL)) (fun _ q432 => ⟨_, (Option.some.inj q432).symm, (EvX.var (i := 8) rfl)⟩) q427)))) (
  Go.req fun y440 h441 =>
  Go.req fun y443 h444 =>
  Go.asg (i := 7) (EvX.fr (EvF.op (EvX.var (i := 7) rfl) (EvX.fr (EvF.lc (IterX.list (EvX.var (i := 3) rfl)) trivial (fun _ _ _ => trivial) (TgW.name (by decide)) h441 fun x433 o436 p434 f435 q437 => (bindO q437 fun y438 h439 q437 => (Elt.iteO (EvT.test (EvX.op (EvX.op (EvX.ca (EvA.cons (EvX.var (i := 8) rfl) EvA.nil) CaX.int1) (EvX.var (i := 1) rfl) (OpX.mod h439)) (EvX.var (i := 6) rfl) OpX.inL)) (fun _ q442 => ⟨_, (Option.some.inj q442).symm, (EvX.var (i := 8) rfl)⟩) q437)))) (OpF.cat h444))) (
  Go.ifS (EvT.test (EvX.op (EvX.var (i := 7) rfl) (EvX.fr (EvF.lst EvA.nil rfl (by show 0 ≤ sizeLine; decide))) (OpX.eqA DtAt.of DtAt.of (by decide)))) (fun h445 =>
  Go.req fun y447 h448 =>
  Go.last (Go.app (k := 0) (EvX.var (i := 4) rfl) ⟨_, rfl⟩ (EvX.var (i := 5) rfl) rfl h448 (
  Go.next (Sub.keep (Sub.keep (Sub.keep (Sub.keep (Sub.keep (Sub.lose (Sub.lose (Sub.lose (Sub.keep Sub.nil))))))))) (Dr.refl _)))) (fun h446 =>
  Go.next (Sub.keep (Sub.keep (Sub.keep (Sub.keep (Sub.keep (Sub.lose (Sub.lose (Sub.lose (Sub.keep Sub.nil))))))))) (Dr.refl _)))))) (fun h420 =>
  Go.next (Sub.keep (Sub.keep (Sub.keep (Sub.keep (Sub.keep (Sub.lose (Sub.keep (Sub.keep (Sub.keep Sub.nil))))))))) (Dr.refl _))) fun s449 h450 =>
  Go.freeze (k := 0) (i := 4) rfl rfl (Go.ret (EvX.var (i := 4) rfl) rfl (Dr.refl _))
def m_l_caught (_law_many : PV) (_law_lap : PV) (_law_there : PV) (_law_lacks : PV) : Res (List PV) :=
  Res.bind (Res.caught ["InvalidNumber", "InvalidList", "InvalidAmount"] (m_told_back _law_many _law_lap _law_there _law_lacks)) fun y451 =>
  Res.req (isE ["InvalidNumber", "InvalidList", "InvalidAmount"] y451 "InvalidNumber") fun y453 =>
  Res.req (isE ["InvalidNumber", "InvalidList", "InvalidAmount"] y451 "InvalidList") fun y455 =>
  Res.req (isE ["InvalidNumber", "InvalidList", "InvalidAmount"] y451 "InvalidAmount") fun y457 =>
  Res.req (cat [y453, y455] [y457, true]) fun y459 =>
  Res.req (idxL y459 true) fun y461 =>
  Res.req (if y451.isNone then (some none) else (Option.bind (valE ["InvalidNumber", "InvalidList", "InvalidAmount"] y451) fun y463 => (Option.bind (toldP y463) fun y465 => (some (some y465))))) fun y467 =>
  .ok [(PV.of (y461 : Int)), (PV.of (y467 : (Option Str)))]
def sp_l_caught (K : Frag) : Sp := fun vs H Q E => ∃ (_law_many : PV) (_law_lap : PV) (_law_there : PV) (_law_lacks : PV) (ω : List Ent) (G : Hp), PArgs G vs [is K _law_many, is K _law_lap, is K _law_there, is K _law_lacks] ∧ At G (ω) H ∧ Says K G (ω) (m_l_caught _law_many _law_lap _law_there _law_lacks) (fun (r : (List PV)) => RS.val (is K r) (ω)) Q E
theorem use_l_caught {E : XK} {ω : List Ent} {_law_many : PV} {_law_lap : PV} {_law_there : PV} {_law_lacks : PV} : SpR K (sp_l_caught K) E [is K _law_many, is K _law_lap, is K _law_there, is K _law_lacks] ω ω (m_l_caught _law_many _law_lap _law_there _law_lacks) (fun (r : (List PV)) => RS.val (is K r) (ω)) := fun G H vs Q pa w s => ⟨_law_many, _law_lap, _law_there, _law_lacks, ω, G, pa, w, s⟩
theorem ok_l_caught (T : Txt K mg) : RC.FnOkG PR w K mg base (L2.CX PR w) 12 (He.fAd K ("_law_caught", none)) T.fd_l_caught ["_law_many", "_law_lap", "_law_there", "_law_lacks"] (sp_l_caught K) := by
  refine RC.okG T.F_l_caught sc_l_caught (fun vs H Q E h => ?_) (fun cdv A outer s H vs Q E hg hr h => ⟨_, PSs.nox ((pss_cons (ps_set (i := 4) sc_l_caught.nd rfl (by first | exact .inl rfl | exact .inr rfl) pe_non)
      (pss_cons (RC.ps_keep (i := 5) (j := 4) rfl rfl rfl sc_l_caught.nd rfl rfl (by decide) rfl rfl ⟨rfl, by decide, .inl T.g_ClerkError⟩ (by decide) (by decide) rfl (fun W pn xe tk _ => (pss_one (ps_expr (pe_callS (ok_told_back T) (hr.mono (by decide)) rfl T.g_told_back T.F_told_back.kp (b_told_back T) (fun σ => passAt tk σ) (pa_cons (pv 0) (pa_cons (pv 1) (pa_cons (pv 2) (pa_cons (pv 3) pa_nil)))))))))
      (pss_cons (ps_set (i := 6) sc_l_caught.nd rfl (by first | exact .inl rfl | exact .inr rfl) (pe_lst (pa_cons (pe_callB call_isE rfl T.fr_isinstance (by decide +kernel) (pa_cons (pv 4) (pa_cons (pe_glob (v := .ref (He.ga K "InvalidNumber")) rfl T.g_InvalidNumber rfl) pa_nil))) (pa_cons (pe_callB call_isE rfl T.fr_isinstance (by decide +kernel) (pa_cons (pv 4) (pa_cons (pe_glob (v := .ref (He.ga K "InvalidList")) rfl T.g_InvalidList rfl) pa_nil))) pa_nil))))
      (pss_cons (ps_set (i := 6) sc_l_caught.nd rfl (by first | exact .inl rfl | exact .inr rfl) (pe_op op_cat (pv 6) (pe_lst (pa_cons (pe_callB call_isE rfl T.fr_isinstance (by decide +kernel) (pa_cons (pv 4) (pa_cons (pe_glob (v := .ref (He.ga K "InvalidAmount")) rfl T.g_InvalidAmount rfl) pa_nil))) (pa_cons pe_bl pa_nil)))))
      (pss_one (ps_ret (pe_lst (pa_cons (pe_bm PySem.F.plainAttrs_list PySem.F.slot_list_index PySem.F.type_list_index (mt_indexD hr.units65) (pv 6) (pa_cons pe_bl pa_nil)) (pa_cons (pe_ifExp (pt_cmpR op_isN (pv 4) pe_non (nomark _)) pe_non (pe_callB (RC.call_reprX hg (hr.mono (by decide))) rfl T.fr_repr (by decide +kernel) (pa_cons (RC.pe_fldE (pv 4)) pa_nil))) pa_nil)))))))))), ?_⟩)
  · obtain ⟨_, _, _, _, _, _, pa, _, _⟩ := h
    exact pa.len
  · obtain ⟨_law_many, _law_lap, _law_there, _law_lacks, ω, G, pa, wA, sy⟩ := h
    try dsimp only [L2.cxOf, L2.Cx.nox, L2.Cx.wish]
    refine Go.fin (Γ := [some (is K _law_many), some (is K _law_lap), some (is K _law_there), some (is K _law_lacks), none, none, none]) (fo := (fun (r : (List PV)) => RS.val (is K r) (ω))) (ω := ω) (ωe := ω) (?_) pa rfl wA sy
    unfold m_l_caught
    exact Go.asg (i := 4) (EvX.non (K := K)) (
  Go.tryC (i := 5) (j := 4) (L := ["InvalidNumber", "InvalidList", "InvalidAmount"]) (EvA.cons (EvX.var (i := 0) rfl) (EvA.cons (EvX.var (i := 1) rfl) (EvA.cons (EvX.var (i := 2) rfl) (EvA.cons (EvX.var (i := 3) rfl) EvA.nil)))) (fun _ => (use_told_back)) (fun _ _ => rfl) (xms_ClerkError T) (by decide) (Sub.keep (Sub.keep (Sub.keep (Sub.keep (Sub.keep (Sub.keep (Sub.keep Sub.nil))))))) fun y451 h452 =>
  Go.req fun y453 h454 =>
  Go.req fun y455 h456 =>
  Go.asg (i := 6) (EvX.fr (EvF.lst (EvA.cons (EvX.ca (EvA.cons (EvX.var (i := 4) rfl) (EvA.cons EvX.c EvA.nil)) (CaX.isE (.own _) (errs_InvalidNumber T) h454)) (EvA.cons (EvX.ca (EvA.cons (EvX.var (i := 4) rfl) (EvA.cons EvX.c EvA.nil)) (CaX.isE (.own _) (errs_InvalidList T) h456)) EvA.nil)) rfl (by show 2 ≤ sizeLine; decide))) (
  Go.req fun y457 h458 =>
  Go.req fun y459 h460 =>
  Go.asg (i := 6) (EvX.fr (EvF.op (EvX.var (i := 6) rfl) (EvX.fr (EvF.lst (EvA.cons (EvX.ca (EvA.cons (EvX.var (i := 4) rfl) (EvA.cons EvX.c EvA.nil)) (CaX.isE (.own _) (errs_InvalidAmount T) h458)) (EvA.cons EvX.bl EvA.nil)) rfl (by show 2 ≤ sizeLine; decide))) (OpF.cat h460))) (
  Go.req fun y461 h462 =>
  Go.req fun y467 h468 =>
  Go.ret (EvX.fr (EvF.lst (EvA.cons (EvX.any (x := (y461 : Int)) (EvX.index (EvX.var (i := 6) rfl) EvX.bl h462 (by decide))) (EvA.cons (EvX.any (x := (y467 : (Option Str))) (EvX.iteO (EvT.test (EvX.op (EvX.var (i := 4) rfl) (EvX.unit (K := K)) (OpX.isN non_unit))) (fun _ q469 => (EvX.eq (EvX.non (K := K)) (Option.some.inj q469))) (fun _ q469 => (bindO q469 fun y463 h464 q469 => (bindO q469 fun y465 h466 q469 => (EvX.eq (EvX.opt (EvX.ca (EvA.cons (EvX.valE (EvX.var (i := 4) rfl) (errs_InvalidNumber T) h464) EvA.nil) (CaX.toldP h466))) (Option.some.inj q469))))) h468)) EvA.nil)) rfl (by show 2 ≤ sizeLine; decide))) rfl (Dr.refl _))))
def m_l_refused  : Res Bool :=
  Res.after (Res.loop (fun (s470 : Unit) (x471 : PV) =>
  Res.req (Res.val (m_l_caught x471 (PV.of (() : Unit)) (PV.of (() : Unit)) (PV.of (() : Unit)))) fun y472 =>
  Res.req (toldP x471) fun y474 =>
  Res.req (eqV (PV.of (y472 : List PV)) (PV.of ([(PV.of ((0 : Int) : Int)), (PV.of (y474 : Str))] : List PV))) fun y476 =>
  Res.req (if (!y476) then some true else (Option.bind (Res.val (m_l_caught (PV.of ((3 : Int) : Int)) x471 (PV.of (() : Unit)) (PV.of (() : Unit)))) fun y478 => (Option.bind (toldP x471) fun y480 => (Option.bind (eqV (PV.of (y478 : List PV)) (PV.of ([(PV.of ((0 : Int) : Int)), (PV.of (y480 : Str))] : List PV))) fun y482 => (some (!y482)))))) fun y484 =>
  (if y484 then Res.esc (.ok false) else
  .ok (.nx ()))) [(PV.of (() : Unit)), (PV.of ((0 : Int) : Int)), (PV.of ((-(1 : Int)) : Int)), (PV.of (true : Bool)), (PV.of ("1" : Str)), (PV.of ([(1 : Int)] : (List Int))), PV.edict] ()) (fun (s489 : Unit) =>
  Res.after (Res.loop (fun (s491 : Unit) (x492 : PV) =>
  Res.req (Res.val (m_l_caught (PV.of ((3 : Int) : Int)) x492 (PV.of (() : Unit)) (PV.of (() : Unit)))) fun y493 =>
  Res.req (toldP x492) fun y495 =>
  Res.req (eqV (PV.of (y493 : List PV)) (PV.of ([(PV.of ((0 : Int) : Int)), (PV.of (y495 : Str))] : List PV))) fun y497 =>
  (if (!y497) then Res.esc (.ok false) else
  .ok (.nx ()))) [(PV.of ((2 : Int) : Int)), (PV.of ((1 : Int) : Int)), (PV.of (() : Unit))] ()) (fun (s501 : Unit) =>
  Res.after (Res.loop (fun (s503 : Unit) (x504 : PV) =>
  Res.req (Res.val (m_l_caught (PV.of ((2 : Int) : Int)) (PV.of ((5 : Int) : Int)) x504 (PV.of (() : Unit)))) fun y505 =>
  Res.req (toldP x504) fun y507 =>
  Res.req (eqV (PV.of (y505 : List PV)) (PV.of ([(PV.of ((1 : Int) : Int)), (PV.of (y507 : Str))] : List PV))) fun y509 =>
  Res.req (if (!y509) then some true else (Option.bind (Res.val (m_l_caught (PV.of ((2 : Int) : Int)) (PV.of ((5 : Int) : Int)) (PV.of ([(1 : Int)] : (List Int))) x504)) fun y511 => (Option.bind (toldP x504) fun y513 => (Option.bind (eqV (PV.of (y511 : List PV)) (PV.of ([(PV.of ((1 : Int) : Int)), (PV.of (y513 : Str))] : List PV))) fun y515 => (some (!y515)))))) fun y517 =>
  (if y517 then Res.esc (.ok false) else
  .ok (.nx ()))) [(PV.of (() : Unit)), (PV.of ((3 : Int) : Int)), (PV.of ((Tu.mk [(1 : Int)]) : (Tu Int))), (PV.of ("1" : Str)), PV.edict, (PV.of (true : Bool))] ()) (fun (s522 : Unit) =>
  Res.after (Res.loop (fun (s524 : Unit) (x525 : PV) =>
  Res.req (Res.val (m_l_caught (PV.of ((2 : Int) : Int)) (PV.of ((5 : Int) : Int)) (PV.of ([(PV.of ((1 : Int) : Int)), x525, (PV.of (() : Unit))] : (List PV))) (PV.of (() : Unit)))) fun y526 =>
  Res.req (toldP x525) fun y528 =>
  Res.req (eqV (PV.of (y526 : List PV)) (PV.of ([(PV.of ((2 : Int) : Int)), (PV.of (y528 : Str))] : List PV))) fun y530 =>
  (if (!y530) then Res.esc (.ok false) else
  Res.req (Res.val (m_l_caught (PV.of ((2 : Int) : Int)) (PV.of ((5 : Int) : Int)) (PV.of ([(1 : Int)] : (List Int))) (PV.of ([x525, (PV.of ((0 : Int) : Int))] : (List PV))))) fun y534 =>
  Res.req (toldP x525) fun y536 =>
  Res.req (eqV (PV.of (y534 : List PV)) (PV.of ([(PV.of ((2 : Int) : Int)), (PV.of (y536 : Str))] : List PV))) fun y538 =>
  (if (!y538) then Res.esc (.ok false) else
  .ok (.nx ())))) [(PV.of (() : Unit)), (PV.of ((0 : Int) : Int)), (PV.of ((-(1 : Int)) : Int)), (PV.of (true : Bool)), (PV.of ("1" : Str)), (PV.of ([(1 : Int)] : (List Int))), PV.edict] ()) (fun (s542 : Unit) =>
  .ok true) .ok) .ok) .ok) .ok
def sp_l_refused (K : Frag) : Sp := fun vs H Q E => ∃  (ω : List Ent) (G : Hp), PArgs G vs [] ∧ At G (ω) H ∧ Says K G (ω) (m_l_refused ) (fun (r : Bool) => RS.val (is K r) (ω)) Q E
theorem use_l_refused {E : XK} {ω : List Ent}  : SpR K (sp_l_refused K) E [] ω ω (m_l_refused ) (fun (r : Bool) => RS.val (is K r) (ω)) := fun G H vs Q pa w s => ⟨ω, G, pa, w, s⟩
theorem ok_l_refused (T : Txt K mg) : RC.FnOkG PR w K mg base (L2.CX PR w) 13 (He.fAd K ("_law_refused", none)) T.fd_l_refused [] (sp_l_refused K) := by
  refine RC.okG T.F_l_refused sc_l_refused (fun vs H Q E h => ?_) (fun cdv A outer s H vs Q E hg hr h => ⟨_, PSs.nox ((pss_cons (ps_for PassesOwn.never rfl (pi_list (pe_lst (pa_cons pe_non (pa_cons pe_int (pa_cons (pe_un un_neg pe_int) (pa_cons pe_bl (pa_cons pe_str (pa_cons (pe_lst (pa_cons pe_int pa_nil)) (pa_cons pe_dnewK pa_nil))))))))) (pg_name (i := 0) sc_l_refused.nd rfl (by first | exact .inl rfl | exact .inr rfl))
      (pss_one (ps_if (PW.pt (pw_or (pt_cmpR (op_neD hr.units) (RC.pe_callG (ok_l_caught T) hg (hr.mono (by decide)) rfl T.g_l_caught T.F_l_caught.kp (b_l_caught T) .nil passF (pa_cons (pv 0) (pa_cons pe_non (pa_cons pe_non (pa_cons pe_non pa_nil))))) (pe_lst (pa_cons pe_int (pa_cons (pe_callB (RC.call_reprX hg (hr.mono (by decide))) rfl T.fr_repr (by decide +kernel) (pa_cons (pv 0) pa_nil)) pa_nil))) (nomark _)) (pw_or1 (pt_cmpR (op_neD hr.units) (RC.pe_callG (ok_l_caught T) hg (hr.mono (by decide)) rfl T.g_l_caught T.F_l_caught.kp (b_l_caught T) .nil passF (pa_cons pe_int (pa_cons (pv 0) (pa_cons pe_non (pa_cons pe_non pa_nil))))) (pe_lst (pa_cons pe_int (pa_cons (pe_callB (RC.call_reprX hg (hr.mono (by decide))) rfl T.fr_repr (by decide +kernel) (pa_cons (pv 0) pa_nil)) pa_nil))) (nomark _))))) (pss_one (ps_ret pe_bl)) pss_nil)))
      (pss_cons (ps_for PassesOwn.never rfl (pi_list (pe_lst (pa_cons pe_int (pa_cons pe_int (pa_cons pe_non pa_nil))))) (pg_name (i := 0) sc_l_refused.nd rfl (by first | exact .inl rfl | exact .inr rfl))
      (pss_one (ps_if (pt_cmpR (op_neD hr.units) (RC.pe_callG (ok_l_caught T) hg (hr.mono (by decide)) rfl T.g_l_caught T.F_l_caught.kp (b_l_caught T) .nil passF (pa_cons pe_int (pa_cons (pv 0) (pa_cons pe_non (pa_cons pe_non pa_nil))))) (pe_lst (pa_cons pe_int (pa_cons (pe_callB (RC.call_reprX hg (hr.mono (by decide))) rfl T.fr_repr (by decide +kernel) (pa_cons (pv 0) pa_nil)) pa_nil))) (nomark _)) (pss_one (ps_ret pe_bl)) pss_nil)))
      (pss_cons (ps_for PassesOwn.never rfl (pi_list (pe_lst (pa_cons pe_non (pa_cons pe_int (pa_cons (pe_tup (pa_cons pe_int pa_nil)) (pa_cons pe_str (pa_cons pe_dnewK (pa_cons pe_bl pa_nil)))))))) (pg_name (i := 0) sc_l_refused.nd rfl (by first | exact .inl rfl | exact .inr rfl))
      (pss_one (ps_if (PW.pt (pw_or (pt_cmpR (op_neD hr.units) (RC.pe_callG (ok_l_caught T) hg (hr.mono (by decide)) rfl T.g_l_caught T.F_l_caught.kp (b_l_caught T) .nil passF (pa_cons pe_int (pa_cons pe_int (pa_cons (pv 0) (pa_cons pe_non pa_nil))))) (pe_lst (pa_cons pe_int (pa_cons (pe_callB (RC.call_reprX hg (hr.mono (by decide))) rfl T.fr_repr (by decide +kernel) (pa_cons (pv 0) pa_nil)) pa_nil))) (nomark _)) (pw_or1 (pt_cmpR (op_neD hr.units) (RC.pe_callG (ok_l_caught T) hg (hr.mono (by decide)) rfl T.g_l_caught T.F_l_caught.kp (b_l_caught T) .nil passF (pa_cons pe_int (pa_cons pe_int (pa_cons (pe_lst (pa_cons pe_int pa_nil)) (pa_cons (pv 0) pa_nil))))) (pe_lst (pa_cons pe_int (pa_cons (pe_callB (RC.call_reprX hg (hr.mono (by decide))) rfl T.fr_repr (by decide +kernel) (pa_cons (pv 0) pa_nil)) pa_nil))) (nomark _))))) (pss_one (ps_ret pe_bl)) pss_nil)))
      (pss_cons (ps_for PassesOwn.never rfl (pi_list (pe_lst (pa_cons pe_non (pa_cons pe_int (pa_cons (pe_un un_neg pe_int) (pa_cons pe_bl (pa_cons pe_str (pa_cons (pe_lst (pa_cons pe_int pa_nil)) (pa_cons pe_dnewK pa_nil))))))))) (pg_name (i := 0) sc_l_refused.nd rfl (by first | exact .inl rfl | exact .inr rfl))
      (pss_cons (ps_if (pt_cmpR (op_neD hr.units) (RC.pe_callG (ok_l_caught T) hg (hr.mono (by decide)) rfl T.g_l_caught T.F_l_caught.kp (b_l_caught T) .nil passF (pa_cons pe_int (pa_cons pe_int (pa_cons (pe_lst (pa_cons pe_int (pa_cons (pv 0) (pa_cons pe_non pa_nil)))) (pa_cons pe_non pa_nil))))) (pe_lst (pa_cons pe_int (pa_cons (pe_callB (RC.call_reprX hg (hr.mono (by decide))) rfl T.fr_repr (by decide +kernel) (pa_cons (pv 0) pa_nil)) pa_nil))) (nomark _)) (pss_one (ps_ret pe_bl)) pss_nil)
      (pss_one (ps_if (pt_cmpR (op_neD hr.units) (RC.pe_callG (ok_l_caught T) hg (hr.mono (by decide)) rfl T.g_l_caught T.F_l_caught.kp (b_l_caught T) .nil passF (pa_cons pe_int (pa_cons pe_int (pa_cons (pe_lst (pa_cons pe_int pa_nil)) (pa_cons (pe_lst (pa_cons (pv 0) (pa_cons pe_int pa_nil))) pa_nil))))) (pe_lst (pa_cons pe_int (pa_cons (pe_callB (RC.call_reprX hg (hr.mono (by decide))) rfl T.fr_repr (by decide +kernel) (pa_cons (pv 0) pa_nil)) pa_nil))) (nomark _)) (pss_one (ps_ret pe_bl)) pss_nil))))
      (pss_one (ps_ret pe_bl))))))), ?_⟩)
  · obtain ⟨_, _, pa, _, _⟩ := h
    exact pa.len
  · obtain ⟨ω, G, pa, wA, sy⟩ := h
    try dsimp only [L2.cxOf, L2.Cx.nox, L2.Cx.wish]
    refine Go.fin (Γ := [none]) (fo := (fun (r : Bool) => RS.val (is K r) (ω))) (ω := ω) (ωe := ω) (?_) pa rfl wA sy
    unfold m_l_refused
    exact Go.seqR (fn := (fun (s470 : Unit) => ([none], (ω)))) (Go.forC (IterX.list (EvX.fr (EvF.lst (EvA.cons (EvX.any (x := (() : Unit)) (EvX.unit (K := K))) (EvA.cons (EvX.any (x := ((0 : Int) : Int)) EvX.int) (EvA.cons (EvX.any (x := ((-(1 : Int)) : Int)) (EvX.neg EvX.int)) (EvA.cons (EvX.any (x := (true : Bool)) EvX.bl) (EvA.cons (EvX.any (x := ("1" : Str)) EvX.str) (EvA.cons (EvX.any (x := ([(1 : Int)] : (List Int))) (EvX.fr (EvF.lst (EvA.cons EvX.int EvA.nil) rfl (by show 1 ≤ sizeLine; decide)))) (EvA.cons (EvX.edict (EvX.frD EvF.dnew)) EvA.nil))))))) rfl (by show 7 ≤ sizeLine; decide)))) (Sub.keep Sub.nil) (Dr.refl _) (fun _ => trivial) (fun s470 => TgX.name) fun s470 x471 =>
  Go.req fun y472 h473 =>
  Go.req fun y474 h475 =>
  Go.req fun y476 h477 =>
  Go.req fun y484 h485 =>
  Go.last (Go.ifEC (EvT.orO (EvT.test (EvX.op (EvX.any (x := (y472 : List PV)) (EvX.call (EvA.cons (EvX.var (i := 0) rfl) (EvA.cons (EvX.any (x := (() : Unit)) (EvX.unit (K := K))) (EvA.cons (EvX.any (x := (() : Unit)) (EvX.unit (K := K))) (EvA.cons (EvX.any (x := (() : Unit)) (EvX.unit (K := K))) EvA.nil)))) (use_l_caught) (val_ok h473) rfl)) (EvX.any (x := ([(PV.of ((0 : Int) : Int)), (PV.of (y474 : Str))] : List PV)) (EvX.fr (EvF.lst (EvA.cons (EvX.any (x := ((0 : Int) : Int)) EvX.int) (EvA.cons (EvX.any (x := (y474 : Str)) (EvX.ca (EvA.cons (EvX.var (i := 0) rfl) EvA.nil) (CaX.toldP h475))) EvA.nil)) rfl (by show 2 ≤ sizeLine; decide)))) (OpX.neV h477))) (fun _ q486 => (bindO q486 fun y478 h479 q486 => (bindO q486 fun y480 h481 q486 => (bindO q486 fun y482 h483 q486 => (EvT.eq (EvT.test (EvX.op (EvX.any (x := (y478 : List PV)) (EvX.call (EvA.cons (EvX.any (x := ((3 : Int) : Int)) EvX.int) (EvA.cons (EvX.var (i := 0) rfl) (EvA.cons (EvX.any (x := (() : Unit)) (EvX.unit (K := K))) (EvA.cons (EvX.any (x := (() : Unit)) (EvX.unit (K := K))) EvA.nil)))) (use_l_caught) (val_ok h479) rfl)) (EvX.any (x := ([(PV.of ((0 : Int) : Int)), (PV.of (y480 : Str))] : List PV)) (EvX.fr (EvF.lst (EvA.cons (EvX.any (x := ((0 : Int) : Int)) EvX.int) (EvA.cons (EvX.any (x := (y480 : Str)) (EvX.ca (EvA.cons (EvX.var (i := 0) rfl) EvA.nil) (CaX.toldP h481))) EvA.nil)) rfl (by show 2 ≤ sizeLine; decide)))) (OpX.neV h483))) (Option.some.inj q486)))))) h485) (fun h487 =>
  Go.ret EvX.bl rfl (Dr.refl _)) (fun h488 =>
  Go.nextC (Sub.lose Sub.nil) (Dr.refl _)))) fun s489 h490 =>
  Go.seqR (fn := (fun (s491 : Unit) => ([none], (ω)))) (Go.forC (IterX.list (EvX.fr (EvF.lst (EvA.cons (EvX.any (x := ((2 : Int) : Int)) EvX.int) (EvA.cons (EvX.any (x := ((1 : Int) : Int)) EvX.int) (EvA.cons (EvX.any (x := (() : Unit)) (EvX.unit (K := K))) EvA.nil))) rfl (by show 3 ≤ sizeLine; decide)))) (Sub.keep Sub.nil) (Dr.refl _) (fun _ => trivial) (fun s491 => TgX.name) fun s491 x492 =>
  Go.req fun y493 h494 =>
  Go.req fun y495 h496 =>
  Go.req fun y497 h498 =>
  Go.last (Go.ifEC (EvT.test (EvX.op (EvX.any (x := (y493 : List PV)) (EvX.call (EvA.cons (EvX.any (x := ((3 : Int) : Int)) EvX.int) (EvA.cons (EvX.var (i := 0) rfl) (EvA.cons (EvX.any (x := (() : Unit)) (EvX.unit (K := K))) (EvA.cons (EvX.any (x := (() : Unit)) (EvX.unit (K := K))) EvA.nil)))) (use_l_caught) (val_ok h494) rfl)) (EvX.any (x := ([(PV.of ((0 : Int) : Int)), (PV.of (y495 : Str))] : List PV)) (EvX.fr (EvF.lst (EvA.cons (EvX.any (x := ((0 : Int) : Int)) EvX.int) (EvA.cons (EvX.any (x := (y495 : Str)) (EvX.ca (EvA.cons (EvX.var (i := 0) rfl) EvA.nil) (CaX.toldP h496))) EvA.nil)) rfl (by show 2 ≤ sizeLine; decide)))) (OpX.neV h498))) (fun h499 =>
  Go.ret EvX.bl rfl (Dr.refl _)) (fun h500 =>
  Go.nextC (Sub.lose Sub.nil) (Dr.refl _)))) fun s501 h502 =>
  Go.seqR (fn := (fun (s503 : Unit) => ([none], (ω)))) (Go.forC (IterX.list (EvX.fr (EvF.lst (EvA.cons (EvX.any (x := (() : Unit)) (EvX.unit (K := K))) (EvA.cons (EvX.any (x := ((3 : Int) : Int)) EvX.int) (EvA.cons (EvX.any (x := ((Tu.mk [(1 : Int)]) : (Tu Int))) (EvX.tu (EvA.cons EvX.int EvA.nil) rfl (by show 1 ≤ sizeLine; decide))) (EvA.cons (EvX.any (x := ("1" : Str)) EvX.str) (EvA.cons (EvX.edict (EvX.frD EvF.dnew)) (EvA.cons (EvX.any (x := (true : Bool)) EvX.bl) EvA.nil)))))) rfl (by show 6 ≤ sizeLine; decide)))) (Sub.keep Sub.nil) (Dr.refl _) (fun _ => trivial) (fun s503 => TgX.name) fun s503 x504 =>
  Go.req fun y505 h506 =>
  Go.req fun y507 h508 =>
  Go.req fun y509 h510 =>
  Go.req fun y517 h518 =>
  Go.last (Go.ifEC (EvT.orO (EvT.test (EvX.op (EvX.any (x := (y505 : List PV)) (EvX.call (EvA.cons (EvX.any (x := ((2 : Int) : Int)) EvX.int) (EvA.cons (EvX.any (x := ((5 : Int) : Int)) EvX.int) (EvA.cons (EvX.var (i := 0) rfl) (EvA.cons (EvX.any (x := (() : Unit)) (EvX.unit (K := K))) EvA.nil)))) (use_l_caught) (val_ok h506) rfl)) (EvX.any (x := ([(PV.of ((1 : Int) : Int)), (PV.of (y507 : Str))] : List PV)) (EvX.fr (EvF.lst (EvA.cons (EvX.any (x := ((1 : Int) : Int)) EvX.int) (EvA.cons (EvX.any (x := (y507 : Str)) (EvX.ca (EvA.cons (EvX.var (i := 0) rfl) EvA.nil) (CaX.toldP h508))) EvA.nil)) rfl (by show 2 ≤ sizeLine; decide)))) (OpX.neV h510))) (fun _ q519 => (bindO q519 fun y511 h512 q519 => (bindO q519 fun y513 h514 q519 => (bindO q519 fun y515 h516 q519 => (EvT.eq (EvT.test (EvX.op (EvX.any (x := (y511 : List PV)) (EvX.call (EvA.cons (EvX.any (x := ((2 : Int) : Int)) EvX.int) (EvA.cons (EvX.any (x := ((5 : Int) : Int)) EvX.int) (EvA.cons (EvX.any (x := ([(1 : Int)] : (List Int))) (EvX.fr (EvF.lst (EvA.cons EvX.int EvA.nil) rfl (by show 1 ≤ sizeLine; decide)))) (EvA.cons (EvX.var (i := 0) rfl) EvA.nil)))) (use_l_caught) (val_ok h512) rfl)) (EvX.any (x := ([(PV.of ((1 : Int) : Int)), (PV.of (y513 : Str))] : List PV)) (EvX.fr (EvF.lst (EvA.cons (EvX.any (x := ((1 : Int) : Int)) EvX.int) (EvA.cons (EvX.any (x := (y513 : Str)) (EvX.ca (EvA.cons (EvX.var (i := 0) rfl) EvA.nil) (CaX.toldP h514))) EvA.nil)) rfl (by show 2 ≤ sizeLine; decide)))) (OpX.neV h516))) (Option.some.inj q519)))))) h518) (fun h520 =>
  Go.ret EvX.bl rfl (Dr.refl _)) (fun h521 =>
  Go.nextC (Sub.lose Sub.nil) (Dr.refl _)))) fun s522 h523 =>
  Go.seqR (fn := (fun (s524 : Unit) => ([none], (ω)))) (Go.forC (IterX.list (EvX.fr (EvF.lst (EvA.cons (EvX.any (x := (() : Unit)) (EvX.unit (K := K))) (EvA.cons (EvX.any (x := ((0 : Int) : Int)) EvX.int) (EvA.cons (EvX.any (x := ((-(1 : Int)) : Int)) (EvX.neg EvX.int)) (EvA.cons (EvX.any (x := (true : Bool)) EvX.bl) (EvA.cons (EvX.any (x := ("1" : Str)) EvX.str) (EvA.cons (EvX.any (x := ([(1 : Int)] : (List Int))) (EvX.fr (EvF.lst (EvA.cons EvX.int EvA.nil) rfl (by show 1 ≤ sizeLine; decide)))) (EvA.cons (EvX.edict (EvX.frD EvF.dnew)) EvA.nil))))))) rfl (by show 7 ≤ sizeLine; decide)))) (Sub.keep Sub.nil) (Dr.refl _) (fun _ => trivial) (fun s524 => TgX.name) fun s524 x525 =>
  Go.req fun y526 h527 =>
  Go.req fun y528 h529 =>
  Go.req fun y530 h531 =>
  Go.ifEC (EvT.test (EvX.op (EvX.any (x := (y526 : List PV)) (EvX.call (EvA.cons (EvX.any (x := ((2 : Int) : Int)) EvX.int) (EvA.cons (EvX.any (x := ((5 : Int) : Int)) EvX.int) (EvA.cons (EvX.any (x := ([(PV.of ((1 : Int) : Int)), x525, (PV.of (() : Unit))] : (List PV))) (EvX.fr (EvF.lst (EvA.cons (EvX.any (x := ((1 : Int) : Int)) EvX.int) (EvA.cons (EvX.var (i := 0) rfl) (EvA.cons (EvX.any (x := (() : Unit)) (EvX.unit (K := K))) EvA.nil))) rfl (by show 3 ≤ sizeLine; decide)))) (EvA.cons (EvX.any (x := (() : Unit)) (EvX.unit (K := K))) EvA.nil)))) (use_l_caught) (val_ok h527) rfl)) (EvX.any (x := ([(PV.of ((2 : Int) : Int)), (PV.of (y528 : Str))] : List PV)) (EvX.fr (EvF.lst (EvA.cons (EvX.any (x := ((2 : Int) : Int)) EvX.int) (EvA.cons (EvX.any (x := (y528 : Str)) (EvX.ca (EvA.cons (EvX.var (i := 0) rfl) EvA.nil) (CaX.toldP h529))) EvA.nil)) rfl (by show 2 ≤ sizeLine; decide)))) (OpX.neV h531))) (fun h532 =>
  Go.ret EvX.bl rfl (Dr.refl _)) (fun h533 =>
  Go.req fun y534 h535 =>
  Go.req fun y536 h537 =>
  Go.req fun y538 h539 =>
  Go.last (Go.ifEC (EvT.test (EvX.op (EvX.any (x := (y534 : List PV)) (EvX.call (EvA.cons (EvX.any (x := ((2 : Int) : Int)) EvX.int) (EvA.cons (EvX.any (x := ((5 : Int) : Int)) EvX.int) (EvA.cons (EvX.any (x := ([(1 : Int)] : (List Int))) (EvX.fr (EvF.lst (EvA.cons EvX.int EvA.nil) rfl (by show 1 ≤ sizeLine; decide)))) (EvA.cons (EvX.any (x := ([x525, (PV.of ((0 : Int) : Int))] : (List PV))) (EvX.fr (EvF.lst (EvA.cons (EvX.var (i := 0) rfl) (EvA.cons (EvX.any (x := ((0 : Int) : Int)) EvX.int) EvA.nil)) rfl (by show 2 ≤ sizeLine; decide)))) EvA.nil)))) (use_l_caught) (val_ok h535) rfl)) (EvX.any (x := ([(PV.of ((2 : Int) : Int)), (PV.of (y536 : Str))] : List PV)) (EvX.fr (EvF.lst (EvA.cons (EvX.any (x := ((2 : Int) : Int)) EvX.int) (EvA.cons (EvX.any (x := (y536 : Str)) (EvX.ca (EvA.cons (EvX.var (i := 0) rfl) EvA.nil) (CaX.toldP h537))) EvA.nil)) rfl (by show 2 ≤ sizeLine; decide)))) (OpX.neV h539))) (fun h540 =>
  Go.ret EvX.bl rfl (Dr.refl _)) (fun h541 =>
  Go.nextC (Sub.lose Sub.nil) (Dr.refl _))))) fun s542 h543 =>
  Go.ret EvX.bl rfl (Dr.refl _)
def m_law (_law_script : Sc) : Res Bool :=
  Res.req (irng (0 : Int) (4 : Int)) fun y544 =>
  Res.after (Res.loop (fun (s546 : Unit) (x547 : Int) =>
  Res.req (Res.val (m_l_purse _law_script x547)) fun y548 =>
  Res.req (Res.val (m_l_worths_drawn y548 (4 : Int) (3 : Int))) fun y551 =>
  Res.req (Res.val (m_l_draw y551.2 (5 : Int))) fun y555 =>
  Res.req (irng (0 : Int) y555.1) fun y557 =>
  Res.bind (Res.fold (fun (s559 : (List Int) × (List Int) × (List Int)) (x560 : Int) =>
  Res.req (Res.val (m_l_draw s559.1 (2 : Int))) fun y561 =>
  Res.req (atI [(20 : Int), (((10 : Int) ^ 30) - (1 : Int))] y561.1) fun y563 =>
  Res.req (Res.val (m_l_draw y561.2 y563)) fun y565 =>
  Res.req (imod ((1 : Int) + y565.1) y551.1.sum) fun y567 =>
  Res.req (Res.val (m_l_rests y551.1)) fun y569 =>
  (if (decide (y567 ∈ y569)) then Res.req (app s559.2.1 ((1 : Int) + y565.1)) fun y573 =>
  .ok (y565.2, y573, s559.2.2) else Res.req (app s559.2.2 ((1 : Int) + y565.1)) fun y575 =>
  .ok (y565.2, s559.2.1, y575))) y557 (y555.2, [], [])) fun (s577 : (List Int) × (List Int) × (List Int)) =>
  Res.req (Res.val (m_l_draw s577.1 (4 : Int))) fun y583 =>
  Res.bind (if (decide (y583.1 = (0 : Int))) then Res.req (Res.val (m_l_draw y583.2 (12 : Int))) fun y587 =>
  Res.req (cat s577.2.1 [((1 : Int) + y587.1)]) fun y589 =>
  .ok (y589, y587.2) else .ok (s577.2.1, y583.2)) fun (s591 : (List Int) × (List Int)) =>
  Res.req (Res.val (m_l_due (y551.1.length : Int) y551.1.sum s591.1 s577.2.2)) fun y592 =>
  Res.req (atI [s591.1, s577.2.2] (0 : Int)) fun y595 =>
  Res.req (atI [s591.1, s577.2.2] (1 : Int)) fun y597 =>
  Res.req (Res.val (m_told_back (PV.of ((y551.1.length : Int) : Int)) (PV.of (y551.1.sum : Int)) (PV.of (y595 : (List Int))) (PV.of (y597 : (List Int))))) fun y599 =>
  Res.req (told y599) fun y602 =>
  Res.req (told y592) fun y604 =>
  (if ((!decide (y602 = y604)) || (!decide ([s591.1, s577.2.2] = [s591.1, s577.2.2]))) then Res.esc (.ok false) else
  Res.req (if y599.Nodup then some () else none) fun u652 =>
  Res.after (Res.loop (fun (s610 : Nat) (i637 : Nat) => Res.req (if i637 = s610 then some () else none) fun _ => Res.req (y599[i637]?) fun r614 =>
  Res.req (Res.val (m_Roll_init r614)) fun y619 =>
  Res.req (Res.val (m_first_form y619)) fun y621 =>
  Res.req (if (!decide (y621 = r614)) then some true else (Option.bind (Res.val (m_Roll_init r614)) fun y623 => (Option.bind (Res.val (m_rests y623)) fun y625 => (Option.bind (Res.val (m_l_rests r614)) fun y627 => (Option.bind (setOk y627) fun y629 => (some (!decide (y625 = y629)))))))) fun y631 =>
  (if y631 then Res.esc (.ok false) else
  Res.req (Lf.app (r614.map some) (none : Option Int)) fun y617 => .ok (.nx (s610 + 1)))) (List.range y599.length) 0) (fun (s612 : Nat) =>
  Res.req (more y599) fun u648 =>
  Res.req (Res.val (m_told_back (PV.of ((y551.1.length : Int) : Int)) (PV.of (y551.1.sum : Int)) (PV.of (s591.1 : (List Int))) (PV.of (s577.2.2 : (List Int))))) fun y638 =>
  (if (!decide (y638 = y592)) then Res.esc (.ok false) else
  Res.req (Res.val (m_told_back (PV.of ((y551.1.length : Int) : Int)) (PV.of (y551.1.sum : Int)) (PV.of ([] : List PV)) (PV.of ([] : List PV)))) fun y642 =>
  Res.req (Res.val (m_l_due (y551.1.length : Int) y551.1.sum [] [])) fun y644 =>
  (if (!decide (y642 = y644)) then Res.esc (.ok false) else
  .ok (.nx ())))) (fun r => .ok (.rt r)))) y544 ()) (fun (s654 : Unit) =>
  Res.req (Res.val (m_l_refused)) fun y656 =>
  .ok y656) .ok
def sp_law (K : Frag) : Sp := fun vs H Q E => ∃ (_law_script : Sc) (ω : List Ent) (G : Hp), _law_script.l.length ≤ 63 ∧ (Plain ω ∧ FlatO ω) ∧ PArgs G vs [is K _law_script] ∧ At G (ω) H ∧ Says K G (ω) (m_law _law_script) (fun (r : Bool) => RS.val (is K r) (ω)) Q E
theorem use_law {E : XK} {ω : List Ent} {_law_script : Sc} (hsc : _law_script.l.length ≤ 63) (hpl : (Plain ω ∧ FlatO ω)) : SpR K (sp_law K) E [is K _law_script] ω ω (m_law _law_script) (fun (r : Bool) => RS.val (is K r) (ω)) := fun G H vs Q pa w s => ⟨_law_script, ω, G, hsc, hpl, pa, w, s⟩
theorem ok_law (T : Txt K mg) : RC.FnOkG PR w K mg base (L2.CX PR w) 14 (He.fAd K ("law", none)) T.fd_law ["_law_script"] (sp_law K) := by
  refine RC.okG T.F_law sc_law (fun vs H Q E h => ?_) (fun cdv A outer s H vs Q E hg hr h => ⟨_, PSs.nox ((pss_cons (ps_for PassesOwn.never rfl (pi_range1 rfl T.fr_range (pa_cons pe_int pa_nil)) (pg_name (i := 1) sc_law.nd rfl (by first | exact .inl rfl | exact .inr rfl))
      (pss_cons (ps_set (i := 2) sc_law.nd rfl (by first | exact .inl rfl | exact .inr rfl) (pe_call (ok_l_purse T) (hr.mono (by decide)) rfl T.g_l_purse T.F_l_purse.kp (b_l_purse T) .nil passF (pa_cons (pv 0) (pa_cons (pv 1) pa_nil))))
      (pss_cons (ps_set (i := 3) sc_law.nd rfl (by first | exact .inl rfl | exact .inr rfl) (pe_call (ok_l_worths_drawn T) (hr.mono (by decide)) rfl T.g_l_worths_drawn T.F_l_worths_drawn.kp (b_l_worths_drawn T) .nil passF (pa_cons (pv 2) (pa_cons pe_int (pa_cons pe_int pa_nil)))))
      (pss_cons (ps_par3 (i := 4) (j := 5) (l := 6) rfl sc_law.nd rfl rfl rfl (by decide) (by decide) (by decide) rfl rfl rfl (pa_cons (pe_callB (cr_sum rfl) rfl T.fr_sum (by decide +kernel) (pa_cons (pv 3) pa_nil)) (pa_cons (pe_lst pa_nil) (pa_cons (pe_lst pa_nil) pa_nil))) rfl)
      (pss_cons (ps_for PassesOwn.never rfl (pi_range1 rfl T.fr_range (pa_cons (pe_call (ok_l_draw T) (hr.mono (by decide)) rfl T.g_l_draw T.F_l_draw.kp (b_l_draw T) .nil passF (pa_cons (pv 2) (pa_cons pe_int pa_nil))) pa_nil)) (pg_name (i := 7) sc_law.nd rfl (by first | exact .inl rfl | exact .inr rfl))
      (pss_cons (ps_set (i := 8) sc_law.nd rfl (by first | exact .inl rfl | exact .inr rfl) (pe_op op_add pe_int (pe_call (ok_l_draw T) (hr.mono (by decide)) rfl T.g_l_draw T.F_l_draw.kp (b_l_draw T) .nil passF (pa_cons (pv 2) (pa_cons (pe_ix ix_list (pe_lst (pa_cons pe_int (pa_cons (pe_op op_sub (pe_op op_pow pe_int pe_int) pe_int) pa_nil))) (pe_call (ok_l_draw T) (hr.mono (by decide)) rfl T.g_l_draw T.F_l_draw.kp (b_l_draw T) .nil passF (pa_cons (pv 2) (pa_cons pe_int pa_nil))) (fun _ _ => rfl)) pa_nil)))))
      (pss_one (ps_if (pt_cmpR op_in_seq (pe_op op_mod (pe_callTy RC.call_intS rfl T.fr_int (by decide +kernel) (pa_cons (pv 8) pa_nil)) (pv 4)) (pe_call (ok_l_rests T) (hr.mono (by decide)) rfl T.g_l_rests T.F_l_rests.kp (b_l_rests T) .nil passF (pa_cons (pv 3) pa_nil)) rfl) (pss_one (ps_expr (pe_bm PySem.F.plainAttrs_list PySem.F.slot_list_append PySem.F.type_list_append mt_append (pv 5) (pa_cons (pv 8) pa_nil)))) (pss_one (ps_expr (pe_bm PySem.F.plainAttrs_list PySem.F.slot_list_append PySem.F.type_list_append mt_append (pv 6) (pa_cons (pv 8) pa_nil))))))))
      (pss_cons (ps_if (pt_cmpR op_eq (pe_call (ok_l_draw T) (hr.mono (by decide)) rfl T.g_l_draw T.F_l_draw.kp (b_l_draw T) .nil passF (pa_cons (pv 2) (pa_cons pe_int pa_nil))) pe_int (nomark _)) (pss_one (ps_set (i := 5) sc_law.nd rfl (by first | exact .inl rfl | exact .inr rfl) (pe_op op_cat (pv 5) (pe_lst (pa_cons (pe_op op_add pe_int (pe_call (ok_l_draw T) (hr.mono (by decide)) rfl T.g_l_draw T.F_l_draw.kp (b_l_draw T) .nil passF (pa_cons (pv 2) (pa_cons pe_int pa_nil)))) pa_nil))))) pss_nil)
      (pss_cons (ps_set (i := 9) sc_law.nd rfl (by first | exact .inl rfl | exact .inr rfl) (pe_lst (pa_cons (pe_callTy RC.call_listS rfl T.fr_list (by decide +kernel) (pa_cons (pv 5) pa_nil)) (pa_cons (pe_callTy RC.call_listS rfl T.fr_list (by decide +kernel) (pa_cons (pv 6) pa_nil)) pa_nil))))
      (pss_cons (ps_set (i := 10) sc_law.nd rfl (by first | exact .inl rfl | exact .inr rfl) (pe_call (ok_l_due T) (hr.mono (by decide)) rfl T.g_l_due T.F_l_due.kp (b_l_due T) .nil passF (pa_cons (pe_callB RC.call_lenS rfl T.fr_len (by decide +kernel) (pa_cons (pv 3) pa_nil)) (pa_cons (pv 4) (pa_cons (pv 5) (pa_cons (pv 6) pa_nil))))))
      (pss_cons (ps_set (i := 11) sc_law.nd rfl (by first | exact .inl rfl | exact .inr rfl) (pe_call (ok_told_back T) (hr.mono (by decide)) rfl T.g_told_back T.F_told_back.kp (b_told_back T) .nil passF (pa_cons (pe_callB RC.call_lenS rfl T.fr_len (by decide +kernel) (pa_cons (pv 3) pa_nil)) (pa_cons (pv 4) (pa_cons (pe_ix ix_list (pv 9) pe_int (fun _ _ => rfl)) (pa_cons (pe_ix ix_list (pv 9) pe_int (fun _ _ => rfl)) pa_nil))))))
      (pss_cons (ps_if (PW.pt (pw_or (pt_cmpR op_ne (pe_callB (RC.call_reprD hg (hr.mono (by decide))) rfl T.fr_repr (by decide +kernel) (pa_cons (pv 11) pa_nil)) (pe_callB (RC.call_reprD hg (hr.mono (by decide))) rfl T.fr_repr (by decide +kernel) (pa_cons (pv 10) pa_nil)) (nomark _)) (pw_or1 (pt_cmpR (op_neD hr.units) (pv 9) (pe_lst (pa_cons (pv 5) (pa_cons (pv 6) pa_nil))) (nomark _))))) (pss_one (ps_ret pe_bl)) pss_nil)
      (pss_cons (ps_for PassesOwn.never rfl (pi_list (pv 11)) (pg_name (i := 12) sc_law.nd rfl (by first | exact .inl rfl | exact .inr rfl))
      (pss_cons (ps_if (PW.pt (pw_or (pt_cmpR (op_neD hr.units) (pe_call (ok_first_form T) (hr.mono (by decide)) rfl T.g_first_form T.F_first_form.kp (b_first_form T) .nil passF (pa_cons (pe_make T.mk_Roll (ok_Roll_init T) (hr.mono (by decide)) rfl T.g_Roll (b_Roll_init T) .nil passF (pa_cons (pv 12) pa_nil)) pa_nil)) (pv 12) (nomark _)) (pw_or1 (pt_cmpR (op_neD hr.units) (pe_call (ok_rests T) (hr.mono (by decide)) rfl T.g_rests T.F_rests.kp (b_rests T) .nil passF (pa_cons (pe_make T.mk_Roll (ok_Roll_init T) (hr.mono (by decide)) rfl T.g_Roll (b_Roll_init T) .nil passF (pa_cons (pv 12) pa_nil)) pa_nil)) (pe_callB (cr_sortS rfl) rfl T.fr_sorted (by decide +kernel) (pa_cons (pe_callTy (cr_setL rfl) rfl T.fr_set (by decide +kernel) (pa_cons (pe_call (ok_l_rests T) (hr.mono (by decide)) rfl T.g_l_rests T.F_l_rests.kp (b_l_rests T) .nil passF (pa_cons (pv 12) pa_nil)) pa_nil)) pa_nil)) (nomark _))))) (pss_one (ps_ret pe_bl)) pss_nil)
      (pss_one (ps_expr (pe_bm PySem.F.plainAttrs_list PySem.F.slot_list_append PySem.F.type_list_append mt_append (pv 12) (pa_cons pe_non pa_nil))))))
      (pss_cons (ps_expr (pe_bm PySem.F.plainAttrs_list PySem.F.slot_list_append PySem.F.type_list_append mt_append (pv 11) (pa_cons pe_non pa_nil)))
      (pss_cons (ps_if (pt_cmpR (op_neD hr.units) (pe_call (ok_told_back T) (hr.mono (by decide)) rfl T.g_told_back T.F_told_back.kp (b_told_back T) .nil passF (pa_cons (pe_callB RC.call_lenS rfl T.fr_len (by decide +kernel) (pa_cons (pv 3) pa_nil)) (pa_cons (pv 4) (pa_cons (pv 5) (pa_cons (pv 6) pa_nil))))) (pv 10) (nomark _)) (pss_one (ps_ret pe_bl)) pss_nil)
      (pss_one (ps_if (pt_cmpR (op_neD hr.units) (pe_call (ok_told_back T) (hr.mono (by decide)) rfl T.g_told_back T.F_told_back.kp (b_told_back T) .nil passF (pa_cons (pe_callB RC.call_lenS rfl T.fr_len (by decide +kernel) (pa_cons (pv 3) pa_nil)) (pa_cons (pv 4) (pa_cons (pe_lst pa_nil) (pa_cons (pe_lst pa_nil) pa_nil))))) (pe_call (ok_l_due T) (hr.mono (by decide)) rfl T.g_l_due T.F_l_due.kp (b_l_due T) .nil passF (pa_cons (pe_callB RC.call_lenS rfl T.fr_len (by decide +kernel) (pa_cons (pv 3) pa_nil)) (pa_cons (pv 4) (pa_cons (pe_lst pa_nil) (pa_cons (pe_lst pa_nil) pa_nil))))) (nomark _)) (pss_one (ps_ret pe_bl)) pss_nil)))))))))))))))
      (pss_one (ps_ret (RC.pe_callG0 (ok_l_refused T) hg (hr.mono (by decide)) rfl T.g_l_refused T.F_l_refused.kp (b_l_refused T) .nil passF))))), ?_⟩)
  · obtain ⟨_, _, _, _, _, pa, _, _⟩ := h
    exact pa.len
  · obtain ⟨_law_script, ω, G, hsc, hpl, pa, wA, sy⟩ := h
    try dsimp only [L2.cxOf, L2.Cx.nox, L2.Cx.wish]
    refine Go.fin (Γ := [some (is K _law_script), none, none, none, none, none, none, none, none, none, none, none, none]) (fo := (fun (r : Bool) => RS.val (is K r) (ω))) (ω := ω) (ωe := ω) (?_) pa rfl wA sy
    unfold m_law
    exact Go.req fun y544 h545 =>
  Go.seqR (fn := (fun (s546 : Unit) => ([some (is K (_law_script : Sc)), none, none, none, none, none, none, none, none, none, none, none, none], (ω)))) (Go.forC (IterX.rng1 (EvA.cons EvX.int EvA.nil) h545) (Sub.keep (Sub.keep (Sub.keep (Sub.keep (Sub.keep (Sub.keep (Sub.keep (Sub.keep (Sub.keep (Sub.keep (Sub.keep (Sub.keep (Sub.keep Sub.nil))))))))))))) (Dr.refl _) (fun _ => trivial) (fun s546 => TgX.name) fun s546 x547 =>
  Go.req fun y548 h549 =>
  Go.asgF (i := 2) (φ := olst K (y548 : (List Int))) (EvF.call (EvA.cons (EvX.var (i := 0) rfl) (EvA.cons (EvX.var (i := 1) rfl) EvA.nil)) (use_l_purse hsc) (val_ok h549) rfl) fun p550 =>
  Go.req fun y551 h552 =>
  Go.asg (i := 3) (EvX.call (EvA.cons (EvX.var (i := 2) rfl) (EvA.cons EvX.int (EvA.cons EvX.int EvA.nil))) (use_l_worths_drawn (k := 0) rfl) (val_ok h552) rfl) (
  Go.parSF (i := 4) (j := 5) (l := 6) (φ := olst K ([] : (List Int))) (ψ := olst K ([] : (List Int))) (EvX.ca (EvA.cons (EvX.var (i := 3) rfl) EvA.nil) CaX.sum) (EvF.lst EvA.nil rfl (by show 0 ≤ sizeLine; decide)) (fun _ => (EvF.lst EvA.nil rfl (by show 0 ≤ sizeLine; decide))) fun p553 p554 =>
  Go.req fun y555 h556 =>
  Go.req fun y557 h558 =>
  Go.seqN (fn := (fun (s559 : (List Int) × (List Int) × (List Int)) => ([some (is K (_law_script : Sc)), some (is K (x547 : Int)), some (adr p550), some (is K (y551.1 : (List Int))), some (is K (y551.1.sum : Int)), some (adr p553), some (adr p554), none, none, none, none, none, none], (.own p554 (olst K (s559.2.2 : (List Int))) :: .own p553 (olst K (s559.2.1 : (List Int))) :: .own p550 (olst K (s559.1 : (List Int))) :: ω)))) (Go.forN (IterX.rng1 (EvA.cons (EvX.call (EvA.cons (EvX.var (i := 2) rfl) (EvA.cons EvX.int EvA.nil)) (use_l_draw (k := 2) rfl) (val_ok h556) rfl) EvA.nil) h558) (Sub.keep (Sub.keep (Sub.keep (Sub.keep (Sub.keep (Sub.keep (Sub.keep (Sub.keep (Sub.keep (Sub.keep (Sub.keep (Sub.keep (Sub.keep Sub.nil))))))))))))) (Dr.refl _) (fun _ => trivial) (fun s559 => TgX.name) fun s559 x560 =>
  Go.req fun y561 h562 =>
  Go.req fun y563 h564 =>
  Go.req fun y565 h566 =>
  Go.asg (i := 8) (EvX.op EvX.int (EvX.call (EvA.cons (EvX.var (i := 2) rfl) (EvA.cons (EvX.op (EvX.fr (EvF.lst (EvA.cons EvX.int (EvA.cons (EvX.op (EvX.op EvX.int EvX.int (OpX.powK ⟨by decide, by decide, by decide⟩)) EvX.int OpX.sub) EvA.nil)) rfl (by show 2 ≤ sizeLine; decide))) (EvX.call (EvA.cons (EvX.var (i := 2) rfl) (EvA.cons EvX.int EvA.nil)) (use_l_draw (k := 2) rfl) (val_ok h562) rfl) (OpX.ixL h564)) EvA.nil)) (use_l_draw (k := 2) rfl) (val_ok h566) rfl) OpX.add) (
  Go.req fun y567 h568 =>
  Go.req fun y569 h570 =>
  Go.ifS (EvT.test (EvX.op (EvX.op (EvX.ca (EvA.cons (EvX.var (i := 8) rfl) EvA.nil) CaX.int1) (EvX.var (i := 4) rfl) (OpX.mod h568)) (EvX.call (EvA.cons (EvX.var (i := 3) rfl) EvA.nil) (use_l_rests) (val_ok h570) rfl) OpX.inL)) (fun h571 =>
  Go.req fun y573 h574 =>
  Go.last (Go.app (k := 1) (EvX.var (i := 5) rfl) ⟨_, rfl⟩ (EvX.var (i := 8) rfl) rfl h574 (
  Go.next (Sub.keep (Sub.keep (Sub.keep (Sub.keep (Sub.keep (Sub.keep (Sub.keep (Sub.lose (Sub.lose (Sub.keep (Sub.keep (Sub.keep (Sub.keep Sub.nil))))))))))))) (Dr.refl _)))) (fun h572 =>
  Go.req fun y575 h576 =>
  Go.last (Go.app (k := 0) (EvX.var (i := 6) rfl) ⟨_, rfl⟩ (EvX.var (i := 8) rfl) rfl h576 (
  Go.next (Sub.keep (Sub.keep (Sub.keep (Sub.keep (Sub.keep (Sub.keep (Sub.keep (Sub.lose (Sub.lose (Sub.keep (Sub.keep (Sub.keep (Sub.keep Sub.nil))))))))))))) (Dr.refl _)))))) fun s577 h578 =>
  Go.freeze (k := 1) (i := 5) rfl rfl (Go.req fun y583 h584 =>
  Go.seqN (fn := (fun (s591 : (List Int) × (List Int)) => ([some (is K (_law_script : Sc)), some (is K (x547 : Int)), some (adr p550), some (is K (y551.1 : (List Int))), some (is K (y551.1.sum : Int)), some (is K (s591.1 : (List Int))), some (adr p554), none, none, none, none, none, none], (.own p554 (olst K (s577.2.2 : (List Int))) :: .own p550 (olst K (s591.2 : (List Int))) :: ω)))) (Go.ifS (EvT.test (EvX.op (EvX.call (EvA.cons (EvX.var (i := 2) rfl) (EvA.cons EvX.int EvA.nil)) (use_l_draw (k := 1) rfl) (val_ok h584) rfl) EvX.int OpX.eq)) (fun h585 =>
  Go.req fun y587 h588 =>
  Go.req fun y589 h590 =>
  Go.last (Go.asg (i := 5) (EvX.fr (EvF.op (EvX.var (i := 5) rfl) (EvX.fr (EvF.lst (EvA.cons (EvX.op EvX.int (EvX.call (EvA.cons (EvX.var (i := 2) rfl) (EvA.cons EvX.int EvA.nil)) (use_l_draw (k := 1) rfl) (val_ok h588) rfl) OpX.add) EvA.nil) rfl (by show 1 ≤ sizeLine; decide))) (OpF.cat h590))) (
  Go.next (Sub.keep (Sub.keep (Sub.keep (Sub.keep (Sub.keep (Sub.keep (Sub.keep (Sub.keep (Sub.keep (Sub.keep (Sub.keep (Sub.keep (Sub.keep Sub.nil))))))))))))) (Dr.refl _)))) (fun h586 =>
  Go.next (Sub.keep (Sub.keep (Sub.keep (Sub.keep (Sub.keep (Sub.keep (Sub.keep (Sub.keep (Sub.keep (Sub.keep (Sub.keep (Sub.keep (Sub.keep Sub.nil))))))))))))) (Dr.refl _))) fun s591 h653 =>
  Go.asg (i := 9) (EvX.fr (EvF.lst (EvA.cons (EvX.fr (EvF.ca (EvA.cons (EvX.var (i := 5) rfl) EvA.nil) CaF.list)) (EvA.cons (EvX.fr (EvF.ca (EvA.cons (EvX.var (i := 6) rfl) EvA.nil) (CaF.listO (k := 0) rfl))) EvA.nil)) rfl (by show 2 ≤ sizeLine; decide))) (
  Go.freeze (k := 0) (i := 6) rfl rfl (Go.req fun y592 h593 =>
  Go.asg (i := 10) (EvX.call (EvA.cons (EvX.ca (EvA.cons (EvX.var (i := 3) rfl) EvA.nil) CaX.len) (EvA.cons (EvX.var (i := 4) rfl) (EvA.cons (EvX.var (i := 5) rfl) (EvA.cons (EvX.var (i := 6) rfl) EvA.nil)))) (use_l_due) (val_ok h593) rfl) (
  Go.mark fun G594 =>
  Go.req fun y595 h596 =>
  Go.req fun y597 h598 =>
  Go.req fun y599 h600 =>
  Go.asgF (i := 11) (φ := olst (α := Nw G594 (List Int)) K y599) (EvF.callO (i := 0) rfl (EvA.cons (EvX.any (x := ((y551.1.length : Int) : Int)) (EvX.ca (EvA.cons (EvX.varK (i := 3) rfl) EvA.nil) CaX.len)) (EvA.cons (EvX.any (x := (y551.1.sum : Int)) (EvX.varK (i := 4) rfl)) (EvA.cons (EvX.any (x := (y595 : (List Int))) (EvX.op (EvX.varK (i := 9) rfl) EvX.int (OpX.ixL h596))) (EvA.cons (EvX.any (x := (y597 : (List Int))) (EvX.op (EvX.varK (i := 9) rfl) EvX.int (OpX.ixL h598))) EvA.nil)))) (new_told_back) (val_ok h600)) fun p601 =>
  Go.req fun y602 h603 =>
  Go.req fun y604 h605 =>
  Go.ifCAt (EvT.or (EvT.test (EvX.op (EvX.ca (EvA.cons (EvX.var (i := 11) rfl) EvA.nil) (CaX.told (ShAt.own (k := 0) rfl) h603 (Nat.le_of_ble_eq_true rfl))) (EvX.ca (EvA.cons (EvX.varK (i := 10) rfl) EvA.nil) (CaX.told ShAt.of h605 (by decide))) OpX.ne)) fun _ => (EvT.test (EvX.op (EvX.varK (i := 9) rfl) (EvX.fr (EvF.lst (EvA.cons (EvX.varK (i := 5) rfl) (EvA.cons (EvX.varK (i := 6) rfl) EvA.nil)) rfl (by show 2 ≤ sizeLine; decide))) (OpX.neA DtAt.of DtAt.of (by decide))))) (fun h606 =>
  Go.ret EvX.bl rfl (Dr.drop (Dr.drop (Dr.refl _)))) (fun h607 =>
  Go.req fun u652 h651 => Go.rows (told := 11) (FlatO.lst hpl.2) (nodup_req h651) (Nat.le_of_ble_eq_true rfl) fun as608 len609 =>
  Go.seqC (fn' := (fun (s610 : Nat) => ([some (is K (_law_script : Sc)), some (is K (x547 : Int)), some (adr p550), some (is K (y551.1 : (List Int))), some (is K (y551.1.sum : Int)), some (is K (s591.1 : (List Int))), some (is K (s577.2.2 : (List Int))), none, none, some (is K ([s591.1, s577.2.2] : (List (List Int)))), some (is K (y592 : (List (List Int)))), some (adr p601), none], rowsE K as608 y599 s610 ++ .own p601 (olst K ((List.range y599.length).map (Ix.mk (as_ := as608)))) :: (.own p550 (olst K (s591.2 : (List Int))) :: ω)))) (Go.forIx (IterX.own (EvX.var (i := 11) rfl) told_at) (Sub.keep (Sub.keep (Sub.keep (Sub.keep (Sub.keep (Sub.keep (Sub.keep (Sub.keep (Sub.keep (Sub.keep (Sub.keep (Sub.keep (Sub.keep Sub.nil))))))))))))) (Dr.refl _) (fun _ => ⟨_, told_at⟩) (fun _ => TgX.name) (fun s610 x611 => Go.ixStep (slot := 12) len609 rfl fun a613 r614 h615 h616 =>
  Go.req fun y619 h620 =>
  Go.req fun y621 h622 =>
  Go.req fun y631 h632 =>
  Go.ifEC (EvT.frozen (i := 12) (k := s610) (Plain.app (Plain.lst (Plain.lst hpl.1))) rfl (rowE_get h615 h616) (EvT.orO (EvT.test (EvX.op (EvX.call (EvA.cons (EvX.make (EvA.cons (EvX.var (i := 12) rfl) EvA.nil) (fun _ => (use_Roll_init)) made_Roll (val_ok h620)) EvA.nil) (use_first_form) (val_ok h622) rfl) (EvX.var (i := 12) rfl) (OpX.neA DtAt.of DtAt.of (by decide)))) (fun _ q633 => (bindO q633 fun y623 h624 q633 => (bindO q633 fun y625 h626 q633 => (bindO q633 fun y627 h628 q633 => (bindO q633 fun y629 h630 q633 => (EvT.eq (EvT.test (EvX.op (EvX.fr (EvF.call (EvA.cons (EvX.make (EvA.cons (EvX.var (i := 12) rfl) EvA.nil) (fun _ => (use_Roll_init)) made_Roll (val_ok h624)) EvA.nil) (use_rests) (val_ok h626) rfl)) (EvX.fr (EvF.sortedSet (EvA.cons (EvX.call (EvA.cons (EvX.var (i := 12) rfl) EvA.nil) (use_l_rests) (val_ok h628) rfl) EvA.nil) h630)) (OpX.neA DtAt.of DtAt.of (by decide)))) (Option.some.inj q633))))))) h632)) (fun h634 => Go.ret EvX.bl rfl (Dr.app (Dr.drop (Dr.drop (Dr.refl _))))) (fun h635 =>
  Go.req fun y617 h618 => Go.rowNone (i := 12) h615 h616 rfl h618 (Go.nextC (Sub.keep (Sub.keep (Sub.keep (Sub.keep (Sub.keep (Sub.keep (Sub.keep (Sub.keep (Sub.keep (Sub.keep (Sub.keep (Sub.keep (Sub.lose Sub.nil))))))))))))) (Dr.refl _))))) fun s612 h650 =>
  Go.req fun u648 h649 => Go.toldNone (i := 11) rfl h649 (
  Go.req fun y638 h639 =>
  Go.ifEC (EvT.test (EvX.op (EvX.fr (EvF.call (EvA.cons (EvX.any (x := ((y551.1.length : Int) : Int)) (EvX.ca (EvA.cons (EvX.var (i := 3) rfl) EvA.nil) CaX.len)) (EvA.cons (EvX.any (x := (y551.1.sum : Int)) (EvX.var (i := 4) rfl)) (EvA.cons (EvX.any (x := (s591.1 : (List Int))) (EvX.var (i := 5) rfl)) (EvA.cons (EvX.any (x := (s577.2.2 : (List Int))) (EvX.var (i := 6) rfl)) EvA.nil)))) (use_told_back) (val_ok h639) rfl)) (EvX.var (i := 10) rfl) (OpX.neA DtAt.of DtAt.of (by decide)))) (fun h640 =>
  Go.ret EvX.bl rfl (Dr.drop (Dr.refl _))) (fun h641 =>
  Go.req fun y642 h643 =>
  Go.req fun y644 h645 =>
  Go.last (Go.ifEC (EvT.test (EvX.op (EvX.fr (EvF.call (EvA.cons (EvX.any (x := ((y551.1.length : Int) : Int)) (EvX.ca (EvA.cons (EvX.var (i := 3) rfl) EvA.nil) CaX.len)) (EvA.cons (EvX.any (x := (y551.1.sum : Int)) (EvX.var (i := 4) rfl)) (EvA.cons (EvX.any (x := ([] : List PV)) (EvX.fr (EvF.lst EvA.nil rfl (by show 0 ≤ sizeLine; decide)))) (EvA.cons (EvX.any (x := ([] : List PV)) (EvX.fr (EvF.lst EvA.nil rfl (by show 0 ≤ sizeLine; decide)))) EvA.nil)))) (use_told_back) (val_ok h643) rfl)) (EvX.call (EvA.cons (EvX.ca (EvA.cons (EvX.var (i := 3) rfl) EvA.nil) CaX.len) (EvA.cons (EvX.var (i := 4) rfl) (EvA.cons (EvX.fr (EvF.lst EvA.nil rfl (by show 0 ≤ sizeLine; decide))) (EvA.cons (EvX.fr (EvF.lst EvA.nil rfl (by show 0 ≤ sizeLine; decide))) EvA.nil)))) (use_l_due) (val_ok h645) rfl) (OpX.neA DtAt.of DtAt.of (by decide)))) (fun h646 =>
  Go.ret EvX.bl rfl (Dr.drop (Dr.refl _))) (fun h647 =>
  Go.nextC (Sub.keep (Sub.lose (Sub.lose (Sub.lose (Sub.lose (Sub.lose (Sub.lose (Sub.keep (Sub.keep (Sub.lose (Sub.lose (Sub.keep (Sub.keep Sub.nil))))))))))))) (Dr.drop (Dr.refl _))))))))))))) fun s654 h655 =>
  Go.req fun y656 h657 =>
  Go.ret (EvX.call EvA.nil (use_l_refused) (val_ok h657) rfl) rfl (Dr.refl _)
end
end Mi
/-! ## Plain data: what the mirrors' words come to -/
namespace Pl
open PySem L2 Lf
theorem fold_inv {α S : Type} {f : S → α → Res S} : ∀ {xs : List α} {s0 : S} (P : Nat → S → Prop), P 0 s0 → (∀ (i : Nat) (x : α) (s : S), xs[i]? = some x → P i s → ∃ s', f s x = .ok s' ∧ P (i + 1) s') → ∃ s', Res.fold f xs s0 = .ok s' ∧ P xs.length s'
  | [], s0, P, h0, _ => ⟨s0, rfl, h0⟩
  | x :: xs, s0, P, h0, hs => by
    obtain ⟨s1, e1, h1⟩ := hs 0 x s0 rfl h0
    obtain ⟨s2, e2, h2⟩ := fold_inv (xs := xs) (s0 := s1) (fun i s => P (i + 1) s) h1 fun i y s hy h => hs (i + 1) y s hy h
    refine ⟨s2, ?_, h2⟩
    show Res.bind (f s0 x) (Res.fold f xs) = _
    rw [e1]
    exact e2
theorem loop_inv {α S R : Type} {f : S → α → Res (Ctl S R)} : ∀ {xs : List α} {s0 : S} (P : Nat → S → Prop), P 0 s0 → (∀ (i : Nat) (x : α) (s : S), xs[i]? = some x → P i s → ∃ s', f s x = .ok (.nx s') ∧ P (i + 1) s') → ∃ s', Res.loop f xs s0 = .ok (.nx s') ∧ P xs.length s'
  | [], s0, P, h0, _ => ⟨s0, rfl, h0⟩
  | x :: xs, s0, P, h0, hs => by
    obtain ⟨s1, e1, h1⟩ := hs 0 x s0 rfl h0
    obtain ⟨s2, e2, h2⟩ := loop_inv (xs := xs) (s0 := s1) (fun i s => P (i + 1) s) h1 fun i y s hy h => hs (i + 1) y s hy h
    refine ⟨s2, ?_, h2⟩
    show Res.bind (f s0 x) _ = _
    rw [e1]
    exact e2
theorem req_some {α β : Type} {o : Option α} {x : α} {k : α → Res β} (h : o = some x) : Res.req o k = k x := by
  rw [h]
  rfl
theorem val_some {α : Type} {m : Res α} {x : α} (h : m = .ok x) : Res.val m = some x := by
  rw [h]
  rfl
theorem bind_ok {α β : Type} {m : Res α} {x : α} {k : α → Res β} (h : m = .ok x) : Res.bind m k = k x := by
  rw [h]
  rfl
theorem after_nx {S R X : Type} {m : Res (Ctl S R)} {s : S} {k : S → Res X} {kr : R → Res X} (h : m = .ok (.nx s)) : Res.after m k kr = k s := by
  rw [h]
  rfl
theorem req_val {α β : Type} {m : Res α} {x : α} {k : α → Res β} (h : m = .ok x) : Res.req (Res.val m) k = k x := by
  rw [h]
  rfl
/-- lo, lo + 1, .. -/
def ups (lo : Int) (n : Nat) : List Int := (List.range n).map fun (i : Nat) => lo + (i : Int)
theorem irng_ups {lo hi : Int} {n : Nat} (e : hi - lo = n) (h1 : -(2 ^ 59) ≤ lo) (h2 : lo ≤ 2 ^ 59) (h3 : n ≤ 10000000) : irng lo hi = some (ups lo n) := by
  unfold irng
  have e2 : (hi - lo).toNat = n := by omega
  rw [if_pos ⟨by omega, by omega, by omega, by omega, by rw [e2, sizeLine_eq]; omega⟩, e2]
  rfl
theorem ups_len (lo : Int) (n : Nat) : (ups lo n).length = n := by simp [ups]
theorem ups_at {lo : Int} {n i : Nat} {x : Int} (h : (ups lo n)[i]? = some x) : i < n ∧ x = lo + i := by
  unfold ups at h
  rw [List.getElem?_map] at h
  cases z : (List.range n)[i]? with
  | none =>
    rw [z] at h
    cases h
  | some j =>
    rw [z] at h
    obtain ⟨l, e⟩ := List.getElem?_eq_some_iff.mp z
    rw [List.getElem_range] at e
    rw [List.length_range] at l
    cases h
    exact ⟨l, by rw [e]⟩
theorem pow_mono {a b : Nat} (h : a ≤ b) : (2 : Nat) ^ a ≤ 2 ^ b := Nat.pow_le_pow_right (by decide) h
theorem imul_ok {i j : Int} (h1 : i.natAbs < 2 ^ 5000) (h2 : j.natAbs < 2 ^ 5000) : imul i j = some (i * j) := by
  unfold imul
  exact if_pos ⟨Nat.lt_of_lt_of_le h1 (pow_mono (by decide)), Nat.lt_of_lt_of_le h2 (pow_mono (by decide))⟩
theorem ifdiv_ok {i j : Int} (h1 : 0 < j) (h2 : j.natAbs < 2 ^ 5000) : ifdiv i j = some (i / j) := by
  unfold ifdiv
  exact if_pos ⟨h1, Nat.lt_of_lt_of_le h2 (pow_mono (by decide))⟩
theorem imod_ok {i j : Int} (h1 : 0 < j) : imod i j = some (i % j) := by
  unfold imod
  exact if_pos h1
theorem app_ok {α : Type} {xs : List α} {x : α} (h : xs.length < 10000000) : app xs x = some (xs ++ [x]) := by
  unfold app
  exact if_pos (by rw [sizeLine_eq]; omega)
theorem cat_ok {α : Type} {xs ys : List α} (h : xs.length + ys.length ≤ 10000000) : cat xs ys = some (xs ++ ys) := by
  unfold cat
  exact if_pos (by rw [sizeLine_eq]; omega)
theorem more_ok {α : Type} {xs : List α} (h : xs.length < 10000000) : more xs = some () := by
  unfold more
  exact if_pos (by rw [sizeLine_eq]; omega)
theorem atI_last {α : Type} {xs : List α} {x : α} (h : xs.getLast? = some x) : atI xs (-(1 : Int)) = some x := by
  unfold L2.atI L2.ixN
  have hne : 0 < xs.length := by
    cases xs with
    | nil => cases h
    | cons a b => exact Nat.succ_pos _
  rw [if_neg (by decide), if_pos (by omega)]
  rw [List.getLast?_eq_getElem?] at h
  show xs[(-(1 : Int) + xs.length).toNat]? = some x
  have e : (-(1 : Int) + xs.length).toNat = xs.length - 1 := by omega
  rw [e]
  exact h
theorem atI_nat' {α : Type} {xs : List α} {i : Nat} {x : α} (h : xs[i]? = some x) : atI xs (i : Int) = some x := by
  unfold L2.atI L2.ixN
  have l := (List.getElem?_eq_some_iff.mp h).1
  rw [if_pos (by omega), if_pos (by omega)]
  show xs[(i : Int).toNat]? = some x
  rw [Int.toNat_natCast]
  exact h
theorem mapO_ok {α β : Type} {f : α → Option (Option β)} {g : α → β} : ∀ {xs : List α}, (∀ x ∈ xs, f x = some (some (g x))) → mapO f xs = some (xs.map g)
  | [], _ => rfl
  | x :: xs, h => by
    unfold mapO
    rw [h x List.mem_cons_self, mapO_ok (g := g) fun y hy => h y (List.mem_cons_of_mem _ hy)]
    rfl
theorem mapO_filter {α β : Type} {f : α → Option (Option β)} {c : α → Bool} {g : α → β} : ∀ {xs : List α}, (∀ x ∈ xs, f x = if c x then some (some (g x)) else some none) → mapO f xs = some ((xs.filter c).map g)
  | [], _ => rfl
  | x :: xs, h => by
    unfold mapO
    rw [h x List.mem_cons_self, mapO_filter (c := c) (g := g) fun y hy => h y (List.mem_cons_of_mem _ hy)]
    cases e : c x with
    | true => rw [List.filter_cons_of_pos e]; rfl
    | false => rw [List.filter_cons_of_neg (by rw [e]; decide)]; rfl
theorem lenOk_ok {m : Res Int} {n : Nat} (h : m = .ok (n : Int)) (hn : n < 2 ^ 62) (f : Res Int → Option Int) (hf : ∀ m : Res Int, ∀ k : Int, m = .ok k → 0 ≤ k → k < 2 ^ 63 → f m = some k) : f m = some (n : Int) := hf m n h (by omega) (by omega)
end Pl
namespace Pl
open PySem L2 Lf
theorem req_go {α β : Type} {o : Option α} {x : α} {k : α → Res β} {r : Res β} (h : o = some x) (e : k x = r) : Res.req o k = r := by
  rw [h]
  exact e
theorem reqv {α β : Type} {m : Res α} {x : α} {k : α → Res β} {r : Res β} (h : m = .ok x) (e : k x = r) : Res.req (Res.val m) k = r := by
  rw [h]
  exact e
theorem bind_go {α β : Type} {m : Res α} {x : α} {k : α → Res β} {r : Res β} (h : m = .ok x) (e : k x = r) : Res.bind m k = r := by
  rw [h]
  exact e
theorem fold_bind {α S X : Type} {f : S → α → Res S} {k : S → Res X} {xs : List α} {s0 : S} {r : Res X} (P : Nat → S → Prop) (h0 : P 0 s0) (hs : ∀ (i : Nat) (x : α) (s : S), xs[i]? = some x → P i s → ∃ s', f s x = .ok s' ∧ P (i + 1) s') (hk : ∀ s, P xs.length s → k s = r) : Res.bind (Res.fold f xs s0) k = r := by
  obtain ⟨s, e, h⟩ := fold_inv P h0 hs
  rw [e]
  exact hk s h
theorem loop_after {α S R X : Type} {f : S → α → Res (Ctl S R)} {k : S → Res X} {kr : R → Res X} {xs : List α} {s0 : S} {r : Res X} (P : Nat → S → Prop) (h0 : P 0 s0) (hs : ∀ (i : Nat) (x : α) (s : S), xs[i]? = some x → P i s → ∃ s', f s x = .ok (.nx s') ∧ P (i + 1) s') (hk : ∀ s, P xs.length s → k s = r) : Res.after (Res.loop f xs s0) k kr = r := by
  obtain ⟨s, e, h⟩ := loop_inv P h0 hs
  rw [e]
  exact hk s h
theorem loop_end {α S R X : Type} {f : S → α → Res (Ctl S R)} {k : S → Res X} {kr : R → Res X} {xs : List α} {s0 : S} {Q : X → Prop} (P : Nat → S → Prop) (h0 : P 0 s0) (hs : ∀ (i : Nat) (x : α) (s : S), xs[i]? = some x → P i s → ∃ s', f s x = .ok (.nx s') ∧ P (i + 1) s') (hk : ∀ s, P xs.length s → ∃ r, k s = .ok r ∧ Q r) : ∃ r, Res.after (Res.loop f xs s0) k kr = .ok r ∧ Q r := by
  obtain ⟨s, e, h⟩ := loop_inv P h0 hs
  rw [e]
  exact hk s h
theorem if_neg' {α : Type} {c : Bool} {x y z : α} (h : c = false) (e : y = z) : (if c = true then x else y) = z := by
  rw [h]
  exact e
theorem if_pos' {α : Type} {c : Bool} {x y z : α} (h : c = true) (e : x = z) : (if c = true then x else y) = z := by
  rw [h]
  exact e
section
variable {κ α : Type} [DecidableEq κ]
theorem find_map {l : List (κ × α)} {f : κ × α → κ × α} (hf : ∀ p, (f p).1 = p.1) (z : κ) : ((l.map f).find? fun p => decide (p.1 = z)) = (l.find? fun p => decide (p.1 = z)).map f := by
  induction l with
  | nil => rfl
  | cons p l ih =>
    rw [List.map_cons, List.find?_cons, List.find?_cons, hf]
    cases decide (p.1 = z) with
    | true => rfl
    | false => exact ih
theorem putL_get (l : List (κ × α)) (k z : κ) (x : α) : ((putL l k x).find? fun p => decide (p.1 = z)).map (·.2) = if z = k then some x else (l.find? fun p => decide (p.1 = z)).map (·.2) := by
  unfold putL
  by_cases h : (l.any fun p => decide (p.1 = k)) = true
  · rw [if_pos h]
    rw [find_map (f := fun p => if p.1 = k then (p.1, x) else p) (fun p => by split <;> rfl)]
    obtain ⟨p, hp, hk⟩ := List.any_eq_true.mp h
    by_cases e : z = k
    · rw [if_pos e]
      subst e
      cases q : l.find? fun p => decide (p.1 = z) with
      | none =>
        have := List.find?_eq_none.mp q p hp
        exact absurd hk this
      | some r =>
        have := List.find?_some q
        show some (if r.1 = z then (r.1, x) else r).2 = _
        rw [if_pos (of_decide_eq_true this)]
    · rw [if_neg e]
      cases q : l.find? fun p => decide (p.1 = z) with
      | none => rfl
      | some r =>
        have q2 := List.find?_some q
        have := of_decide_eq_true q2
        show some (if r.1 = k then (r.1, x) else r).2 = some r.2
        rw [if_neg (fun c => e (this.symm.trans c))]
  · rw [if_neg h, List.find?_append]
    have no : ∀ p ∈ l, p.1 ≠ k := fun p hp c => h (List.any_eq_true.mpr ⟨p, hp, decide_eq_true c⟩)
    by_cases e : z = k
    · rw [if_pos e]
      subst e
      have : l.find? (fun p => decide (p.1 = z)) = none := List.find?_eq_none.mpr fun p hp => by
        simpa using no p hp
      rw [this, List.find?_cons, decide_eq_true rfl]
      rfl
    · rw [if_neg e]
      have : ([(k, x)] : List (κ × α)).find? (fun p => decide (p.1 = z)) = none := by
        rw [List.find?_cons, decide_eq_false (fun c => e c.symm)]
        rfl
      rw [this, Option.or_none]
theorem get_mem {l : List (κ × α)} {z : κ} : z ∈ l.map (·.1) ↔ ((l.find? fun p => decide (p.1 = z)).map (·.2)).isSome = true := by
  rw [Option.isSome_map]
  constructor
  · intro h
    obtain ⟨p, hp, e⟩ := List.mem_map.mp h
    rw [List.find?_isSome]
    exact ⟨p, hp, decide_eq_true e⟩
  · intro h
    rw [List.find?_isSome] at h
    obtain ⟨p, hp, e⟩ := h
    exact List.mem_map.mpr ⟨p, hp, of_decide_eq_true e⟩
end
end Pl

namespace Pl
open PySem L2 Lf
theorem putL_nodup {κ α : Type} [DecidableEq κ] {l : List (κ × α)} {k : κ} {x : α} (u : (l.map (·.1)).Nodup) : ((putL l k x).map (·.1)).Nodup := by
  unfold putL
  by_cases h : (l.any fun p => decide (p.1 = k)) = true
  · rw [if_pos h, List.map_map]
    have : (l.map ((fun x => x.1) ∘ fun p => if p.1 = k then (p.1, x) else p)) = l.map (·.1) := List.map_congr_left fun p _ => by
      show (if p.1 = k then (p.1, x) else p).1 = p.1
      split <;> rfl
    rw [this]
    exact u
  · rw [if_neg h, List.map_append]
    refine List.nodup_append.mpr ⟨u, by simp, fun a ha b hb => ?_⟩
    rw [List.mem_singleton.mp hb]
    rintro rfl
    obtain ⟨p, hp, e⟩ := List.mem_map.mp ha
    exact h (List.any_eq_true.mpr ⟨p, hp, decide_eq_true e⟩)
end Pl
/-! ## Rolls, strips: the mathematics -/
namespace Pm
open PySem
/-- the sum of the first i worths -/
def pre (ws : List Int) (i : Nat) : Int := (ws.take i).sum
/-- what __init__ stores as firsts -/
def firsts (ws : List Int) : List Int := (List.range (ws.length + 1)).map (pre ws)
theorem firsts_len (ws : List Int) : (firsts ws).length = ws.length + 1 := by simp [firsts]
theorem firsts_at {ws : List Int} {i : Nat} (h : i ≤ ws.length) : (firsts ws)[i]? = some (pre ws i) := by
  unfold firsts
  rw [List.getElem?_map, List.getElem?_range (by omega)]
  rfl
theorem firsts_last (ws : List Int) : (firsts ws).getLast? = some ws.sum := by
  rw [List.getLast?_eq_getElem?, firsts_len, Nat.add_sub_cancel, firsts_at (Nat.le_refl _)]
  show some ((ws.take ws.length).sum) = _
  rw [List.take_length]
/-- the sum of the first n stamps of the roll -/
def upto (ws : List Int) (n : Nat) : Int := ((n / ws.length : Nat) : Int) * ws.sum + pre ws (n % ws.length)
/-- the row torn at n -/
def tornL (ws : List Int) (n : Nat) : List Int := ws.drop (n % ws.length) ++ ws.take (n % ws.length)
theorem tornL_len (ws : List Int) (n : Nat) : (tornL ws n).length = ws.length := by
  unfold tornL
  rw [List.length_append, List.length_drop, List.length_take]
  omega
/-- a row that a roll may be made of -/
structure Row (ws : List Int) : Prop where
  ne : ws ≠ []
  pos : ∀ z ∈ ws, 1 ≤ z
  big : ∀ z ∈ ws, z < 2 ^ 200
  len : ws.length ≤ 1000
theorem Row.n0 {ws : List Int} (r : Row ws) : 0 < ws.length := List.length_pos_iff.mpr r.ne
theorem Row.torn {ws : List Int} (r : Row ws) (n : Nat) : Row (tornL ws n) where
  ne := fun e => by
    have := tornL_len ws n
    rw [e] at this
    have := r.n0
    simp at *
    omega
  pos := fun z h => by
    unfold tornL at h
    rcases List.mem_append.mp h with h | h
    · exact r.pos z (List.mem_of_mem_drop h)
    · exact r.pos z (List.mem_of_mem_take h)
  big := fun z h => by
    unfold tornL at h
    rcases List.mem_append.mp h with h | h
    · exact r.big z (List.mem_of_mem_drop h)
    · exact r.big z (List.mem_of_mem_take h)
  len := by rw [tornL_len]; exact r.len
theorem Row.rev {ws : List Int} (r : Row ws) : Row ws.reverse where
  ne := fun e => r.ne (List.reverse_eq_nil_iff.mp e)
  pos := fun z h => r.pos z (List.mem_reverse.mp h)
  big := fun z h => r.big z (List.mem_reverse.mp h)
  len := by rw [List.length_reverse]; exact r.len
theorem sum_lt {b : Int} : ∀ ws : List Int, (∀ z ∈ ws, 1 ≤ z) → (∀ z ∈ ws, z < b) → 0 ≤ ws.sum ∧ ws.sum ≤ ws.length * b
  | [], _, _ => by simp
  | z :: r, h1, h2 => by
    have ⟨a, c⟩ := sum_lt r (fun y hy => h1 y (List.mem_cons_of_mem _ hy)) fun y hy => h2 y (List.mem_cons_of_mem _ hy)
    have e1 := h1 z List.mem_cons_self
    have e2 := h2 z List.mem_cons_self
    rw [List.sum_cons, List.length_cons, Int.natCast_add, Int.add_mul]
    constructor
    · omega
    · show z + r.sum ≤ (r.length : Int) * b + ((1 : Nat) : Int) * b
      omega
theorem Row.sum0 {ws : List Int} (r : Row ws) : 1 ≤ ws.sum := by
  obtain ⟨ne, pos, _, _⟩ := r
  cases ws with
  | nil => exact absurd rfl ne
  | cons z t =>
    have := (sum_lt (b := 1 + (z :: t).foldl max 0) t (fun y hy => pos y (List.mem_cons_of_mem _ hy)))
    rw [List.sum_cons]
    have e1 := pos z List.mem_cons_self
    have e2 : 0 ≤ t.sum := by
      clear this
      have : ∀ l : List Int, (∀ y ∈ l, 1 ≤ y) → 0 ≤ l.sum := by
        intro l
        induction l with
        | nil => intro _; simp
        | cons a l ih =>
          intro h
          rw [List.sum_cons]
          have := h a List.mem_cons_self
          have := ih fun y hy => h y (List.mem_cons_of_mem _ hy)
          omega
      exact this t fun y hy => pos y (List.mem_cons_of_mem _ hy)
    omega
theorem Row.sumB {ws : List Int} (r : Row ws) : ws.sum < 2 ^ 210 := by
  have h := (sum_lt (b := 2 ^ 200) ws r.pos r.big).2
  have l := r.len
  have : (ws.length : Int) * 2 ^ 200 ≤ 1000 * 2 ^ 200 := Int.mul_le_mul_of_nonneg_right (by omega) (by decide)
  have e : (1000 : Int) * 2 ^ 200 < 2 ^ 210 := by decide
  omega
/-! ### a Roll at p -/
theorem pre_next {ws : List Int} {i : Nat} {z : Int} (h : ws[i]? = some z) : pre ws (i + 1) = pre ws i + z := by
  unfold pre
  rw [List.take_add_one, h, List.sum_append]
  simp
theorem upto_b {ws : List Int} (R : Row ws) {n : Nat} (h : n < 2 ^ 200) : (((n : Int) / (ws.length : Int))).natAbs < 2 ^ 200 := by
  have n0 := R.n0
  have e : ((n : Int) / (ws.length : Int)) = ((n / ws.length : Nat) : Int) := rfl
  rw [e, Int.natAbs_natCast]
  exact Nat.lt_of_le_of_lt (Nat.div_le_self _ _) h
theorem mod0 {x L : Nat} (h : x < L) : x % L = x := Nat.mod_eq_of_lt h
theorem mod1 {x L : Nat} (h1 : L ≤ x) (h2 : x < L + L) : x % L = x - L := by
  rw [Nat.mod_eq_sub_mod h1, Nat.mod_eq_of_lt (by omega)]
/-- the n-th stamp of the roll -/
def st (ws : List Int) (n : Nat) : Int := ws[n % ws.length]?.getD 0
/-- the sum of the first n of f -/
def up (f : Nat → Int) : Nat → Int
  | 0 => 0
  | n + 1 => up f n + f n
theorem up_add (f : Nat → Int) (n : Nat) : ∀ m, up f (n + m) = up f n + up (fun k => f (n + k)) m
  | 0 => by simp [up]
  | m + 1 => by
    show up f (n + m) + f (n + m) = up f n + (up (fun k => f (n + k)) m + f (n + m))
    rw [up_add f n m, Int.add_assoc]
theorem up_congr {f g : Nat → Int} : ∀ {n : Nat}, (∀ k, k < n → f k = g k) → up f n = up g n
  | 0, _ => rfl
  | n + 1, h => by
    show up f n + f n = up g n + g n
    rw [up_congr (n := n) (fun k hk => h k (by omega)), h n (by omega)]
theorem up_head (f : Nat → Int) : ∀ n, up f (n + 1) = f 0 + up (fun k => f (k + 1)) n
  | 0 => by simp [up]
  | n + 1 => by
    show up f (n + 1) + f (n + 1) = f 0 + (up (fun k => f (k + 1)) n + f (n + 1))
    rw [up_head f n, Int.add_assoc]
theorem up_rev {f g : Nat → Int} : ∀ {n : Nat}, (∀ k, k < n → f k = g (n - 1 - k)) → up f n = up g n
  | 0, _ => rfl
  | n + 1, h => by
    rw [up_head f n]
    show f 0 + up (fun k => f (k + 1)) n = up g n + g n
    rw [up_rev (f := fun k => f (k + 1)) (g := g) (n := n) (fun k hk => by
      show f (k + 1) = _
      rw [h (k + 1) (by omega)]
      congr 1
      omega), h 0 (by omega), Int.add_comm]
    congr 2
theorem upto_zero (ws : List Int) : upto ws 0 = 0 := by
  unfold upto pre
  simp
theorem sum_take_all {ws : List Int} {i : Nat} (h : i + 1 = ws.length) {z : Int} (hz : ws[i]? = some z) : pre ws i + z = ws.sum := by
  have := pre_next hz
  rw [← this]
  unfold pre
  rw [h, List.take_length]
theorem upto_succ {ws : List Int} (n0 : 0 < ws.length) (n : Nat) : upto ws (n + 1) = upto ws n + st ws n := by
  have lt := Nat.mod_lt n n0
  obtain ⟨z, hz⟩ : ∃ z, ws[n % ws.length]? = some z := ⟨_, List.getElem?_eq_getElem lt⟩
  have es : st ws n = z := by
    unfold st
    rw [hz]
    rfl
  rw [es]
  have dm := Nat.div_add_mod n ws.length
  unfold upto
  by_cases h : n % ws.length + 1 < ws.length
  · have e1 : (n + 1) / ws.length = n / ws.length := by
      rw [Nat.div_eq_of_lt_le]
      · rw [Nat.mul_comm]
        omega
      · rw [Nat.succ_mul, Nat.mul_comm]
        omega
    have e2 : (n + 1) % ws.length = n % ws.length + 1 := by
      have := Nat.div_add_mod (n + 1) ws.length
      rw [e1] at this
      omega
    rw [e1, e2, pre_next hz, Int.add_assoc]
  · have e : n % ws.length + 1 = ws.length := by omega
    have e1 : (n + 1) / ws.length = n / ws.length + 1 := by
      rw [Nat.div_eq_of_lt_le]
      · rw [Nat.succ_mul, Nat.mul_comm]
        omega
      · rw [Nat.succ_mul, Nat.succ_mul, Nat.mul_comm]
        omega
    have e2 : (n + 1) % ws.length = 0 := by
      have := Nat.div_add_mod (n + 1) ws.length
      rw [e1, Nat.mul_add] at this
      omega
    rw [e1, e2, ← sum_take_all e hz]
    unfold pre
    rw [List.take_zero, List.sum_nil, Int.natCast_add, Int.add_mul]
    simp only [Int.natCast_one, Int.one_mul, Int.add_zero]
    omega
theorem upto_up {ws : List Int} (n0 : 0 < ws.length) : ∀ n, upto ws n = up (st ws) n
  | 0 => upto_zero ws
  | n + 1 => by rw [upto_succ n0, upto_up n0 n]; rfl
/-- the sum of m stamps from the n-th -/
def win (ws : List Int) (n m : Nat) : Int := upto ws (n + m) - upto ws n
theorem win_up {ws : List Int} (n0 : 0 < ws.length) (n m : Nat) : win ws n m = up (fun k => st ws (n + k)) m := by
  unfold win
  rw [upto_up n0, upto_up n0, up_add]
  omega
theorem win_add (ws : List Int) (n m k : Nat) : win ws n m + win ws (n + m) k = win ws n (m + k) := by
  unfold win
  rw [Nat.add_assoc]
  omega
theorem win_lap {ws : List Int} (n0 : 0 < ws.length) (n m : Nat) : win ws n (m + ws.length) = win ws n m + ws.sum := by
  have e : upto ws (n + (m + ws.length)) = upto ws (n + m) + ws.sum := by
    rw [← Nat.add_assoc]
    unfold upto
    rw [Nat.add_mod_right, Nat.add_div_right _ n0]
    show (((n + m) / ws.length + 1 : Nat) : Int) * ws.sum + _ = _
    rw [Int.natCast_add, Int.add_mul, Int.natCast_one, Int.one_mul]
    omega
  unfold win
  rw [e]
  omega
theorem torn_at {ws : List Int} (n : Nat) {i : Nat} (h : i < ws.length) : (tornL ws n)[i]? = ws[(n + i) % ws.length]? := by
  have n0 : 0 < ws.length := by omega
  have c := Nat.mod_lt n n0
  have e : (n + i) % ws.length = (n % ws.length + i) % ws.length := by rw [Nat.mod_add_mod]
  rw [e]
  unfold tornL
  generalize n % ws.length = q at c
  by_cases hi : i < ws.length - q
  · rw [List.getElem?_append_left (by rw [List.length_drop]; exact hi), List.getElem?_drop, mod0 (x := q + i) (by omega)]
  · rw [List.getElem?_append_right (by rw [List.length_drop]; omega), List.length_drop, List.getElem?_take_of_lt (by omega), mod1 (x := q + i) (by omega) (by omega)]
    congr 1
    omega
theorem st_torn {ws : List Int} (n0 : 0 < ws.length) (n k : Nat) : st (tornL ws n) k = st ws (n + k) := by
  unfold st
  rw [tornL_len, torn_at n (Nat.mod_lt _ n0), Nat.add_mod_mod]
theorem win_torn {ws : List Int} (n0 : 0 < ws.length) (s n m : Nat) : win (tornL ws s) n m = win ws (s + n) m := by
  rw [win_up (by rw [tornL_len]; exact n0), win_up n0]
  refine up_congr fun k _ => ?_
  show st (tornL ws s) (n + k) = st ws (s + n + k)
  rw [st_torn n0, Nat.add_assoc]
theorem torn_torn {ws : List Int} (s t : Nat) : tornL (tornL ws s) t = tornL ws (s + t) := by
  apply List.ext_getElem?
  intro i
  by_cases h : i < ws.length
  · have n0 : 0 < ws.length := by omega
    rw [torn_at t (by rw [tornL_len]; exact h), tornL_len, torn_at s (Nat.mod_lt _ n0), torn_at _ h, Nat.add_mod_mod, Nat.add_assoc]
  · rw [List.getElem?_eq_none (by rw [tornL_len, tornL_len]; omega), List.getElem?_eq_none (by rw [tornL_len]; omega)]
theorem torn_rev {ws : List Int} (s : Nat) : (tornL ws s).reverse = tornL ws.reverse (ws.length - s % ws.length) := by
  apply List.ext_getElem?
  intro i
  by_cases h : i < ws.length
  · have n0 : 0 < ws.length := by omega
    have c := Nat.mod_lt s n0
    rw [List.getElem?_reverse (by rw [tornL_len]; exact h), tornL_len, torn_at _ (by omega), torn_at _ (by rw [List.length_reverse]; exact h), List.length_reverse, List.getElem?_reverse (Nat.mod_lt _ n0)]
    have e : (s + (ws.length - 1 - i)) % ws.length = (s % ws.length + (ws.length - 1 - i)) % ws.length := by rw [Nat.mod_add_mod]
    rw [e]
    congr 1
    generalize s % ws.length = q at c
    by_cases hi : i < q
    · rw [mod1 (x := q + (ws.length - 1 - i)) (by omega) (by omega), mod0 (x := ws.length - q + i) (by omega)]
      omega
    · rw [mod0 (x := q + (ws.length - 1 - i)) (by omega), mod1 (x := ws.length - q + i) (by omega) (by omega)]
      omega
  · rw [List.getElem?_eq_none (by rw [List.length_reverse, tornL_len]; omega), List.getElem?_eq_none (by rw [tornL_len, List.length_reverse]; omega)]
theorem st_rev {ws : List Int} (n0 : 0 < ws.length) (k : Nat) : st ws.reverse k = st ws (ws.length - 1 - k % ws.length) := by
  have c := Nat.mod_lt k n0
  unfold st
  rw [List.length_reverse, List.getElem?_reverse c, mod0 (x := ws.length - 1 - k % ws.length) (by omega)]
theorem win_back {ws : List Int} (n0 : 0 < ws.length) {low t : Nat} (hl : low < ws.length) (ht : t < 50) : win ws.reverse (ws.length - low) t = win ws ((low + 50 * ws.length - t) % ws.length) t := by
  rw [win_up (by rw [List.length_reverse]; exact n0), win_up n0]
  refine up_rev fun k hk => ?_
  show st ws.reverse (ws.length - low + k) = st ws ((low + 50 * ws.length - t) % ws.length + (t - 1 - k))
  rw [st_rev n0]
  have hb : 50 ≤ 50 * ws.length := by omega
  have e1 : st ws ((low + 50 * ws.length - t) % ws.length + (t - 1 - k)) = st ws (low + 50 * ws.length - 1 - k) := by
    unfold st
    rw [Nat.mod_add_mod]
    congr 3
    omega
  rw [e1]
  have c := Nat.mod_lt (ws.length - low + k) n0
  have dm := Nat.div_add_mod (ws.length - low + k) ws.length
  -- the quotient q: L q + r = L - low + k
  have hq : (ws.length - low + k) / ws.length ≤ 51 := by
    rw [Nat.div_le_iff_le_mul_add_pred n0]
    omega
  unfold st
  congr 2
  have key : low + 50 * ws.length - 1 - k = (ws.length - 1 - (ws.length - low + k) % ws.length) + (50 - (ws.length - low + k) / ws.length) * ws.length ∨ (ws.length - low + k) / ws.length = 51 := by
    by_cases h51 : (ws.length - low + k) / ws.length = 51
    · exact .inr h51
    · left
      have h50 : (ws.length - low + k) / ws.length ≤ 50 := by omega
      generalize (ws.length - low + k) / ws.length = q at dm h50
      generalize (ws.length - low + k) % ws.length = r at dm c ⊢
      rw [Nat.sub_mul]
      have : ws.length * q = q * ws.length := Nat.mul_comm _ _
      have : q * ws.length ≤ 50 * ws.length := Nat.mul_le_mul_right _ h50
      omega
  rcases key with e | e
  · rw [e, Nat.add_mul_mod_self_right]
  · rw [e] at dm
    omega
def Turned (a b : List Int) : Prop := ∃ u v, a = u ++ v ∧ b = v ++ u
theorem Turned.refl (a : List Int) : Turned a a := ⟨[], a, rfl, by simp⟩
theorem Turned.symm {a b : List Int} (h : Turned a b) : Turned b a := by
  obtain ⟨u, v, e1, e2⟩ := h
  exact ⟨v, u, e2, e1⟩
theorem Turned.trans {a b c : List Int} (h1 : Turned a b) (h2 : Turned b c) : Turned a c := by
  obtain ⟨u, v, rfl, rfl⟩ := h1
  obtain ⟨s, t, e, rfl⟩ := h2
  rcases List.append_eq_append_iff.mp e with ⟨w, e1, e2⟩ | ⟨w, e1, e2⟩
  · subst e1 e2
    exact ⟨w, t ++ v, by simp, by simp⟩
  · subst e1 e2
    exact ⟨u ++ s, w, by simp, by simp⟩
theorem Turned.rev {a b : List Int} (h : Turned a b) : Turned a.reverse b.reverse := by
  obtain ⟨u, v, rfl, rfl⟩ := h
  exact ⟨v.reverse, u.reverse, by simp, by simp⟩
theorem Turned.torn (ws : List Int) (n : Nat) : Turned ws (tornL ws n) := ⟨ws.take (n % ws.length), ws.drop (n % ws.length), (List.take_append_drop _ _).symm, rfl⟩
theorem Turned.sum {a b : List Int} (h : Turned a b) : b.sum = a.sum := by
  obtain ⟨u, v, rfl, rfl⟩ := h
  rw [List.sum_append, List.sum_append, Int.add_comm]
theorem Turned.len {a b : List Int} (h : Turned a b) : b.length = a.length := by
  obtain ⟨u, v, rfl, rfl⟩ := h
  rw [List.length_append, List.length_append, Nat.add_comm]
theorem Turned.mem {a b : List Int} (h : Turned a b) {z : Int} : z ∈ b ↔ z ∈ a := by
  obtain ⟨u, v, rfl, rfl⟩ := h
  rw [List.mem_append, List.mem_append, Or.comm]
/-- b is a turned a, or a turned mirrored a -/
def Form (a b : List Int) : Prop := Turned a b ∨ Turned a.reverse b
theorem Form.of_turned {a b c : List Int} (h : Turned a b) (f : Form b c) : Form a c := by
  rcases f with f | f
  · exact .inl (h.trans f)
  · exact .inr (h.rev.trans f)
theorem Form.of_rev {a c : List Int} (f : Form a.reverse c) : Form a c := by
  rcases f with f | f
  · exact .inr f
  · rw [List.reverse_reverse] at f
    exact .inl f
theorem Form.trans {a b c : List Int} (h : Form a b) (f : Form b c) : Form a c := by
  rcases h with h | h
  · exact .of_turned h f
  · exact .of_rev (.of_turned h f)
theorem Form.symm {a b : List Int} (h : Form a b) : Form b a := by
  rcases h with h | h
  · exact .inl h.symm
  · have := h.symm.rev
    rw [List.reverse_reverse] at this
    exact .inr this
theorem Form.refl (a : List Int) : Form a a := .inl (Turned.refl a)
theorem Form.mirror (a : List Int) : Form a a.reverse := .inr (Turned.refl _)
theorem sum_reverse : ∀ a : List Int, a.reverse.sum = a.sum
  | [] => rfl
  | x :: a => by
    rw [List.reverse_cons, List.sum_append, sum_reverse a, List.sum_cons, List.sum_cons, List.sum_nil]
    omega
theorem Form.sum {a b : List Int} (h : Form a b) : b.sum = a.sum := by
  rcases h with h | h
  · exact h.sum
  · rw [h.sum, sum_reverse]
theorem Form.len {a b : List Int} (h : Form a b) : b.length = a.length := by
  rcases h with h | h
  · exact h.len
  · rw [h.len, List.length_reverse]
theorem Form.row {a b : List Int} (h : Form a b) (r : Row a) : Row b := by
  have m : ∀ z, z ∈ b → z ∈ a := fun z hz => by
    rcases h with h | h
    · exact h.mem.mp hz
    · exact List.mem_reverse.mp (h.mem.mp hz)
  refine ⟨fun e => ?_, fun z hz => r.pos z (m z hz), fun z hz => r.big z (m z hz), by rw [h.len]; exact r.len⟩
  have l := h.len
  have := r.n0
  rw [e] at l
  simp at l
  omega
/-- the least of the forms -/
def Least (a m : List Int) : Prop := Form a m ∧ ∀ y, Form a y → m ≤ y
theorem Least.same {a b m n : List Int} (f : Form a b) (h1 : Least a m) (h2 : Least b n) : m = n := by
  have x := h1.2 n (f.trans h2.1)
  have y := h2.2 m (f.symm.trans h1.1)
  exact List.le_antisymm x y
def fm (ws : List Int) (i : Nat) : List Int := ws.drop i ++ ws.take i
def formsL (ws : List Int) : List (List Int) := (List.range ws.length).map (fm ws)
theorem mem_formsL {ws y : List Int} (h : ws ≠ []) : y ∈ formsL ws ↔ Turned ws y := by
  unfold formsL
  rw [List.mem_map]
  constructor
  · rintro ⟨i, _, rfl⟩
    exact ⟨ws.take i, ws.drop i, (List.take_append_drop _ _).symm, rfl⟩
  · rintro ⟨u, v, rfl, rfl⟩
    by_cases e : v = []
    · subst e
      refine ⟨0, ?_, by simp [fm]⟩
      rw [List.mem_range]
      exact List.length_pos_iff.mpr h
    · refine ⟨u.length, ?_, by simp [fm]⟩
      rw [List.mem_range, List.length_append]
      have := List.length_pos_iff.mpr e
      omega
/-- the list of all forms, as the loop makes it -/
def formsUp (ws : List Int) : Nat → List (List Int)
  | 0 => []
  | 1 => formsL ws
  | _ => formsL ws ++ formsL ws.reverse
theorem mem_forms {ws y : List Int} (h : ws ≠ []) : y ∈ formsUp ws 2 ↔ Form ws y := by
  show y ∈ formsL ws ++ formsL ws.reverse ↔ _
  rw [List.mem_append, mem_formsL h, mem_formsL (fun e => h (List.reverse_eq_nil_iff.mp e))]
  exact Iff.rfl
theorem formsL_len (ws : List Int) : (formsL ws).length = ws.length := by simp [formsL]
theorem formsL_snoc (ws : List Int) (i : Nat) : (List.range (i + 1)).map (fm ws) = (List.range i).map (fm ws) ++ [fm ws i] := by
  rw [List.range_succ, List.map_append]
  rfl
theorem win_laps {ws : List Int} (n0 : 0 < ws.length) (n r : Nat) : ∀ q, win ws n (r + ws.length * q) = win ws n r + q * ws.sum
  | 0 => by simp
  | q + 1 => by
    rw [Nat.mul_add, Nat.mul_one, ← Nat.add_assoc, win_lap n0, win_laps n0 n r q, Int.natCast_add, Int.add_mul]
    simp only [Int.natCast_one, Int.one_mul]
    omega
theorem st_at {ws : List Int} (n0 : 0 < ws.length) (k : Nat) : ws[k % ws.length]? = some (st ws k) := by
  unfold st
  rw [List.getElem?_eq_getElem (Nat.mod_lt _ n0)]
  rfl
/-- of these strips, those with the sum z -/
def fits (ws : List Int) (z : Int) (ps : List (Nat × Nat)) : List (Nat × Nat) := ps.filter fun p => decide (win ws p.1 p.2 = z)
/-- the strips gone through: r whole rows of lengths, then n of the next -/
def gone (L : Nat) (r n : Nat) : List (Nat × Nat) := ((List.range r).flatMap fun s => (List.range L).map fun l => (s, l + 1)) ++ (List.range n).map fun l => (r, l + 1)
theorem gone_next (L r n : Nat) : gone L r (n + 1) = gone L r n ++ [(r, n + 1)] := by
  unfold gone
  rw [List.range_succ (n := n), List.map_append, List.append_assoc]
  rfl
theorem gone_row (L r : Nat) : gone L (r + 1) 0 = gone L r L := by
  unfold gone
  rw [List.range_succ, List.flatMap_append]
  simp
theorem gone_len (L r n : Nat) : (gone L r n).length = r * L + n := by
  unfold gone
  rw [List.length_append, List.length_map, List.length_range]
  congr 1
  induction r with
  | zero => simp
  | succ r ih =>
    rw [List.range_succ, List.flatMap_append, List.length_append, ih, Nat.succ_mul]
    simp
theorem fits_snoc (ws : List Int) (z : Int) (ps : List (Nat × Nat)) (p : Nat × Nat) : fits ws z (ps ++ [p]) = if z = win ws p.1 p.2 then fits ws z ps ++ [p] else fits ws z ps := by
  unfold fits
  rw [List.filter_append]
  by_cases h : z = win ws p.1 p.2
  · rw [if_pos h, h]
    simp
  · rw [if_neg h]
    simp [Ne.symm h]
/-- the strips of the amount n -/
def lapsOf (ws : List Int) (n : Nat) : Nat := (n - 1) / ws.sum.toNat
def stripsL (ws : List Int) (n : Nat) : List (Nat × Nat) := (fits ws ((n : Int) - lapsOf ws n * ws.sum) (gone ws.length ws.length 0)).map fun p => (p.1, p.2 + lapsOf ws n * ws.length)
theorem take_map_snoc {α β : Type} {f : α → β} {l : List α} {i : Nat} {x : α} (h : l[i]? = some x) : (l.take (i + 1)).map f = (l.take i).map f ++ [f x] := by
  rw [List.take_add_one, h, List.map_append]
  rfl
def dueLaps (ws : List Int) (n : Nat) : Nat := n / ws.sum.toNat - 1
def dueL (ws : List Int) (n : Nat) : List (Nat × Nat) := (fits ws ((n : Int) - dueLaps ws n * ws.sum) (gone (3 * ws.length) ws.length 0)).map fun p => (p.1, p.2 + dueLaps ws n * ws.length)
theorem filter_one {N x : Nat} {p : Nat → Bool} (h : x < N) (hp : p x = true) (u : ∀ y, y < N → p y = true → y = x) : (List.range N).filter p = [x] := by
  induction N with
  | zero => omega
  | succ N ih =>
    rw [List.range_succ, List.filter_append]
    by_cases e : x = N
    · subst e
      have z : (List.range x).filter p = [] := by
        rw [List.filter_eq_nil_iff]
        intro y hy hpy
        have l := List.mem_range.mp hy
        have := u y (by omega) hpy
        omega
      rw [z]
      simp [hp]
    · have z : p N = false := by
        cases q : p N with
        | false => rfl
        | true => exact absurd (u N (by omega) q).symm e
      rw [ih (by omega) fun y hy => u y (by omega)]
      simp [z]
theorem filter_no {N : Nat} {p : Nat → Bool} (h : ∀ y, y < N → p y = false) : (List.range N).filter p = [] := by
  rw [List.filter_eq_nil_iff]
  intro y hy
  rw [h y (List.mem_range.mp hy)]
  exact Bool.false_ne_true
/-- of one start: the lengths of the sum z, by their number less one -/
def lens (ws : List Int) (z : Int) (s N : Nat) : List Nat := (List.range N).filter fun l => decide (win ws s (l + 1) = z)
theorem fits_gone (ws : List Int) (z : Int) (M : Nat) : ∀ r, fits ws z (gone M r 0) = (List.range r).flatMap fun s => (lens ws z s M).map fun l => (s, l + 1)
  | 0 => rfl
  | r + 1 => by
    have e : gone M (r + 1) 0 = gone M r 0 ++ (List.range M).map fun l => (r, l + 1) := by
      rw [gone_row]
      unfold gone
      simp
    have ih := fits_gone ws z M r
    rw [e]
    unfold fits at ih ⊢
    rw [List.filter_append, ih, List.range_succ, List.flatMap_append, List.filter_map]
    congr 1
    simp only [List.flatMap_cons, List.flatMap_nil, List.append_nil]
    rfl
theorem st_pos {ws : List Int} (R : Row ws) (k : Nat) : 1 ≤ st ws k := by
  have n0 := R.n0
  have h := st_at n0 k
  exact R.pos _ (List.mem_of_getElem? h)
theorem win_succ {ws : List Int} (R : Row ws) (s l : Nat) : win ws s (l + 1) = win ws s l + st ws (s + l) := by
  rw [win_up R.n0, win_up R.n0]
  rfl
theorem win_mono {ws : List Int} (R : Row ws) (s l : Nat) : ∀ d, win ws s l + d ≤ win ws s (l + d)
  | 0 => by simp
  | d + 1 => by
    have h1 := win_mono R s l d
    have h2 := win_succ R s (l + d)
    have h3 := st_pos R (s + (l + d))
    rw [← Nat.add_assoc]
    omega
theorem win_inj {ws : List Int} (R : Row ws) {s l m : Nat} (h : win ws s l = win ws s m) : l = m := by
  rcases Nat.lt_or_ge l m with c | c
  · have := win_mono R s l (m - l)
    rw [show l + (m - l) = m by omega] at this
    omega
  · have := win_mono R s m (l - m)
    rw [show m + (l - m) = l by omega] at this
    omega
theorem win_0 (ws : List Int) (s : Nat) : win ws s 0 = 0 := by
  unfold win
  rw [Nat.add_zero]
  omega
theorem win_full {ws : List Int} (R : Row ws) (s : Nat) : win ws s ws.length = ws.sum := by
  have := win_lap R.n0 s 0
  rw [Nat.zero_add, win_0] at this
  omega
/-- from lengths up to L, sum z, to lengths up to 3 L, sum z and d laps -/
theorem lens_laps {ws : List Int} (R : Row ws) (z : Int) (hz : 1 ≤ z ∧ z ≤ ws.sum) (s d : Nat) (hd : d ≤ 1) : (lens ws (z + d * ws.sum) s (3 * ws.length)) = (lens ws z s ws.length).map fun l => l + d * ws.length := by
  have n0 := R.n0
  have sh : ∀ l, win ws s (l + d * ws.length) = win ws s l + d * ws.sum := fun l => by
    have := win_laps n0 s l d
    rw [Nat.mul_comm] at this
    exact this
  have dl : d * ws.length ≤ ws.length := by
    have := Nat.mul_le_mul_right ws.length hd
    omega
  unfold lens
  by_cases h : ∃ l, l < ws.length ∧ win ws s (l + 1) = z
  · obtain ⟨l, hl, hw⟩ := h
    rw [filter_one (x := l) hl (by rw [hw]; simp) (fun y _ hy => by
      have := of_decide_eq_true hy
      have := win_inj R (this.trans hw.symm)
      omega)]
    have hw2 : win ws s (l + d * ws.length + 1) = z + d * ws.sum := by
      have := sh (l + 1)
      rw [show l + 1 + d * ws.length = l + d * ws.length + 1 by omega] at this
      rw [this, hw]
    exact filter_one (x := l + d * ws.length) (by omega) (by rw [hw2]; simp) (fun y _ hy => by
      have := of_decide_eq_true hy
      have := win_inj R (this.trans hw2.symm)
      omega)
  · rw [filter_no (N := ws.length) (fun y hy => decide_eq_false fun c => h ⟨y, hy, c⟩)]
    refine filter_no fun y hy => decide_eq_false fun c => ?_
    -- y + 1 is more than d laps, and not more than d laps and one
    have low : d * ws.length < y + 1 := by
      rcases Nat.lt_or_ge (d * ws.length) (y + 1) with q | q
      · exact q
      · have a1 := win_mono R s (y + 1) (d * ws.length - (y + 1))
        rw [show y + 1 + (d * ws.length - (y + 1)) = 0 + d * ws.length by omega, sh 0, win_0] at a1
        omega
    have hw : win ws s (y + 1 - d * ws.length) = z := by
      have := sh (y + 1 - d * ws.length)
      rw [show y + 1 - d * ws.length + d * ws.length = y + 1 by omega, c] at this
      omega
    have up : y + 1 - d * ws.length ≤ ws.length := by
      rcases Nat.lt_or_ge ws.length (y + 1 - d * ws.length) with q | q
      · have a1 := win_mono R s ws.length (y + 1 - d * ws.length - ws.length)
        rw [show ws.length + (y + 1 - d * ws.length - ws.length) = y + 1 - d * ws.length by omega, hw, win_full R] at a1
        omega
      · exact q
    exact h ⟨y - d * ws.length, by omega, by rw [show y - d * ws.length + 1 = y + 1 - d * ws.length by omega]; exact hw⟩
theorem flat_congr {α β : Type} {f g : α → List β} : ∀ {l : List α}, (∀ x ∈ l, f x = g x) → l.flatMap f = l.flatMap g
  | [], _ => rfl
  | a :: l, h => by rw [List.flatMap_cons, List.flatMap_cons, h a List.mem_cons_self, flat_congr fun x hx => h x (List.mem_cons_of_mem _ hx)]
theorem strips_due {ws : List Int} (R : Row ws) {n : Nat} (hn : 1 ≤ n) : stripsL ws n = dueL ws n := by
  have q1 := R.sum0
  obtain ⟨S, hS⟩ : ∃ S : Nat, ws.sum = S := ⟨ws.sum.toNat, by omega⟩
  have eS : ws.sum.toNat = S := by omega
  have S0 : 0 < S := by omega
  obtain ⟨d, hd, hl⟩ : ∃ d, d ≤ 1 ∧ lapsOf ws n = dueLaps ws n + d := by
    unfold lapsOf dueLaps
    rw [eS]
    have a1 := Nat.div_add_mod n S
    have a2 := Nat.mod_lt n S0
    have a3 := Nat.div_add_mod (n - 1) S
    have a4 := Nat.mod_lt (n - 1) S0
    have b1 : (n - 1) / S ≤ n / S := Nat.div_le_div_right (by omega)
    have b2 : n / S ≤ (n - 1) / S + 1 := by
      have := Nat.div_le_div_right (c := S) (show n ≤ (n - 1) + S by omega)
      rw [Nat.add_div_right _ S0] at this
      exact this
    clear a1 a2 a3 a4
    generalize n / S = a at b1 b2 ⊢
    generalize (n - 1) / S = b at b1 b2 ⊢
    exact ⟨b - (a - 1), by omega, by omega⟩
  have hz : 1 ≤ (n : Int) - lapsOf ws n * ws.sum ∧ (n : Int) - lapsOf ws n * ws.sum ≤ ws.sum := by
    unfold lapsOf
    rw [eS, hS]
    have a3 := Nat.div_add_mod (n - 1) S
    have a4 := Nat.mod_lt (n - 1) S0
    have e : (((n - 1) / S : Nat) : Int) * (S : Int) = ((S * ((n - 1) / S) : Nat) : Int) := by rw [Nat.mul_comm, Int.natCast_mul]
    rw [e]
    omega
  have ez : (n : Int) - dueLaps ws n * ws.sum = ((n : Int) - lapsOf ws n * ws.sum) + d * ws.sum := by
    rw [hl, Int.natCast_add, Int.add_mul]
    omega
  unfold stripsL dueL
  rw [fits_gone, fits_gone, ez, List.map_flatMap, List.map_flatMap]
  refine flat_congr fun s _ => ?_
  rw [lens_laps R _ hz s d hd, List.map_map, List.map_map, List.map_map]
  refine List.map_congr_left fun l _ => ?_
  show (s, l + 1 + lapsOf ws n * ws.length) = (s, l + d * ws.length + 1 + dueLaps ws n * ws.length)
  rw [hl, Nat.add_mul]
  exact congrArg (Prod.mk s) (by omega)
/-- a is ahead of b, or b -/
def LeP (a b : Nat × Nat) : Prop := a.1 < b.1 ∨ (a.1 = b.1 ∧ a.2 ≤ b.2)
def minP (a y : Nat × Nat) : Nat × Nat := if y.1 < a.1 ∨ (y.1 = a.1 ∧ y.2 < a.2) then y else a
theorem fold_minP : ∀ (rs : List (Nat × Nat)) (r : Nat × Nat), rs.foldl minP r ∈ r :: rs ∧ ∀ y ∈ r :: rs, LeP (rs.foldl minP r) y
  | [], r => ⟨List.mem_cons_self, fun y hy => by
    rcases List.mem_cons.mp hy with rfl | h
    · exact .inr ⟨rfl, Nat.le_refl _⟩
    · cases h⟩
  | k :: rs, r => by
    obtain ⟨h1, h2⟩ := fold_minP rs (minP r k)
    rw [List.foldl_cons]
    have hm : (minP r k = k ∧ LeP k r) ∨ (minP r k = r ∧ LeP r k) := by
      unfold minP LeP
      by_cases c : k.1 < r.1 ∨ (k.1 = r.1 ∧ k.2 < r.2)
      · exact .inl ⟨if_pos c, by omega⟩
      · exact .inr ⟨if_neg c, by omega⟩
    have l0 := h2 _ List.mem_cons_self
    have tr : ∀ {a b c : Nat × Nat}, LeP a b → LeP b c → LeP a c := fun {a b c} x y => by
      unfold LeP at *
      omega
    constructor
    · rcases List.mem_cons.mp h1 with h | h
      · rw [h]
        rcases hm with ⟨e, _⟩ | ⟨e, _⟩
        · rw [e]
          exact List.mem_cons_of_mem _ List.mem_cons_self
        · rw [e]
          exact List.mem_cons_self
      · exact List.mem_cons_of_mem _ (List.mem_cons_of_mem _ h)
    · intro y hy
      have both : LeP (minP r k) r ∧ LeP (minP r k) k := by
        rcases hm with ⟨e, z⟩ | ⟨e, z⟩
        · rw [e]
          exact ⟨z, .inr ⟨rfl, Nat.le_refl _⟩⟩
        · rw [e]
          exact ⟨.inr ⟨rfl, Nat.le_refl _⟩, z⟩
      rcases List.mem_cons.mp hy with rfl | hy
      · exact tr l0 both.1
      · rcases List.mem_cons.mp hy with rfl | hy
        · exact tr l0 both.2
        · exact h2 y (List.mem_cons_of_mem _ hy)
theorem up_st {ws : List Int} (n0 : 0 < ws.length) (n : Nat) : win ws 0 n = up (st ws) n := by
  unfold win
  rw [upto_zero, upto_up n0, Nat.zero_add]
  omega
theorem win_one {ws : List Int} (n0 : 0 < ws.length) (n : Nat) : win ws n 1 = st ws n := by
  rw [win_up n0]
  simp [up]
theorem torn_len {ws : List Int} : tornL ws ws.length = ws := by
  unfold tornL
  simp
theorem torn_0 {ws : List Int} : tornL ws 0 = ws := by
  unfold tornL
  simp
end Pm
/-! ## check_number -/
namespace Pr
open PySem L2 Lf Mi Pl Pm
theorem whole {n : Int} : m_is_whole (PV.of n) = .ok true := rfl
theorem cn {n l : Int} (h : l ≤ n) : m_check_number (PV.of n) l = .ok () := by
  refine reqv whole (req_go (x := false) ?_ rfl)
  show some (decide (n < l)) = some false
  rw [decide_eq_false (by omega)]
end Pr
/-! ## What the mirrors of rolls and strips come to -/
namespace Pr
open PySem L2 Lf Mi Pl Pm
abbrev mk (ws : List Int) : MRoll := ⟨⟨ws⟩, ⟨firsts ws⟩⟩
theorem init_ok {ws : List Int} (R : Row ws) : m_Roll_init ws = .ok (mk ws) := by
  have l9 := R.len
  refine if_neg' (by simp [R.ne]) (fold_bind (fun _ _ => True) trivial (fun i x s hx _ => ⟨(), reqv whole (if_neg' ?_ rfl), trivial⟩) fun s _ => ?_)
  · have := R.pos x (List.mem_of_getElem? hx)
    simp
    omega
  refine fold_bind (fun i (l : List Int) => l = (List.range (i + 1)).map (pre ws)) rfl (fun i x l hx e => ?_) fun l e => ?_
  · have hi := (List.getElem?_eq_some_iff.mp hx).1
    subst e
    refine ⟨_, req_go (atI_last (x := pre ws i) ?_) (req_go (app_ok ?_) rfl), ?_⟩
    · rw [List.range_succ, List.map_append]
      simp
    · simp
      omega
    · rw [List.range_succ (n := i + 1), List.map_append, ← pre_next hx]
      rfl
  · subst e
    rfl
theorem len_ok (ws : List Int) (R : Row ws) : lenOk (m_Roll_len (mk ws)) = some (ws.length : Int) := by
  have l9 := R.len
  unfold lenOk m_Roll_len
  dsimp only
  rw [if_pos ⟨by omega, by omega⟩]
theorem lap_ok (ws : List Int) : m_Roll_lap (mk ws) = .ok ws.sum := req_go (atI_last (firsts_last ws)) rfl
theorem worths_ok (ws : List Int) : m_Roll_worths (mk ws) = .ok ws := rfl
theorem big {b : Nat} {i : Int} (h : i.natAbs < 2 ^ b) (hb : b ≤ 5000) : i.natAbs < 2 ^ 5000 := Nat.lt_of_lt_of_le h (pow_mono hb)
theorem upto_ok {ws : List Int} (R : Row ws) {n : Nat} (hn : n < 2 ^ 200) : m_Roll_upto (mk ws) (n : Int) = .ok (upto ws n) := by
  have n0 := R.n0
  have l9 := R.len
  have q1 := R.sum0
  have q2 := R.sumB
  have e : (n : Int) % (ws.length : Int) = ((n % ws.length : Nat) : Int) := rfl
  have b1 : ((ws.length : Int)).natAbs < 2 ^ 5000 := big (b := 20) (by omega) (by omega)
  have b2 : ((n : Int) / (ws.length : Int)).natAbs < 2 ^ 5000 := big (b := 200) (upto_b R hn) (by omega)
  have b3 : ws.sum.natAbs < 2 ^ 5000 := big (b := 210) (by omega) (by omega)
  have i1 : ifdiv (n : Int) (ws.length : Int) = some ((n : Int) / (ws.length : Int)) := ifdiv_ok (by omega) b1
  have i2 : imul ((n : Int) / (ws.length : Int)) ws.sum = some ((n : Int) / (ws.length : Int) * ws.sum) := imul_ok b2 b3
  have i3 : imod (n : Int) (ws.length : Int) = some ((n : Int) % (ws.length : Int)) := imod_ok (by omega)
  have i4 : atI (firsts ws) ((n : Int) % (ws.length : Int)) = some (pre ws (n % ws.length)) := by
    rw [e]
    exact atI_nat' (firsts_at (Nat.le_of_lt (Nat.mod_lt _ n0)))
  unfold m_Roll_upto
  rw [req_some i1, req_some (atI_last (firsts_last ws)), req_some i2, req_some i3, req_some i4]
  rfl
theorem total_ok {ws : List Int} (R : Row ws) {n m : Nat} (h : n + m < 2 ^ 200) : m_Roll_total (mk ws) (n : Int) (m : Int) = .ok (win ws n m) := by
  refine reqv (cn (by omega)) (reqv (cn (by omega)) (reqv (x := upto ws (n + m)) ?_ (reqv (upto_ok R (by omega)) rfl)))
  have e : (n : Int) + (m : Int) = ((n + m : Nat) : Int) := rfl
  rw [e]
  exact upto_ok R h
/-! the table -/
def cp (p : Nat × Nat) : Int × Int := ((p.1 : Int), (p.2 : Int))
structure Tab (ws : List Int) (ps : List (Nat × Nat)) (d : Dic Int (List (Int × Int))) : Prop where
  uq : (d.l.map (·.1)).Nodup
  len : d.l.length ≤ ps.length
  get : ∀ z : Int, d.get? z = if fits ws z ps = [] then none else some ((fits ws z ps).map cp)
theorem Tab.nil {ws : List Int} : Tab ws [] ⟨[]⟩ := ⟨by simp, Nat.le_refl _, fun z => rfl⟩
theorem Tab.getD {ws : List Int} {ps : List (Nat × Nat)} {d : Dic Int (List (Int × Int))} (t : Tab ws ps d) (z : Int) : (d.get? z).getD [] = (fits ws z ps).map cp := by
  rw [t.get]
  by_cases h : fits ws z ps = []
  · rw [if_pos h, h]
    rfl
  · rw [if_neg h]
    rfl
theorem Tab.put {ws : List Int} {ps : List (Nat × Nat)} {d : Dic Int (List (Int × Int))} (t : Tab ws ps d) (p : Nat × Nat) (hl : ps.length < 2000000) : ∃ d', d.put (win ws p.1 p.2) ((fits ws (win ws p.1 p.2) ps).map cp ++ [cp p]) = some d' ∧ Tab ws (ps ++ [p]) d' := by
  have l := t.len
  refine ⟨_, if_pos (by rw [sizeLine_eq]; omega), putL_nodup t.uq, ?_, fun z => ?_⟩
  · have := putL_len d.l (win ws p.1 p.2) ((fits ws (win ws p.1 p.2) ps).map cp ++ [cp p])
    rw [List.length_append]
    show (putL d.l _ _).length ≤ ps.length + 1
    omega
  · show ((putL d.l _ _).find? fun q => decide (q.1 = z)).map (·.2) = _
    rw [putL_get, fits_snoc]
    by_cases h : z = win ws p.1 p.2
    · rw [if_pos h, if_pos h, if_neg (by simp), h, List.map_append]
      rfl
    · rw [if_neg h, if_neg h]
      exact t.get z
theorem short_ok {ws : List Int} (R : Row ws) : ∃ d, m_short_strips (mk ws) = .ok d ∧ Tab ws (gone ws.length ws.length 0) d := by
  have n0 := R.n0
  have l9 := R.len
  have inner : ∀ (i : Nat), i < ws.length → ∀ s, Tab ws (gone ws.length i 0) s → ∃ d, (Res.fold (fun (s69 : (Dic Int (List (Int × Int)))) (x70 : Int) =>
        Res.req (Res.val (m_Roll_total (mk ws) (i : Int) x70)) fun y71 =>
        Res.req (cat ((s69.get? y71).getD []) [((i : Int), x70)]) fun y73 =>
        Res.req (s69.put y71 y73) fun y75 =>
        .ok y75) (ups 1 ws.length) s) = .ok d ∧ Tab ws (gone ws.length i (ups 1 ws.length).length) d := fun i hi s t =>
    fold_inv (fun j d => Tab ws (gone ws.length i j) d) t fun j y s hy t => by
      obtain ⟨hj, ey⟩ := ups_at hy
      have ey' : y = ((j + 1 : Nat) : Int) := by omega
      subst ey'
      have gl := gone_len ws.length i j
      have hL : i * ws.length ≤ 1000 * 1000 := Nat.mul_le_mul (by omega) l9
      have fl : (fits ws (win ws i (j + 1)) (gone ws.length i j)).length ≤ (gone ws.length i j).length := List.length_filter_le _ _
      obtain ⟨d', e', t'⟩ := t.put (i, j + 1) (by omega)
      have c1 : cat (((fits ws (win ws i (j + 1)) (gone ws.length i j)).map cp)) [((i : Int), ((j + 1 : Nat) : Int))] = some ((fits ws (win ws i (j + 1)) (gone ws.length i j)).map cp ++ [cp (i, j + 1)]) := cat_ok (by rw [List.length_map]; show _ + 1 ≤ _; omega)
      refine ⟨d', ?_, by rw [gone_next]; exact t'⟩
      rw [req_val (total_ok R (by omega)), t.getD, req_some c1, req_some e']
  have outer : ∃ d, (Res.fold (fun (s63 : (Dic Int (List (Int × Int)))) (x64 : Int) =>
      Res.req (lenOk (m_Roll_len (mk ws))) fun y65 =>
      Res.req (irng (1 : Int) (y65 + (1 : Int))) fun y67 =>
      Res.bind (Res.fold (fun (s69 : (Dic Int (List (Int × Int)))) (x70 : Int) =>
      Res.req (Res.val (m_Roll_total (mk ws) x64 x70)) fun y71 =>
      Res.req (cat ((s69.get? y71).getD []) [(x64, x70)]) fun y73 =>
      Res.req (s69.put y71 y73) fun y75 =>
      .ok y75) y67 s63) fun (s77 : (Dic Int (List (Int × Int)))) =>
      .ok s77) (ups 0 ws.length) (Dic.mk [])) = .ok d ∧ Tab ws (gone ws.length (ups 0 ws.length).length 0) d :=
    fold_inv (fun i d => Tab ws (gone ws.length i 0) d) Tab.nil fun i x s hx t => by
      obtain ⟨hi, ex⟩ := ups_at hx
      rw [Int.zero_add] at ex
      subst ex
      obtain ⟨d, e, t⟩ := inner i hi s t
      rw [ups_len] at t
      refine ⟨d, ?_, by rw [gone_row]; exact t⟩
      rw [req_some (len_ok ws R), req_some (irng_ups (n := ws.length) (by omega) (by decide) (by decide) (by omega)), bind_ok e]
  obtain ⟨d, e, t⟩ := outer
  rw [ups_len] at t
  refine ⟨d, ?_, t⟩
  unfold m_short_strips
  rw [req_some (len_ok ws R), req_some (irng_ups (n := ws.length) (by omega) (by decide) (by decide) (by omega)), bind_ok e]
end Pr
/-! ## check_roll -/
namespace Pr
open PySem L2 Lf Mi Pl Pm
theorem check_ok (r : MRoll) : m_check_roll r = .ok () := rfl
end Pr
/-! ## What the laws draw -/
namespace Pr
open PySem L2 Lf Mi Pl Pm
def Pu (m : Int) (l : List Int) : Prop := ∃ A B C : Int, l = [A, B, C] ∧ (0 ≤ A ∧ A < 2 ^ 2000) ∧ (0 ≤ B ∧ B < 2147483647) ∧ 0 ≤ C ∧ C ≤ m
theorem Pu.le {m m' : Int} {l : List Int} (h : Pu m l) (c : m ≤ m') : Pu m' l := by
  obtain ⟨A, B, C, e, a, b, c1, d⟩ := h
  exact ⟨A, B, C, e, a, b, c1, by omega⟩
theorem sq_ok {x : Int} {b : Nat} (h : x.natAbs < 2 ^ b) (hb : b ≤ 5000) : imul x x = some (x * x) := imul_ok (big h hb) (big h hb)
theorem mixed_ok {a b : Int} (hb : 0 ≤ b ∧ b < 2 ^ 60) : ∃ z, m_l_mixed a b = .ok z ∧ 0 ≤ z ∧ z < 2147483587 := by
  have i1 : imul (7919 * b) b = some (7919 * b * b) := imul_ok (big (b := 80) (by omega) (by omega)) (big (b := 80) (by omega) (by omega))
  unfold m_l_mixed
  rw [req_some i1, req_some rfl]
  generalize hx : (a * 1103515245 + 7919 * b * b + b + 1) % 2147483647 = x
  have x0 : 0 ≤ x := by rw [← hx]; exact Int.emod_nonneg _ (by omega)
  have x1 : x < 2147483647 := by rw [← hx]; exact Int.emod_lt_of_pos _ (by omega)
  rw [req_some (sq_ok (b := 40) (by omega) (by omega)), req_some rfl]
  exact ⟨_, rfl, Int.emod_nonneg _ (by omega), Int.emod_lt_of_pos _ (by omega)⟩
theorem pow_b : ((10 ^ 60 : Int) ^ (10 : Int).toNat) < 2 ^ 2000 := by decide +kernel
theorem pow_p : (0 : Int) < ((10 ^ 60 : Int) ^ (10 : Int).toNat) := by decide +kernel
theorem pow_o : ipow ((10 : Int) ^ 60) (10 : Int) = some ((10 ^ 60 : Int) ^ (10 : Int).toNat) := by
  unfold ipow
  exact if_pos (by decide +kernel)
theorem purse_ok (s : Sc) {k : Int} (hk : 0 ≤ k ∧ k ≤ 1000) : ∃ l, m_l_purse s k = .ok l ∧ Pu 1000000 l := by
  unfold m_l_purse
  rw [req_some rfl, req_some pow_o, req_some (imod_ok pow_p)]
  generalize (cut s.l (some k) (some (k + 1))).sum = x
  exact ⟨_, rfl, _, _, _, rfl, ⟨Int.emod_nonneg _ (Int.ne_of_gt pow_p), Int.lt_trans (Int.emod_lt_of_pos _ pow_p) pow_b⟩, ⟨Int.emod_nonneg _ (by omega), Int.emod_lt_of_pos _ (by omega)⟩, by omega, by omega⟩
theorem at0 (A B C : Int) : atI [A, B, C] (0 : Int) = some A := rfl
theorem at1 (A B C : Int) : atI [A, B, C] (1 : Int) = some B := rfl
theorem at2 (A B C : Int) : atI [A, B, C] (2 : Int) = some C := rfl
theorem set0 (A B C x : Int) : setAt [A, B, C] (0 : Int) x = some [x, B, C] := rfl
theorem set2 (A B C x : Int) : setAt [A, B, C] (2 : Int) x = some [A, B, x] := rfl
theorem bits_b {n : Int} {b : Nat} (h : n.natAbs < 2 ^ b) : Builtin.Int.intBits n ≤ b := by
  unfold Builtin.Int.intBits
  split
  · exact Nat.zero_le _
  · rename_i c
    have c0 : n.natAbs ≠ 0 := fun z => c (by rw [Int.natAbs_eq_zero.mp z]; rfl)
    exact (Nat.log2_lt c0).mpr h
theorem draw_ok {l : List Int} {m n : Int} (h : Pu m l) (hm : m ≤ 2 ^ 40) (hn : 1 ≤ n ∧ n < 2 ^ 110) : ∃ z l', m_l_draw l n = .ok (z, l') ∧ Pu (m + 5) l' ∧ 0 ≤ z ∧ z < n := by
  obtain ⟨A, B, C, rfl, ⟨a0, a1⟩, ⟨b0, b1⟩, c0, c1⟩ := h
  unfold m_l_draw
  rw [req_some (at0 A B C)]
  by_cases p : 0 < A
  · rw [if_pos (decide_eq_true p), req_some (at0 A B C), req_some (imod_ok (by omega)), req_some (at0 A B C), req_some (ifdiv_ok (by omega) (big (b := 110) (by omega) (by omega))), req_some (set0 A B C _)]
    exact ⟨_, _, rfl, ⟨A / n, B, C, rfl, ⟨Int.ediv_nonneg a0 (by omega), Int.lt_of_le_of_lt (Int.ediv_le_self _ a0) a1⟩, ⟨b0, b1⟩, c0, by omega⟩, Int.emod_nonneg _ (by omega), Int.emod_lt_of_pos _ (by omega)⟩
  · have hb : Builtin.Int.intBits n ≤ 110 := bits_b (by omega)
    rw [if_neg (by rw [decide_eq_false p]; decide), req_some (irng_ups (n := 1 + Builtin.Int.intBits n / 30) (by omega) (by omega) (by omega) (by omega))]
    obtain ⟨s, e, x, rfl⟩ : ∃ s, Res.fold (fun (s182 : Int × (List Int)) (x183 : Int) =>
        Res.req (atI s182.2 (2 : Int)) fun y184 =>
        Res.req (setAt s182.2 (2 : Int) (y184 + (1 : Int))) fun y186 =>
        Res.req (atI y186 (1 : Int)) fun y188 =>
        Res.req (atI y186 (2 : Int)) fun y190 =>
        Res.req (Res.val (m_l_mixed y188 y190)) fun y192 =>
        Res.req (some ((s182.1 * (2147483587 : Int)) + y192)) fun y194 =>
        .ok (y194, y186)) (ups 0 (1 + Builtin.Int.intBits n / 30)) ((0 : Int), [A, B, C]) = .ok s ∧ ∃ x, s = (x, [A, B, C + ((ups 0 (1 + Builtin.Int.intBits n / 30)).length : Int)]) :=
      fold_inv (fun i s => ∃ x, s = (x, [A, B, C + (i : Int)])) ⟨0, by rw [show C + ((0 : Nat) : Int) = C by omega]⟩ (fun i y s hy h => by
        obtain ⟨x, rfl⟩ := h
        obtain ⟨hi, _⟩ := ups_at hy
        obtain ⟨z, ez, _⟩ := mixed_ok (a := B) (b := C + (i : Int) + 1) ⟨by omega, by omega⟩
        rw [req_some (at2 A B _), req_some (set2 A B _ _), req_some (at1 A B _), req_some (at2 A B _), req_val ez, req_some rfl]
        exact ⟨_, rfl, _, by rw [show C + ((i + 1 : Nat) : Int) = C + (i : Int) + 1 by omega]⟩)
    rw [bind_ok e, req_some (imod_ok (by omega)), ups_len]
    exact ⟨_, _, rfl, ⟨A, B, _, rfl, ⟨a0, a1⟩, ⟨b0, b1⟩, by omega, by omega⟩, Int.emod_nonneg _ (by omega), Int.emod_lt_of_pos _ (by omega)⟩
end Pr
/-! ## The worths that the laws draw -/
namespace Pr
open PySem L2 Lf Mi Pl Pm
theorem drawn_ok {l : List Int} {m k g : Int} (h : Pu m l) (hm : m ≤ 2 ^ 39) (hk : 1 ≤ k ∧ k ≤ 100) (hg : 1 ≤ g ∧ g < 2 ^ 110) : ∃ ws l', m_l_worths_drawn l k g = .ok (ws, l') ∧ Pu (m + 1000) l' ∧ 1 ≤ ws.length ∧ (ws.length : Int) ≤ k ∧ ∀ z ∈ ws, 1 ≤ z ∧ z ≤ g := by
  obtain ⟨n, l1, e1, p1, n0, n1⟩ := draw_ok h (by omega) (n := k) ⟨by omega, by omega⟩
  unfold m_l_worths_drawn
  rw [req_val e1, req_some (irng_ups (n := (1 + n).toNat) (by omega) (by omega) (by omega) (by omega))]
  obtain ⟨s, e, hp, hl, hz⟩ : ∃ s, Res.fold (fun (s205 : (List Int) × (List Int)) (x206 : Int) =>
      Res.req (Res.val (m_l_draw s205.2 g)) fun y207 =>
      Res.req (app s205.1 ((1 : Int) + y207.1)) fun y209 =>
      .ok (y209, y207.2)) (ups 0 (1 + n).toNat) (([] : List Int), l1) = .ok s ∧ (Pu (m + 5 + 5 * ((ups 0 (1 + n).toNat).length : Int)) s.2 ∧ s.1.length = (ups 0 (1 + n).toNat).length ∧ ∀ z ∈ s.1, 1 ≤ z ∧ z ≤ g) :=
    fold_inv (fun (i : Nat) (s : List Int × List Int) => Pu (m + 5 + 5 * (i : Int)) s.2 ∧ s.1.length = i ∧ ∀ z ∈ s.1, 1 ≤ z ∧ z ≤ g) ⟨p1.le (by omega), rfl, fun _ h => absurd h List.not_mem_nil⟩ (fun i y s hy h => by
      obtain ⟨hp, hl, hz⟩ := h
      obtain ⟨hi, _⟩ := ups_at hy
      obtain ⟨z, l2, e2, p2, z0, z1⟩ := draw_ok hp (by omega) hg
      rw [req_val e2, req_some (app_ok (by omega))]
      refine ⟨_, rfl, p2.le (by omega), by rw [List.length_append, hl]; rfl, fun q hq => ?_⟩
      rcases List.mem_append.mp hq with c | c
      · exact hz q c
      · rw [List.mem_singleton.mp c]
        exact ⟨by omega, by omega⟩)
  rw [bind_ok e]
  rw [ups_len] at hp hl
  exact ⟨_, _, rfl, hp.le (by omega), by rw [hl]; omega, by rw [hl]; omega, hz⟩
end Pr
/-! ## What may be told -/
namespace Pr
open PySem L2 Lf Mi Pl Pm
/-! what may be told -/
def Fit (B : Nat) (d : PyData) : Prop := d.showable = true ∧ d.leavesShort B = true
theorem fit_int {i : Int} (h : i.natAbs < 10 ^ 200) : Fit 201 (.int i) := by
  constructor
  · simp only [PyData.showable]
    refine decide_eq_true ?_
    by_cases z : i.natAbs = 0
    · rw [z]
      decide
    · exact (Nat.log2_lt z).mpr (Nat.lt_of_lt_of_le h (by decide +kernel))
  · simp only [PyData.leavesShort]
    refine decide_eq_true ?_
    have e := int_text_length_le10 (k := 200) (by omega) h
    simp only [PyData.shown]
    rw [ofString_length]
    exact e
theorem fit_all {B : Nat} : ∀ {ds : List PyData}, (∀ d ∈ ds, Fit B d) → PyData.showableAll ds = true ∧ PyData.leavesShortAll B ds = true
  | [], _ => ⟨by simp only [PyData.showableAll], by simp only [PyData.leavesShortAll]⟩
  | d :: ds, h => by
    obtain ⟨a, b⟩ := fit_all (ds := ds) fun e he => h e (List.mem_cons_of_mem _ he)
    obtain ⟨c, e⟩ := h d List.mem_cons_self
    simp only [PyData.showableAll, PyData.leavesShortAll, a, b, c, e, Bool.and_self, and_self]
theorem fit_list {B : Nat} {ds : List PyData} (h : ∀ d ∈ ds, Fit B d) : Fit B (.list ds) := by
  obtain ⟨a, b⟩ := fit_all h
  exact ⟨by simp only [PyData.showable, a], by simp only [PyData.leavesShort, b]⟩
theorem fit_pair {B : Nat} {a b : PyData} (h1 : Fit B a) (h2 : Fit B b) : Fit B (.tuple [a, b]) := by
  obtain ⟨a, b⟩ := fit_all (B := B) (ds := [a, b]) fun d hd => by
    rcases List.mem_cons.mp hd with rfl | hd
    · exact h1
    · rw [List.mem_singleton.mp hd]
      exact h2
  exact ⟨by simp only [PyData.showable, a], by simp only [PyData.leavesShort, b]⟩
theorem told_ok {α : Type} [t : Shw α] {x : α} (f : Fit 201 (t.d x)) (b : (t.d x).bulk ≤ 40000) : told x = some (t.d x).shown := by
  have h := PyData.shown_le_bulk 201 (by omega) _ f.2
  have e : (201 + 2) * (t.d x).bulk ≤ 203 * 40000 := Nat.mul_le_mul_left _ b
  unfold told
  exact if_pos ⟨f.1, by rw [sizeLine_eq]; omega⟩
theorem bulk_map {α : Type} {f : α → PyData} {c : Nat} (h : ∀ x, (f x).bulk = c) : ∀ xs : List α, PyData.bulkAll (xs.map f) = (c + 1) * xs.length
  | [] => by simp only [List.map_nil, PyData.bulkAll, List.length_nil, Nat.mul_zero]
  | x :: xs => by
    rw [List.map_cons, List.length_cons, Nat.mul_succ, ← bulk_map h xs]
    simp only [PyData.bulkAll, h]
    omega
theorem told_ints {l : List Int} (h : ∀ x ∈ l, x.natAbs < 10 ^ 200) (n : l.length ≤ 40000) : ∃ s, told l = some s := by
  refine ⟨_, told_ok (x := l) (fit_list fun d hd => ?_) ?_⟩
  · obtain ⟨x, hx, rfl⟩ := List.mem_map.mp hd
    exact fit_int (h x hx)
  · show PyData.bulk (.list (l.map PyData.int)) ≤ 40000
    simp only [PyData.bulk]
    rw [bulk_map (c := 0) (fun x => by simp only [PyData.bulk])]
    omega
theorem fit_pr {p : Int × Int} (h : p.1.natAbs < 10 ^ 200 ∧ p.2.natAbs < 10 ^ 200) : Fit 201 (Dat.d p) := fit_pair (fit_int h.1) (fit_int h.2)
theorem told_pairs {l : List (Int × Int)} (h : ∀ p ∈ l, p.1.natAbs < 10 ^ 200 ∧ p.2.natAbs < 10 ^ 200) (n : l.length ≤ 13000) : ∃ s, told l = some s := by
  refine ⟨_, told_ok (x := l) (fit_list fun d hd => ?_) ?_⟩
  · obtain ⟨p, hp, rfl⟩ := List.mem_map.mp hd
    exact fit_pr (h p hp)
  · show PyData.bulk (.list (l.map fun p => PyData.tuple [.int p.1, .int p.2])) ≤ 40000
    simp only [PyData.bulk]
    rw [bulk_map (c := 2) (fun x => by simp only [PyData.bulk, PyData.bulkAll])]
    omega
theorem told_opt {o : Option (Int × Int)} (h : ∀ p, o = some p → p.1.natAbs < 10 ^ 200 ∧ p.2.natAbs < 10 ^ 200) : ∃ s, told o = some s := by
  cases o with
  | none => exact ⟨_, told_ok (x := (none : Option (Int × Int))) ⟨rfl, rfl⟩ (by show PyData.bulk .none ≤ _; simp only [PyData.bulk]; omega)⟩
  | some p =>
    refine ⟨_, told_ok (x := some p) (fit_pr (h p rfl)) ?_⟩
    show PyData.bulk (.tuple [.int p.1, .int p.2]) ≤ _
    simp only [PyData.bulk, PyData.bulkAll]
    omega
theorem told_bool (b : Bool) : ∃ s, told b = some s := ⟨_, told_ok (x := b) (by cases b <;> exact ⟨rfl, rfl⟩) (by show PyData.bulk (.bool b) ≤ _; simp only [PyData.bulk]; omega)⟩
end Pr
/-! ## The sums of a table -/
namespace Pr
open PySem L2 Lf Mi Pl Pm
theorem gone_mem {L : Nat} {p : Nat × Nat} (h : p ∈ gone L L 0) : p.1 < L ∧ 1 ≤ p.2 ∧ p.2 ≤ L := by
  unfold gone at h
  rw [List.range_zero, List.map_nil, List.append_nil] at h
  obtain ⟨s, hs, h⟩ := List.mem_flatMap.mp h
  obtain ⟨l, hl, rfl⟩ := List.mem_map.mp h
  rw [List.mem_range] at hs hl
  exact ⟨hs, by show 1 ≤ l + 1; omega, hl⟩
theorem win_le {ws : List Int} (R : Row ws) (s : Nat) {l : Nat} (h : l ≤ ws.length) : (l : Int) ≤ win ws s l ∧ win ws s l ≤ ws.sum := by
  have a := win_mono R s 0 l
  have b := win_mono R s l (ws.length - l)
  rw [Nat.zero_add, win_0] at a
  rw [show l + (ws.length - l) = ws.length by omega, win_full R] at b
  omega
theorem fits_in {ws : List Int} (R : Row ws) {z : Int} (h : fits ws z (gone ws.length ws.length 0) ≠ []) : 1 ≤ z ∧ z ≤ ws.sum := by
  obtain ⟨p, hp⟩ := List.exists_mem_of_ne_nil _ h
  obtain ⟨hp, e⟩ := List.mem_filter.mp hp
  have e := of_decide_eq_true e
  obtain ⟨_, b, c⟩ := gone_mem hp
  have := win_le R p.1 c
  omega
/-! rests -/
theorem one_rest {S z n k : Int} (h1 : 1 ≤ z ∧ z ≤ S) (h2 : 1 ≤ n - k * S ∧ n - k * S ≤ S) : z % S = n % S ↔ z = n - k * S := by
  have e : n % S = (n - k * S) % S := by rw [Int.mul_comm, Int.sub_mul_emod_self_left]
  rw [e]
  constructor
  · intro h
    generalize n - k * S = y at h h2
    by_cases a : z = S
    · by_cases b : y = S
      · omega
      · rw [a, Int.emod_self, Int.emod_eq_of_lt (by omega) (by omega)] at h
        omega
    · by_cases b : y = S
      · rw [b, Int.emod_self, Int.emod_eq_of_lt (by omega) (by omega)] at h
        omega
      · rw [Int.emod_eq_of_lt (by omega) (by omega), Int.emod_eq_of_lt (by omega) (by omega)] at h
        exact h
  · intro h
    rw [h]
theorem laps_in {ws : List Int} (R : Row ws) {n : Nat} (h : 1 ≤ n) : 1 ≤ (n : Int) - lapsOf ws n * ws.sum ∧ (n : Int) - lapsOf ws n * ws.sum ≤ ws.sum := by
  have q1 := R.sum0
  obtain ⟨S, hS⟩ : ∃ S : Nat, ws.sum = S := ⟨ws.sum.toNat, by omega⟩
  have eS : ws.sum.toNat = S := by omega
  unfold lapsOf
  rw [eS, hS]
  have a3 := Nat.div_add_mod (n - 1) S
  have a4 := Nat.mod_lt (n - 1) (show 0 < S by omega)
  have e : (((n - 1) / S : Nat) : Int) * (S : Int) = ((S * ((n - 1) / S) : Nat) : Int) := by rw [Nat.mul_comm, Int.natCast_mul]
  rw [e]
  omega
end Pr
/-! ## the law's own sums: one -/
namespace Pr
open PySem L2 Lf Mi Pl Pm
/-! the law's own sums -/
theorem lsum_ok {ws : List Int} (R : Row ws) {s t : Nat} (hs : s ≤ 2 ^ 20) (ht : t ≤ 2 ^ 20) : m_l_sum ws (s : Int) (t : Int) = .ok (win ws s t) := by
  have n0 := R.n0
  have l9 := R.len
  have q1 := R.sum0
  have q2 := R.sumB
  have c := Nat.mod_lt t n0
  have dm := Nat.div_add_mod t ws.length
  have dl := Nat.div_le_self t ws.length
  have e1 : (t : Int) / (ws.length : Int) = ((t / ws.length : Nat) : Int) := rfl
  have e2 : (t : Int) % (ws.length : Int) = ((t % ws.length : Nat) : Int) := rfl
  have i1 : ifdiv (t : Int) (ws.length : Int) = some ((t / ws.length : Nat) : Int) := by
    rw [← e1]
    exact ifdiv_ok (by omega) (big (b := 20) (by omega) (by omega))
  have i2 : imod (t : Int) (ws.length : Int) = some ((t % ws.length : Nat) : Int) := by
    rw [← e2]
    exact imod_ok (by omega)
  have i3 : imul ((t / ws.length : Nat) : Int) ws.sum = some (((t / ws.length : Nat) : Int) * ws.sum) := imul_ok (big (b := 21) (by rw [Int.natAbs_natCast]; exact Nat.lt_of_le_of_lt dl (by omega)) (by omega)) (big (b := 210) (by omega) (by omega))
  unfold m_l_sum
  rw [req_some i1, req_some i2, req_some i3, req_some (irng_ups (n := t % ws.length) (by omega) (by omega) (by omega) (by omega))]
  refine fold_bind (fun i x => x = ((t / ws.length : Nat) : Int) * ws.sum + win ws s i) (by rw [win_0]; omega) (fun i y x hy e => ?_) fun x e => ?_
  · obtain ⟨hi, ey⟩ := ups_at hy
    have ey' : y = ((s + i : Nat) : Int) := by omega
    subst ey'
    subst e
    have i4 : imod ((s + i : Nat) : Int) (ws.length : Int) = some (((s + i) % ws.length : Nat) : Int) := imod_ok (by omega)
    rw [req_some i4, req_some (atI_nat' (st_at n0 (s + i)))]
    refine ⟨_, rfl, ?_⟩
    have := win_add ws s i 1
    rw [win_one n0] at this
    omega
  · subst e
    rw [ups_len]
    have := win_laps n0 s (t % ws.length) (t / ws.length)
    rw [show t % ws.length + ws.length * (t / ws.length) = t by omega] at this
    rw [this, Int.add_comm]
end Pr
/-! ## Least forms -/
namespace Pr
open PySem L2 Lf Mi Pl Pm
theorem lt_rows (y a : List Int) : PySem.W.dataLt (Dat.d y) (Dat.d a) = decide (y < a) := by
  show PySem.W.dataLt (.list (y.map PyData.int)) (.list (a.map PyData.int)) = _
  rw [PySem.W.dataLt_list]
  exact PySem.W.dataLt_ints y a
theorem least_is : ∀ (xs : List (List Int)) (x : List Int), leastD x xs ∈ x :: xs ∧ ∀ y ∈ x :: xs, leastD x xs ≤ y
  | [], x => ⟨List.mem_cons_self, fun y h => by
    rw [List.mem_singleton.mp h]
    exact List.le_refl _⟩
  | z :: xs, x => by
    have e : leastD x (z :: xs) = leastD (if z < x then z else x) xs := by
      show leastD (if PySem.W.dataLt (Dat.d z) (Dat.d x) = true then z else x) xs = _
      rw [lt_rows]
      congr 1
      by_cases c : z < x
      · rw [if_pos c, decide_eq_true c, if_pos rfl]
      · rw [if_neg c, decide_eq_false c, if_neg (fun h => Bool.noConfusion h)]
    rw [e]
    obtain ⟨a, b⟩ := least_is xs (if z < x then z else x)
    have s : (if z < x then z else x) ≤ z ∧ (if z < x then z else x) ≤ x ∧ ((if z < x then z else x) = z ∨ (if z < x then z else x) = x) := by
      by_cases c : z < x
      · rw [if_pos c]
        exact ⟨List.le_refl _, List.le_of_lt c, .inl rfl⟩
      · rw [if_neg c]
        exact ⟨List.not_lt.mp c, List.le_refl _, .inr rfl⟩
    refine ⟨?_, fun y hy => ?_⟩
    · rcases List.mem_cons.mp a with h | h
      · rw [h]
        rcases s.2.2 with q | q
        · rw [q]
          exact List.mem_cons_of_mem _ List.mem_cons_self
        · rw [q]
          exact List.mem_cons_self
      · exact List.mem_cons_of_mem _ (List.mem_cons_of_mem _ h)
    · have base := b _ List.mem_cons_self
      rcases List.mem_cons.mp hy with rfl | hy
      · exact List.le_trans base s.2.1
      · rcases List.mem_cons.mp hy with rfl | hy
        · exact List.le_trans base s.1
        · exact b y (List.mem_cons_of_mem _ hy)
theorem fold_exF {α S X : Type} {f : S → α → Res S} {k : S → Res X} {xs : List α} {s0 : S} {Q : X → Prop} (P : Nat → S → Prop) (h0 : P 0 s0) (hs : ∀ (i : Nat) (x : α) (s : S), xs[i]? = some x → P i s → ∃ s', f s x = .ok s' ∧ P (i + 1) s') (hk : ∀ s, P xs.length s → ∃ r, k s = .ok r ∧ Q r) : ∃ r, Res.bind (Res.fold f xs s0) k = .ok r ∧ Q r := by
  obtain ⟨s, e, h⟩ := fold_inv P h0 hs
  obtain ⟨r, e2, q⟩ := hk s h
  exact ⟨r, bind_go e e2, q⟩
theorem cut_takeF {α : Type} {xs : List α} {k : Nat} (h : k ≤ xs.length) : cut xs none (some (k : Int)) = xs.take k := by
  have e : HT.sIx xs.length xs.length (some (k : Int)) = k := by
    rw [HT.sIx_nat]
    omega
  unfold cut
  rw [e]
  show (xs.drop 0).take (k - 0) = _
  rw [List.drop_zero, Nat.sub_zero]
theorem cut_drop' {α : Type} {xs : List α} {k : Nat} (h : k ≤ xs.length) : cut xs (some (k : Int)) none = xs.drop k := by
  have e : HT.sIx xs.length 0 (some (k : Int)) = k := by
    rw [HT.sIx_nat]
    omega
  unfold cut
  rw [e]
  show (xs.drop k).take (xs.length - k) = _
  exact List.take_of_length_le (by rw [List.length_drop]; omega)
theorem forms_of_row {x : List Int} (lx : x.length ≤ 1000) : mapO (fun (x372 : Int) => (Option.bind (cat (cut x (some x372) none) (cut x none (some x372))) fun y377 => (some (some y377)))) (ups 0 x.length) = some (formsL x) := by
  refine (mapO_ok (g := fun i => fm x i.toNat) fun i hi => ?_).trans ?_
  · obtain ⟨k, hk⟩ := List.mem_iff_getElem?.mp hi
    obtain ⟨lk, ek⟩ := ups_at hk
    obtain rfl : i = (k : Int) := by omega
    rw [cut_drop' (by omega), cut_takeF (k := k) (by omega), cat_ok (by simp; omega), Option.bind_some, Int.toNat_natCast]
    rfl
  · unfold formsL ups
    rw [List.map_map]
    refine congrArg some (List.map_congr_left fun k _ => ?_)
    show fm x ((0 : Int) + (k : Int)).toNat = fm x k
    rw [Int.zero_add, Int.toNat_natCast]
theorem form_ok {ws : List Int} (ne : ws ≠ []) (l9 : ws.length ≤ 1000) : ∃ m, m_least_form ws = .ok m ∧ Least ws m := by
  have lr : ws.reverse.length = ws.length := List.length_reverse
  unfold m_least_form
  rw [req_some rfl]
  have e1 : ∀ (x : List Int) (s : List (List Int)), x.length ≤ 1000 → s.length ≤ 1000 → (Res.req (irng (0 : Int) (x.length : Int)) fun y370 =>
      Res.req (mapO (fun (x372 : Int) => (Option.bind (cat (cut x (some x372) none) (cut x none (some x372))) fun y377 => (some (some y377)))) y370) fun y379 =>
      Res.req (cat s y379) fun y381 =>
      .ok y381) = .ok (s ++ formsL x) := fun x s lx ls => by
    rw [req_some (irng_ups (n := x.length) (by omega) (by omega) (by omega) (by omega)), req_some (forms_of_row lx), req_some (cat_ok (by rw [formsL_len]; omega))]
  refine (fun ⟨m, e, h⟩ => ⟨m, e, h⟩ : _ → _) (fold_exF (Q := Least ws) (fun i s => s = formsUp ws i) rfl (fun i x s hx e => ?_) fun s e => ?_)
  · subst e
    have hi := (List.getElem?_eq_some_iff.mp hx).1
    simp only [List.length_cons, List.length_nil] at hi
    have : i = 0 ∨ i = 1 := by omega
    rcases this with rfl | rfl
    · cases hx
      exact ⟨_, e1 ws [] (by omega) (by simp), rfl⟩
    · cases hx
      exact ⟨_, e1 ws.reverse (formsL ws) (by omega) (by rw [formsL_len]; omega), rfl⟩
  · subst e
    show ∃ r, Res.req (minL (formsUp ws 2)) _ = .ok r ∧ Least ws r
    cases q : formsUp ws 2 with
    | nil =>
      have := (mem_forms ne).mpr (Form.refl ws)
      rw [q] at this
      cases this
    | cons x xs =>
      obtain ⟨a, b⟩ := least_is xs x
      refine ⟨_, rfl, ?_, fun y hy => ?_⟩
      · rw [← q] at a
        exact (mem_forms ne).mp a
      · exact b y (by rw [← q]; exact (mem_forms ne).mpr hy)
end Pr
/-! ## All rows -/
namespace Pr
open PySem L2 Lf Mi Pl Pm
def RowOf (m : Nat) (lap : Int) (row : List Int) : Prop := row.length = m ∧ (∀ z ∈ row, 1 ≤ z) ∧ row.sum = lap
theorem rows_in : ∀ (f m lap : Nat), 1 ≤ m → m ≤ f → m ≤ lap → lap ≤ 100 → m ≤ 4 → ∃ l, m_rows_of_ f (m : Int) (lap : Int) = .ok l ∧ l.length ≤ 100 ^ (m - 1) ∧ ∀ row, row ∈ l ↔ RowOf m lap row
  | 0, m, lap, h1, h2, _, _, _ => by omega
  | f + 1, m, lap, h1, h2, h3, h4, h5 => by
    rw [m_rows_of_s]
    by_cases c : m = 1
    · subst c
      rw [if_pos (decide_eq_true (by omega))]
      refine ⟨_, rfl, by simp, fun row => ?_⟩
      constructor
      · intro h
        rw [List.mem_singleton.mp h]
        exact ⟨rfl, fun z hz => by rw [List.mem_singleton.mp hz]; omega, by simp⟩
      · rintro ⟨a, b, c⟩
        match row, a with
        | [z], _ =>
          simp at c
          rw [c]
          exact List.mem_singleton.mpr rfl
    · rw [if_neg (by rw [decide_eq_false (by omega)]; decide), req_some (irng_ups (n := lap - m + 1) (by omega) (by omega) (by omega) (by omega))]
      obtain ⟨k, rfl⟩ : ∃ k, m = k + 2 := ⟨m - 2, by omega⟩
      have pw : 100 ^ k ≤ 100 ^ 2 := Nat.pow_le_pow_right (by omega) (by omega)
      have p0 : 0 < 100 ^ k := Nat.pow_pos (by omega)
      refine (fold_exF (Q := fun (l : List (List Int)) => l.length ≤ 100 ^ (k + 2 - 1) ∧ ∀ row, row ∈ l ↔ RowOf (k + 2) lap row) (fun (i : Nat) (s : List (List Int)) => s.length ≤ i * 100 ^ k ∧ ∀ row, row ∈ s ↔ ∃ (a : Nat) (r : List Int), row = (a : Int) :: r ∧ 1 ≤ a ∧ a ≤ i ∧ RowOf (k + 1) ((lap : Int) - a) r) ⟨by simp, fun row => ⟨fun h => (by cases h), fun ⟨a, r, _, h1, h2, _⟩ => by omega⟩⟩ (fun i x s hx h => ?_) fun s h => ?_)
      · obtain ⟨hi, ex⟩ := ups_at hx
        obtain ⟨sl, sm⟩ := h
        obtain ⟨l, el, ll, lm⟩ := rows_in f (k + 1) (lap - (i + 1)) (by omega) (by omega) (by omega) (by omega) (by omega)
        have e1 : ((k + 2 : Nat) : Int) - (1 : Int) = ((k + 1 : Nat) : Int) := by omega
        have e2 : (lap : Int) - x = ((lap - (i + 1) : Nat) : Int) := by omega
        have ll' : l.length ≤ 100 ^ k := ll
        have em : mapO (fun (x404 : (List Int)) => (Option.bind (cat [x] x404) fun y409 => (some (some y409)))) l = some (l.map fun r => x :: r) := mapO_ok fun r hr => by
          have := ((lm r).mp hr).1
          rw [cat_ok (by show 1 + r.length ≤ _; omega), Option.bind_some]
          rfl
        have ib : i * 100 ^ k ≤ 100 * 100 ^ k := Nat.mul_le_mul_right _ (by omega)
        refine ⟨s ++ l.map fun r => x :: r, ?_, ?_, fun row => ?_⟩
        · rw [e1, e2, req_val el, req_some em, req_some (cat_ok (by rw [List.length_map]; omega))]
        · rw [List.length_append, List.length_map, Nat.succ_mul]
          omega
        · rw [List.mem_append, sm]
          constructor
          · rintro (⟨a, r, e, a1, a2, h⟩ | h)
            · exact ⟨a, r, e, a1, by omega, h⟩
            · obtain ⟨r, hr, rfl⟩ := List.mem_map.mp h
              have := (lm r).mp hr
              refine ⟨i + 1, r, by rw [ex]; congr 1; omega, by omega, by omega, ?_⟩
              rw [show (lap : Int) - ((i + 1 : Nat) : Int) = ((lap - (i + 1) : Nat) : Int) by omega]
              exact this
          · rintro ⟨a, r, e, a1, a2, h⟩
            by_cases c : a ≤ i
            · exact .inl ⟨a, r, e, a1, c, h⟩
            · refine .inr (List.mem_map.mpr ⟨r, (lm r).mpr ?_, ?_⟩)
              · rw [show ((lap - (i + 1) : Nat) : Int) = (lap : Int) - a by omega]
                exact h
              · rw [e, ex]
                congr 1
                omega
      · obtain ⟨sl, sm⟩ := h
        rw [ups_len] at sl sm
        refine ⟨s, rfl, ?_, fun row => ?_⟩
        · have : (lap - (k + 2) + 1) * 100 ^ k ≤ 100 * 100 ^ k := Nat.mul_le_mul_right _ (by omega)
          rw [show k + 2 - 1 = k + 1 by omega, Nat.pow_succ]
          omega
        · rw [sm]
          constructor
          · rintro ⟨a, r, rfl, a1, a2, h1, h2, h3⟩
            refine ⟨by rw [List.length_cons, h1], fun z hz => ?_, by rw [List.sum_cons, h3]; omega⟩
            rcases List.mem_cons.mp hz with e | e
            · omega
            · exact h2 z e
          · rintro ⟨h1, h2, h3⟩
            match row, h1 with
            | z :: r, h1 =>
              have z1 := h2 z List.mem_cons_self
              have rl : r.length = k + 1 := by simpa using h1
              have rp : ∀ y ∈ r, 1 ≤ y := fun y hy => h2 y (List.mem_cons_of_mem _ hy)
              rw [List.sum_cons] at h3
              have low : ∀ r : List Int, (∀ y ∈ r, 1 ≤ y) → (r.length : Int) ≤ r.sum := fun r h => by
                induction r with
                | nil => simp
                | cons y r ih =>
                  have a := h y List.mem_cons_self
                  have b := ih fun x hx => h x (List.mem_cons_of_mem _ hx)
                  rw [List.length_cons, List.sum_cons]
                  omega
              have := low r rp
              exact ⟨z.toNat, r, by congr 1; omega, by omega, by omega, rl, rp, by omega⟩
theorem okOf_some {α : Type} {m : Res α} {x : α} (e : m = .ok x) (h : ∃ x, m = .ok x) : Classical.choose h = x := Res.ok.inj ((Classical.choose_spec h).symm.trans e)
/-- what a mirror tells, if it tells anything -/
noncomputable def okOf {α : Type} (m : Res α) (d : α) : α := open Classical in if h : ∃ x, m = .ok x then Classical.choose h else d
theorem okOf_ok {α : Type} {m : Res α} {x d : α} (e : m = .ok x) : okOf m d = x := by
  unfold okOf
  rw [dif_pos ⟨x, e⟩]
  exact okOf_some e _
noncomputable def lfm (row : List Int) : List Int := okOf (m_least_form row) []
theorem lfm_ok {row : List Int} (ne : row ≠ []) (l : row.length ≤ 1000) : m_least_form row = .ok (lfm row) ∧ Least row (lfm row) := by
  obtain ⟨m, e, h⟩ := form_ok ne l
  have k : lfm row = m := okOf_ok e
  rw [k]
  exact ⟨e, h⟩
theorem forms_in {m lap : Nat} (h1 : 1 ≤ m) (h3 : m ≤ lap) (h4 : lap ≤ 100) (h5 : m ≤ 4) : ∃ l, m_forms_of (m : Int) (lap : Int) = .ok l ∧ l.length ≤ 1000000 ∧ ∀ row, row ∈ l ↔ RowOf m lap row ∧ lfm row = row := by
  obtain ⟨l, el, ll, lm⟩ := rows_in 8 m lap h1 (by omega) h3 h4 h5
  have pw : 100 ^ (m - 1) ≤ 100 ^ 3 := Nat.pow_le_pow_right (by omega) (by omega)
  refine ⟨l.filter fun row => decide (lfm row = row), ?_, ?_, fun row => ?_⟩
  · unfold m_forms_of
    refine reqv el (req_go ((mapO_filter (c := fun row => decide (lfm row = row)) (g := fun row => row) fun row hr => ?_).trans (by rw [List.map_id'])) rfl)
    obtain ⟨a, b, c⟩ := (lm row).mp hr
    rw [val_some (lfm_ok (fun e => by rw [e] at a; simp at a; omega) (by omega)).1, Option.bind_some]
  · have := List.length_filter_le (fun row => decide (lfm row = row)) l
    omega
  · rw [List.mem_filter, lm]
    exact ⟨fun h => ⟨h.1, of_decide_eq_true h.2⟩, fun h => ⟨h.1, decide_eq_true h.2⟩⟩
theorem RowOf.row {m lap : Nat} (h1 : 1 ≤ m) (h4 : lap ≤ 100) (h5 : m ≤ 4) {row : List Int} (h : RowOf m lap row) : Row row where
  ne := fun e => by
    have := h.1
    rw [e] at this
    simp at this
    omega
  pos := h.2.1
  big := fun z hz => by
    have low : ∀ r : List Int, (∀ y ∈ r, 1 ≤ y) → ∀ z ∈ r, z ≤ r.sum := fun r h => by
      induction r with
      | nil =>
        intro z hz
        cases hz
      | cons y r ih =>
        intro z hz
        have a := h y List.mem_cons_self
        have b := ih fun x hx => h x (List.mem_cons_of_mem _ hx)
        have s0 : ∀ r : List Int, (∀ y ∈ r, 1 ≤ y) → 0 ≤ r.sum := fun r h => by
          induction r with
          | nil => simp
          | cons y r ih =>
            have a := h y List.mem_cons_self
            have b := ih fun x hx => h x (List.mem_cons_of_mem _ hx)
            rw [List.sum_cons]
            omega
        have c := s0 r fun x hx => h x (List.mem_cons_of_mem _ hx)
        rw [List.sum_cons]
        rcases List.mem_cons.mp hz with rfl | hz
        · omega
        · have := b z hz
          omega
    have := low row h.2.1 z hz
    rw [h.2.2] at this
    omega
  len := by
    have := h.1
    omega
end Pr
/-! ## Rests, as the law goes through them -/
namespace Pr
open PySem L2 Lf Mi Pl Pm
def SumsOf (ws : List Int) (k : Int) : Prop := ∃ s t : Nat, s < ws.length ∧ 1 ≤ t ∧ t ≤ ws.length ∧ win ws s t % ws.sum = k
theorem sortU_few : ∀ l : List Int, (sortU l).length ≤ l.length
  | [] => Nat.le_refl _
  | x :: l => by
    have ins : ∀ (x : Int) (l : List Int), (insU x l).length ≤ l.length + 1 := fun x l => by
      induction l with
      | nil => exact Nat.le_refl _
      | cons y ys ih =>
        unfold insU
        split
        · simp
        · split
          · simp
          · simp only [List.length_cons]
            omega
    have a := ins x (sortU l)
    have b := sortU_few l
    show (insU x (sortU l)).length ≤ l.length + 1
    omega
theorem rests22 {ws : List Int} (R : Row ws) (l5 : ws.length ≤ 50) : ∃ l, m_rests_of (mk ws) = .ok l ∧ l.Pairwise (· < ·) ∧ ∀ k, k ∈ l ↔ SumsOf ws k := by
  have q1 := R.sum0
  obtain ⟨d, e, t⟩ := short_ok R
  have tl := t.len
  rw [gone_len] at tl
  have LL : ws.length * ws.length ≤ 50 * 50 := Nat.mul_le_mul l5 l5
  have key : ∀ z : Int, z ∈ d.l.map (fun x => x.1) ↔ fits ws z (gone ws.length ws.length 0) ≠ [] := fun z => by
    rw [get_mem]
    show (d.get? z).isSome = true ↔ _
    rw [t.get]
    by_cases c : fits ws z (gone ws.length ws.length 0) = []
    · rw [if_pos c]
      exact ⟨fun h => (Bool.noConfusion h), fun h => absurd c h⟩
    · rw [if_neg c]
      exact ⟨fun _ => c, fun _ => rfl⟩
  have sf := sortU_few ((d.l.map fun x => x.1).map fun z => z % ws.sum)
  rw [List.length_map, List.length_map] at sf
  refine ⟨sortU ((d.l.map fun x => x.1).map fun z => z % ws.sum), ?_, sortU_inc _, fun k => ?_⟩
  · refine reqv e (req_go (mapO_ok (g := fun z => z % ws.sum) fun x _ => ?_) (req_go (if_pos ?_) rfl))
    · rw [val_some (lap_ok ws), Option.bind_some, imod_ok (by omega), Option.bind_some]
    · first
        | omega
        | (rw [List.length_map, List.length_map]; omega)
  · rw [sortU_mem]
    constructor
    · intro h
      obtain ⟨z, hz, rfl⟩ := List.mem_map.mp h
      obtain ⟨p, hp⟩ := List.exists_mem_of_ne_nil _ ((key z).mp hz)
      obtain ⟨hp, ez⟩ := List.mem_filter.mp hp
      obtain ⟨g1, g2, g3⟩ := gone_mem hp
      exact ⟨p.1, p.2, g1, g2, g3, by rw [of_decide_eq_true ez]⟩
    · rintro ⟨s, t, h1, h2, h3, rfl⟩
      refine List.mem_map.mpr ⟨win ws s t, (key _).mpr (List.ne_nil_of_mem (a := (s, t)) (List.mem_filter.mpr ⟨?_, decide_eq_true rfl⟩)), rfl⟩
      unfold gone
      exact List.mem_append_left _ (List.mem_flatMap.mpr ⟨s, List.mem_range.mpr h1, List.mem_map.mpr ⟨t - 1, List.mem_range.mpr (by omega), by rw [Nat.sub_add_cancel h2]⟩⟩)
end Pr
/-! ## Sorted lists of rows -/
namespace Pr
open PySem L2 Lf Mi Pl Pm
/-- the first of them in order -/
theorem sortR_perm (l : List (List Int)) : (sortR l).Perm l := List.mergeSort_perm _ _
theorem sortR_inc (l : List (List Int)) : (sortR l).Pairwise (· ≤ ·) := by
  have := List.pairwise_mergeSort (le := fun a b : List Int => decide (a ≤ b)) (fun a b c h1 h2 => decide_eq_true (List.le_trans (of_decide_eq_true h1) (of_decide_eq_true h2))) (fun a b => by
    rcases List.le_total a b with h | h
    · rw [decide_eq_true h]
      rfl
    · rw [decide_eq_true h]
      exact Bool.or_true _) l
  exact this.imp fun h => of_decide_eq_true h
theorem sortR_first (l : List (List Int)) : atI (sortR l) (0 : Int) = minL l := by
  have p := sortR_perm l
  have s := sortR_inc l
  cases l with
  | nil =>
    rw [p.eq_nil]
    rfl
  | cons x xs =>
    obtain ⟨a, b⟩ := least_is xs x
    cases q : sortR (x :: xs) with
    | nil =>
      rw [q] at p
      cases p.nil_eq
    | cons y ys =>
      rw [q] at p s
      have le := b y (p.mem_iff.mp List.mem_cons_self)
      have ge : y ≤ leastD x xs := by
        rcases List.mem_cons.mp (p.mem_iff.mpr a) with h | h
        · rw [h]
          exact List.le_refl _
        · exact (List.pairwise_cons.mp s).1 _ h
      exact (atI_nat' (i := 0) rfl).trans (congrArg some (List.le_antisymm ge le))
theorem sortR_same {l : List (List Int)} (h : l.Pairwise (· ≤ ·)) : sortR l = l := List.mergeSort_of_pairwise (h.imp fun q => decide_eq_true q)
end Pr
/-! ## Told back, by the program and by the law -/
namespace Pr
open PySem L2 Lf Mi Pl Pm
/-! the rows -/
def rows37 (n x : Int) : Option (List (List Int)) :=
  Option.bind (irng (0 : Int) (n - (1 : Int))) fun y368 =>
  Option.bind (Res.val (Res.fold (fun (s370 : (List (List Int))) (x371 : Int) =>
  Res.bind (Res.fold (fun (s372 : (List (List Int))) (x373 : (List Int)) =>
  Res.req (irng (1 : Int) (x - x373.sum)) fun y374 =>
  Res.req (mapO (fun (x376 : Int) => (Option.bind (cat x373 [x376]) fun y381 => (some (some y381)))) y374) fun y383 =>
  Res.req (cat s372 y383) fun y385 =>
  .ok y385) s370 []) fun (s387 : (List (List Int))) =>
  .ok s387) y368 [[]])) fun s389 =>
  Option.bind (mapO (fun (x391 : (List Int)) => (Option.bind (cat x391 [(x - x391.sum)]) fun y396 => (some (some y396)))) s389) fun y398 =>
  mapO (fun (x400 : (List Int)) => (Option.bind (atI x400 (-(1 : Int))) fun y405 => (if (decide ((0 : Int) < y405)) then (some (some x400)) else some none))) y398
theorem rows37_ok {n x : Int} {l : List (List Int)} (h : rows37 n x = some l) : m_l_rows n x = .ok (sortR l) := by
  unfold rows37 at h
  obtain ⟨a, ea, h⟩ := Option.bind_eq_some_iff.mp h
  obtain ⟨b, eb, h⟩ := Option.bind_eq_some_iff.mp h
  obtain ⟨c, ec, h⟩ := Option.bind_eq_some_iff.mp h
  unfold m_l_rows
  exact req_go ea (bind_go (val_ok eb) (req_go ec (req_go h rfl)))
def incR : List (List Int) → Bool
  | a :: b :: t => decide (a < b) && incR (b :: t)
  | _ => true
theorem incR_pw : ∀ l : List (List Int), incR l = true → l.Pairwise (· < ·)
  | [], _ => .nil
  | [a], _ => List.pairwise_singleton _ _
  | a :: b :: t, h => by
    unfold incR at h
    obtain ⟨h1, h2⟩ := (Bool.and_eq_true _ _).mp h
    have p := incR_pw (b :: t) h2
    refine List.pairwise_cons.mpr ⟨fun y hy => ?_, p⟩
    rcases List.mem_cons.mp hy with rfl | hy
    · exact of_decide_eq_true h1
    · exact List.lt_trans (of_decide_eq_true h1) ((List.pairwise_cons.mp p).1 y hy)
def ok37 (n x : Nat) : Bool := match rows37 (n : Int) (x : Int), Res.val (m_rows_of_ 8 (n : Int) (x : Int)) with
  | some l, some l' => decide (l = l') && incR l && decide (l.length ≤ 1000)
  | _, _ => false
theorem all37 : ∀ n ∈ [1, 2, 3, 4], ∀ x ∈ List.range 13, n ≤ x → ok37 n x = true := by decide +kernel
theorem rows_all {n x : Nat} (h1 : 1 ≤ n) (h2 : n ≤ 4) (h3 : n ≤ x) (h4 : x ≤ 12) : ∃ R, m_rows_of (n : Int) (x : Int) = .ok R ∧ m_l_rows (n : Int) (x : Int) = .ok R ∧ R.Pairwise (· < ·) ∧ R.length ≤ 1000 ∧ ∀ row ∈ R, RowOf n x row := by
  have q := all37 n (by simp; omega) x (List.mem_range.mpr (by omega)) h3
  unfold ok37 at q
  split at q
  · rename_i l l' e1 e2
    obtain ⟨q, q3⟩ := (Bool.and_eq_true _ _).mp q
    obtain ⟨q1, q2⟩ := (Bool.and_eq_true _ _).mp q
    have e := of_decide_eq_true q1
    subst e
    have pw := incR_pw l q2
    have e2 := val_ok e2
    obtain ⟨r, er, _, hr⟩ := rows_in 8 n x h1 (by omega) h3 (by omega) h2
    have e := Res.ok.inj (e2.symm.trans er)
    subst e
    refine ⟨l, e2, ?_, pw, of_decide_eq_true q3, fun row h => (hr row).mp h⟩
    rw [rows37_ok e1, sortR_same (pw.imp fun h => List.le_of_lt h)]
  · cases q
/-! the rests -/
noncomputable def rs (row : List Int) : List Int := okOf (m_rests_of (mk row)) []
theorem rs_ok {row : List Int} (R : Row row) (l : row.length ≤ 50) : m_rests_of (mk row) = .ok (rs row) ∧ (rs row).Pairwise (· < ·) ∧ ∀ k, k ∈ rs row ↔ SumsOf row k := by
  obtain ⟨x, e, h⟩ := rests22 R l
  have k : rs row = x := okOf_ok e
  rw [k]
  exact ⟨e, h⟩
theorem lrests37 {ws : List Int} (R : Row ws) (l5 : ws.length ≤ 50) : ∃ s, m_l_rests ws = .ok s ∧ s.length ≤ 2500 ∧ ∀ k, k ∈ s ↔ SumsOf ws k := by
  have q1 := R.sum0
  have n0 := R.n0
  unfold m_l_rests
  rw [req_some rfl, req_some (irng_ups (n := ws.length) (by omega) (by omega) (by omega) (by omega))]
  refine fold_exF (Q := fun s : List Int => s.length ≤ 2500 ∧ ∀ k, k ∈ s ↔ SumsOf ws k) (fun i (s : List Int) => s.length = i * ws.length ∧ ∀ k, k ∈ s ↔ ∃ a t : Nat, a < i ∧ 1 ≤ t ∧ t ≤ ws.length ∧ win ws a t % ws.sum = k) ⟨by simp, fun k => ⟨fun h => (by cases h), fun ⟨a, t, h, _⟩ => absurd h (Nat.not_lt_zero _)⟩⟩ (fun i x s hx h => ?_) fun s h => ?_
  · obtain ⟨hi, ex⟩ := ups_at hx
    obtain rfl : x = (i : Int) := by omega
    obtain ⟨sl, sm⟩ := h
    have ib : i * ws.length ≤ 50 * 50 := Nat.mul_le_mul (by omega) l5
    have em : mapO (fun (x286 : Int) => (Option.bind (Res.val (m_l_sum ws (i : Int) x286)) fun y291 => (Option.bind (imod y291 ws.sum) fun y293 => (some (some y293))))) (ups 1 ws.length) = some ((ups 1 ws.length).map fun x => win ws i x.toNat % ws.sum) := mapO_ok fun x hx => by
      obtain ⟨j, hj⟩ := List.getElem?_of_mem hx
      obtain ⟨lj, ej⟩ := ups_at hj
      obtain rfl : x = ((j + 1 : Nat) : Int) := by omega
      rw [val_some (lsum_ok R (by omega) (by omega)), Option.bind_some, imod_ok (by omega), Option.bind_some, Int.toNat_natCast]
    refine ⟨_, req_go (irng_ups (n := ws.length) (by omega) (by omega) (by omega) (by omega)) (req_go em (req_go (cat_ok (by rw [List.length_map, ups_len]; omega)) rfl)), by rw [List.length_append, List.length_map, ups_len, sl, Nat.succ_mul], fun k => ?_⟩
    rw [List.mem_append, sm]
    constructor
    · rintro (⟨a, t, h1, h2, h3, e⟩ | h)
      · exact ⟨a, t, by omega, h2, h3, e⟩
      · obtain ⟨x, hx, e⟩ := List.mem_map.mp h
        obtain ⟨j, hj⟩ := List.getElem?_of_mem hx
        obtain ⟨lj, ej⟩ := ups_at hj
        exact ⟨i, x.toNat, by omega, by omega, by omega, e⟩
    · rintro ⟨a, t, h1, h2, h3, e⟩
      by_cases c : a < i
      · exact .inl ⟨a, t, c, h2, h3, e⟩
      · obtain rfl : a = i := by omega
        refine .inr (List.mem_map.mpr ⟨(t : Int), ?_, by rw [Int.toNat_natCast]; exact e⟩)
        unfold ups
        exact List.mem_map.mpr ⟨t - 1, List.mem_range.mpr (by omega), by omega⟩
  · obtain ⟨sl, sm⟩ := h
    rw [ups_len] at sl sm
    have LL : ws.length * ws.length ≤ 50 * 50 := Nat.mul_le_mul l5 l5
    refine ⟨_, rfl, by omega, fun k => ?_⟩
    rw [sm]
    exact ⟨fun ⟨a, t, h⟩ => ⟨a, t, h⟩, fun ⟨a, t, h⟩ => ⟨a, t, h⟩⟩
/-! the forms -/
theorem lforms37 {ws : List Int} (l9 : ws.length ≤ 1000) : m_l_forms ws = .ok (sortR (formsUp ws 2)) := by
  have lr : ws.reverse.length = ws.length := List.length_reverse
  have e1 : ∀ (x : List Int) (s : List (List Int)), x.length ≤ 1000 → s.length ≤ 1000 → (Res.req (irng (0 : Int) (x.length : Int)) fun y370 =>
      Res.req (mapO (fun (x372 : Int) => (Option.bind (cat (cut x (some x372) none) (cut x none (some x372))) fun y377 => (some (some y377)))) y370) fun y379 =>
      Res.req (cat s y379) fun y381 =>
      .ok y381) = .ok (s ++ formsL x) := fun x s lx ls => by
    rw [req_some (irng_ups (n := x.length) (by omega) (by omega) (by omega) (by omega)), req_some (forms_of_row lx), req_some (cat_ok (by rw [formsL_len]; omega))]
  unfold m_l_forms
  refine fold_bind (fun i s => s = formsUp ws i) rfl (fun i x s hx e => ?_) fun s e => by subst e; rfl
  subst e
  have hi := (List.getElem?_eq_some_iff.mp hx).1
  simp only [List.length_cons, List.length_nil] at hi
  have : i = 0 ∨ i = 1 := by omega
  rcases this with rfl | rfl
  · cases hx
    exact ⟨_, e1 ws [] (by omega) (by simp), rfl⟩
  · cases hx
    exact ⟨_, e1 ws.reverse (formsL ws) (by omega) (by rw [formsL_len]; omega), rfl⟩
theorem forms_least {ws : List Int} (ne : ws ≠ []) : ∃ m, minL (formsUp ws 2) = some m ∧ Least ws m := by
  cases q : formsUp ws 2 with
  | nil =>
    have := (mem_forms ne).mpr (Form.refl ws)
    rw [q] at this
    cases this
  | cons x xs =>
    obtain ⟨a, b⟩ := least_is xs x
    refine ⟨_, rfl, ?_, fun y hy => ?_⟩
    · rw [← q] at a
      exact (mem_forms ne).mp a
    · exact b y (by rw [← q]; exact (mem_forms ne).mpr hy)
theorem first37 {ws : List Int} (ne : ws ≠ []) (l9 : ws.length ≤ 1000) : atI (sortR (formsUp ws 2)) (0 : Int) = some (lfm ws) := by
  obtain ⟨m, e, h⟩ := forms_least ne
  obtain ⟨_, h2⟩ := lfm_ok ne l9
  rw [sortR_first, e, h.same (Form.refl ws) h2]
theorem forms37 {n x : Nat} {R : List (List Int)} (h1 : 1 ≤ n) (h2 : n ≤ 4) (e : m_rows_of (n : Int) (x : Int) = .ok R) (hr : ∀ row ∈ R, RowOf n x row) : m_forms_of (n : Int) (x : Int) = .ok (R.filter fun row => decide (lfm row = row)) := by
  unfold m_forms_of
  refine reqv e (req_go ((mapO_filter (c := fun row => decide (lfm row = row)) (g := fun row => row) fun row hm => ?_).trans (by rw [List.map_id'])) rfl)
  obtain ⟨a, b, c⟩ := hr row hm
  rw [val_some (lfm_ok (fun e => by rw [e] at a; simp at a; omega) (by omega)).1, Option.bind_some]
/-! what goes and what does not -/
noncomputable def good (lap : Int) (goes lacks : List Int) (row : List Int) : Bool := goes.all (fun a => decide (a % lap ∈ rs row)) && lacks.all fun a => !decide (a % lap ∈ rs row)
theorem good_nil {lap : Int} {goes lacks row : List Int} : decide ((goes.filter fun a => !decide (a % lap ∈ rs row)) ++ (lacks.filter fun a => decide (a % lap ∈ rs row)) = []) = good lap goes lacks row := by
  unfold good
  rw [Bool.eq_iff_iff, decide_eq_true_iff, List.append_eq_nil_iff, List.filter_eq_nil_iff, List.filter_eq_nil_iff, Bool.and_eq_true, List.all_eq_true, List.all_eq_true]
  simp
theorem amount37 {n : Int} (h : 1 ≤ n) : m_check_amount (PV.of n) = .ok () := by
  refine reqv (x := true) (reqv whole (req_go (x := true) ?_ rfl)) rfl
  show some (decide ((1 : Int) ≤ n)) = some true
  rw [decide_eq_true h]
theorem asL_of {l : List Int} (h : l.length ≤ 1000000) : PV.asL (PV.of l) = some (l.map PV.of) := by
  show (if (l.map PV.of).length ≤ sizeLine then some (l.map PV.of) else none) = _
  exact if_pos (by rw [List.length_map, sizeLine_eq]; omega)
theorem intsL_of : ∀ l : List Int, PV.intsL (l.map PV.of) = some l
  | [] => rfl
  | x :: l => by
    show (match (PV.of x).asI, PV.intsL (l.map PV.of) with
      | some i, some r => some (i :: r)
      | _, _ => none) = _
    rw [intsL_of l]
    rfl
theorem asLI_of {l : List Int} (h : l.length ≤ 1000000) : PV.asLI (PV.of l) = some l := by
  unfold PV.asLI
  rw [asL_of h]
  exact intsL_of l
theorem amounts37 {l : List Int} (h : ∀ a ∈ l, 1 ≤ a) (n : l.length ≤ 1000000) : m_check_amounts (PV.of l) = .ok () := by
  refine bind_go (x := ()) rfl (req_go (asL_of n) (fold_bind (fun _ _ => True) trivial (fun i x s hx _ => ⟨(), ?_, trivial⟩) fun _ _ => rfl))
  obtain ⟨a, ha, rfl⟩ := List.mem_map.mp (List.mem_of_getElem? hx)
  exact bind_go (amount37 (h a ha)) (req_go (x := a) rfl rfl)
theorem fil_take {c : List Int → Bool} {l : List (List Int)} {i : Nat} {x : List Int} (h : l[i]? = some x) : (l.take (i + 1)).filter c = (l.take i).filter c ++ if c x then [x] else [] := by
  rw [List.take_add_one, h, List.filter_append]
  congr 1
  cases e : c x with
  | true => simp [e]
  | false => simp [e]
theorem told37 {n x : Nat} {R : List (List Int)} (h1 : 1 ≤ n) (h2 : n ≤ 4) (h3 : n ≤ x) (h4 : x ≤ 12) (e : m_rows_of (n : Int) (x : Int) = .ok R) (hr : ∀ row ∈ R, RowOf n x row) (Rl : R.length ≤ 1000) {goes lacks : List Int} (g1 : ∀ a ∈ goes, 1 ≤ a) (l1 : ∀ a ∈ lacks, 1 ≤ a) (gl : goes.length + lacks.length ≤ 1000) :
    m_told_back (PV.of (n : Int)) (PV.of (x : Int)) (PV.of goes) (PV.of lacks) = .ok ((R.filter fun row => decide (lfm row = row)).filter (good x goes lacks)) := by
  have ef := forms37 h1 h2 e hr
  generalize hfs : (R.filter fun row => decide (lfm row = row)) = fs at ef
  have fl : fs.length ≤ 1000 := by
    rw [← hfs]
    have := List.length_filter_le (fun row => decide (lfm row = row)) R
    omega
  have hf : ∀ row ∈ fs, RowOf n x row := fun row h => by
    rw [← hfs] at h
    exact hr row (List.mem_filter.mp h).1
  unfold m_told_back
  refine bind_go (cn (by omega)) (req_go (x := (n : Int)) rfl (reqv whole (req_go (x := false) ?_ (if_neg' rfl (req_go (x := (x : Int)) rfl (bind_go (amounts37 g1 (by omega)) (req_go (asLI_of (by omega)) (bind_go (amounts37 l1 (by omega)) (req_go (asLI_of (by omega)) (reqv ef (fold_bind (fun i s => s = (fs.take i).filter (good x goes lacks)) (by simp) (fun i row s hx h => ?_) fun s h => by rw [h, List.take_length])))))))))))
  · show some (decide ((x : Int) < (n : Int))) = some false
    rw [decide_eq_false (by omega)]
  · subst h
    have ro := hf row (List.mem_of_getElem? hx)
    have RR := ro.row h1 (by omega) h2
    obtain ⟨e1, _, _⟩ := rs_ok RR (by have := ro.1; omega)
    have lp : (0 : Int) < (x : Int) := by omega
    have eg : mapO (fun (x458 : Int) => (Option.bind (imod x458 (x : Int)) fun y463 => (if (!decide (y463 ∈ rs row)) then (some (some x458)) else some none))) goes = some (goes.filter fun a => !decide (a % (x : Int) ∈ rs row)) := (mapO_filter (c := fun a => !decide (a % (x : Int) ∈ rs row)) (g := fun a => a) fun a _ => by rw [imod_ok lp, Option.bind_some]).trans (by rw [List.map_id'])
    have ek : mapO (fun (x469 : Int) => (Option.bind (imod x469 (x : Int)) fun y474 => (if (decide (y474 ∈ rs row)) then (some (some x469)) else some none))) lacks = some (lacks.filter fun a => decide (a % (x : Int) ∈ rs row)) := (mapO_filter (c := fun a => decide (a % (x : Int) ∈ rs row)) (g := fun a => a) fun a _ => by rw [imod_ok lp, Option.bind_some]).trans (by rw [List.map_id'])
    have f1 := List.length_filter_le (fun a => !decide (a % (x : Int) ∈ rs row)) goes
    have f2 := List.length_filter_le (fun a => decide (a % (x : Int) ∈ rs row)) lacks
    have f3 := List.length_filter_le (good (x : Int) goes lacks) (fs.take i)
    rw [List.length_take] at f3
    refine ⟨_, reqv (init_ok RR) (reqv e1 (req_go eg (req_go ek (req_go (cat_ok (by omega)) ?_)))), (fil_take hx).symm⟩
    rw [good_nil]
    cases good (x : Int) goes lacks row with
    | true => exact req_go (app_ok (by omega)) rfl
    | false =>
      show Res.ok _ = _
      simp
theorem due37 {n x : Nat} {R : List (List Int)} (h1 : 1 ≤ n) (h2 : n ≤ 4) (h3 : n ≤ x) (h4 : x ≤ 12) (e : m_l_rows (n : Int) (x : Int) = .ok R) (hr : ∀ row ∈ R, RowOf n x row) (Rl : R.length ≤ 1000) {goes lacks : List Int} (gl : goes.length + lacks.length ≤ 1000) :
    m_l_due (n : Int) (x : Int) goes lacks = .ok ((R.filter fun row => decide (lfm row = row)).filter (good x goes lacks)) := by
  unfold m_l_due
  refine reqv e (fold_bind (fun i s => s = ((R.take i).filter fun row => decide (lfm row = row)).filter (good x goes lacks)) (by simp) (fun i row s hx h => ?_) fun s h => by rw [h, List.take_length])
  subst h
  have ro := hr row (List.mem_of_getElem? hx)
  have RR := ro.row h1 (by omega) h2
  have r4 : row.length ≤ 50 := by
    have := ro.1
    omega
  obtain ⟨_, _, m1⟩ := rs_ok RR r4
  obtain ⟨s, es, sl, sm⟩ := lrests37 RR r4
  have mem : ∀ k, decide (k ∈ s) = decide (k ∈ rs row) := fun k => by rw [decide_eq_decide, sm, m1]
  have lp : (0 : Int) < (x : Int) := by omega
  have eg : mapO (fun (x458 : Int) => (Option.bind (imod x458 (x : Int)) fun y463 => (if (!decide (y463 ∈ s)) then (some (some x458)) else some none))) goes = some (goes.filter fun a => !decide (a % (x : Int) ∈ rs row)) := (mapO_filter (c := fun a => !decide (a % (x : Int) ∈ rs row)) (g := fun a => a) fun a _ => by rw [imod_ok lp, Option.bind_some, mem]).trans (by rw [List.map_id'])
  have ek : mapO (fun (x469 : Int) => (Option.bind (imod x469 (x : Int)) fun y474 => (if (decide (y474 ∈ s)) then (some (some x469)) else some none))) lacks = some (lacks.filter fun a => decide (a % (x : Int) ∈ rs row)) := (mapO_filter (c := fun a => decide (a % (x : Int) ∈ rs row)) (g := fun a => a) fun a _ => by rw [imod_ok lp, Option.bind_some, mem]).trans (by rw [List.map_id'])
  have f1 := List.length_filter_le (fun a => !decide (a % (x : Int) ∈ rs row)) goes
  have f2 := List.length_filter_le (fun a => decide (a % (x : Int) ∈ rs row)) lacks
  have f3 := List.length_filter_le (good (x : Int) goes lacks) ((R.take i).filter fun row => decide (lfm row = row))
  have f4 := List.length_filter_le (fun row => decide (lfm row = row)) (R.take i)
  rw [List.length_take] at f4
  have R1000 := RR.len
  have dd : decide (row = lfm row) = decide (lfm row = row) := by rw [decide_eq_decide]; exact eq_comm
  refine ⟨_, reqv (lforms37 (by omega)) (req_go (first37 RR.ne (by omega)) ?_), by rw [fil_take hx, List.filter_append]⟩
  rw [dd]
  cases decide (lfm row = row) with
  | false =>
    show Res.ok _ = _
    simp
  | true =>
    refine if_pos' rfl (reqv es (req_go eg (req_go ek (req_go (cat_ok (by omega)) ?_))))
    rw [good_nil]
    cases q : good (x : Int) goes lacks row with
    | true =>
      refine if_pos' rfl (req_go (app_ok (by omega)) ?_)
      simp [q]
    | false =>
      show Res.ok _ = _
      simp [q]
end Pr
/-! ## The law of rolls told back: plain -/
namespace Pr
open PySem L2 Lf Mi Pl Pm
theorem told_rows {l : List (List Int)} {k : Nat} (h : ∀ r ∈ l, r.length ≤ 4 ∧ ∀ z ∈ r, z.natAbs < 10 ^ 200) (n : l.length ≤ 1000) : ∃ s, told l = some s := by
  refine ⟨_, told_ok (x := l) (fit_list fun d hd => ?_) ?_⟩
  · obtain ⟨r, hr, rfl⟩ := List.mem_map.mp hd
    refine fit_list fun d hd => ?_
    obtain ⟨x, hx, rfl⟩ := List.mem_map.mp hd
    exact fit_int ((h r hr).2 x hx)
  · show PyData.bulk (.list (l.map fun r => PyData.list (r.map PyData.int))) ≤ 40000
    simp only [PyData.bulk]
    have : ∀ l : List (List Int), (∀ r ∈ l, r.length ≤ 4) → PyData.bulkAll (l.map fun r => PyData.list (r.map PyData.int)) ≤ 10 * l.length := fun l => by
      induction l with
      | nil =>
        intro _
        simp only [List.map_nil, PyData.bulkAll]
        omega
      | cons r l ih =>
        intro h
        have a := ih fun x hx => h x (List.mem_cons_of_mem _ hx)
        have b := h r List.mem_cons_self
        rw [List.map_cons]
        simp only [PyData.bulkAll, PyData.bulk, List.length_cons]
        rw [bulk_map (c := 0) (fun x => by simp only [PyData.bulk])]
        omega
    have := this l fun r hr => (h r hr).1
    omega
theorem few_sum : ∀ {ws : List Int}, (∀ z ∈ ws, 1 ≤ z ∧ z ≤ 3) → (ws.length : Int) ≤ ws.sum ∧ ws.sum ≤ 3 * ws.length
  | [], _ => by simp
  | z :: ws, h => by
    have a := few_sum (ws := ws) fun y hy => h y (List.mem_cons_of_mem _ hy)
    have b := h z List.mem_cons_self
    rw [List.sum_cons, List.length_cons]
    omega
theorem range_ix {n i j : Nat} (h : (List.range n)[i]? = some j) : i < n ∧ j = i := by
  obtain ⟨l, e⟩ := List.getElem?_eq_some_iff.mp h
  rw [List.getElem_range] at e
  rw [List.length_range] at l
  exact ⟨l, e.symm⟩
theorem law_ok (s : Sc) : m_law s = .ok true := by
  unfold m_law
  rw [req_some (irng_ups (n := 4) rfl (by omega) (by omega) (by omega))]
  refine loop_after (fun _ _ => True) trivial (fun i x t hx _ => ⟨(), ?_, trivial⟩) fun t _ => ?_
  · obtain ⟨hi, ex⟩ := ups_at hx
    obtain ⟨p0, e0, u0⟩ := purse_ok s (k := x) ⟨by omega, by omega⟩
    obtain ⟨ws, p1, e1, u1, w1, w2, w3⟩ := drawn_ok u0 (by omega) (k := 4) (g := 3) ⟨by omega, by omega⟩ ⟨by omega, by omega⟩
    have Rw : Row ws := ⟨fun e => by rw [e] at w1; exact absurd w1 (by decide), fun z h => (w3 z h).1, fun z h => by have := (w3 z h).2; omega, by omega⟩
    obtain ⟨s1, s2⟩ := few_sum w3
    obtain ⟨n, hn⟩ : ∃ n : Nat, ws.length = n := ⟨_, rfl⟩
    obtain ⟨y, hy⟩ : ∃ y : Nat, ws.sum = y := ⟨ws.sum.toNat, by omega⟩
    obtain ⟨R, r1, r2, r3, r4, r5⟩ := rows_all (n := n) (x := y) (by omega) (by omega) (by omega) (by omega)
    obtain ⟨sr, esr, _, _⟩ := lrests37 Rw (by omega)
    obtain ⟨k, p2, e2, u2, k0, k1⟩ := draw_ok u1 (by omega) (n := 5) ⟨by omega, by omega⟩
    refine reqv e0 (reqv e1 (reqv e2 (req_go (irng_ups (n := k.toNat) (by omega) (by omega) (by omega) (by omega)) ?_)))
    refine fold_bind (fun (i : Nat) (s : (List Int) × (List Int) × (List Int)) => Pu (2000000 + 10 * (i : Int)) s.1 ∧ (∀ a ∈ s.2.1, 1 ≤ a) ∧ (∀ a ∈ s.2.2, 1 ≤ a) ∧ s.2.1.length + s.2.2.length ≤ i) ⟨u2.le (by omega), fun _ h => absurd h List.not_mem_nil, fun _ h => absurd h List.not_mem_nil, Nat.le_refl _⟩ (fun i x s hx h => ?_) fun s h => ?_
    · obtain ⟨u, g1, g2, g3⟩ := h
      obtain ⟨hi, _⟩ := ups_at hx
      obtain ⟨z, q1, f1, v1, z0, z1⟩ := draw_ok u (by omega) (n := 2) ⟨by omega, by omega⟩
      obtain ⟨g, eg, ga, gb⟩ : ∃ g, atI [(20 : Int), (((10 : Int) ^ 30) - (1 : Int))] z = some g ∧ 1 ≤ g ∧ g < 2 ^ 110 := by
        have : z = 0 ∨ z = 1 := by omega
        rcases this with rfl | rfl
        · exact ⟨20, rfl, by omega, by omega⟩
        · exact ⟨10 ^ 30 - 1, rfl, by omega, by omega⟩
      obtain ⟨a, q2, f2, v2, a0, a1⟩ := draw_ok v1 (by omega) (n := g) ⟨ga, gb⟩
      have new : ∀ l : List Int, (∀ a ∈ l, 1 ≤ a) → ∀ b ∈ l ++ [1 + a], 1 ≤ b := fun l h b hb => by
        rcases List.mem_append.mp hb with hb | hb
        · exact h b hb
        · rw [List.mem_singleton.mp hb]
          omega
      by_cases c : (1 + a) % ws.sum ∈ sr
      · refine ⟨(q2, s.2.1 ++ [1 + a], s.2.2), reqv f1 (req_go eg (reqv f2 (req_go (imod_ok (show (0 : Int) < ws.sum by omega)) (reqv esr (if_pos' (decide_eq_true c) (req_go (app_ok (by omega)) rfl)))))), v2.le (by omega), new _ g1, g2, by show (s.2.1 ++ [1 + a]).length + s.2.2.length ≤ i + 1; rw [List.length_append, List.length_singleton]; omega⟩
      · refine ⟨(q2, s.2.1, s.2.2 ++ [1 + a]), reqv f1 (req_go eg (reqv f2 (req_go (imod_ok (show (0 : Int) < ws.sum by omega)) (reqv esr (if_neg' (decide_eq_false c) (req_go (app_ok (by omega)) rfl)))))), v2.le (by omega), g1, new _ g2, by show s.2.1.length + (s.2.2 ++ [1 + a]).length ≤ i + 1; rw [List.length_append, List.length_singleton]; omega⟩
    · obtain ⟨u, g1, g2, g3⟩ := h
      rw [ups_len] at u g3
      obtain ⟨z, q1, f1, v1, z0, z1⟩ := draw_ok u (by omega) (n := 4) ⟨by omega, by omega⟩
      refine reqv f1 ?_
      -- the amounts that go
      obtain ⟨t1, et, t2, t3⟩ : ∃ t : List Int × List Int, (if (decide (z = (0 : Int))) then Res.req (Res.val (m_l_draw q1 (12 : Int))) fun y587 =>
          Res.req (cat s.2.1 [((1 : Int) + y587.1)]) fun y589 =>
          .ok (y589, y587.2) else .ok (s.2.1, q1)) = .ok t ∧ (∀ a ∈ t.1, 1 ≤ a) ∧ t.1.length ≤ 100 := by
        by_cases c : z = 0
        · obtain ⟨b, q2, f2, v2, b0, b1⟩ := draw_ok v1 (by omega) (n := 12) ⟨by omega, by omega⟩
          refine ⟨(s.2.1 ++ [1 + b], q2), if_pos' (decide_eq_true c) (reqv f2 (req_go (cat_ok (by simp; omega)) rfl)), fun x hx => ?_, by rw [List.length_append]; show _ + 1 ≤ _; omega⟩
          rcases List.mem_append.mp hx with hx | hx
          · exact g1 x hx
          · rw [List.mem_singleton.mp hx]
            omega
        · exact ⟨(s.2.1, q1), if_neg' (decide_eq_false c) rfl, g1, by show s.2.1.length ≤ 100; omega⟩
      refine bind_go et ?_
      generalize t1.1 = go at t2 t3
      generalize s.2.2 = no at g2 g3
      have D := due37 (by omega) (by omega) (by omega) (by omega) r2 r5 r4 (goes := go) (lacks := no) (by omega)
      have T := told37 (by omega) (by omega) (by omega) (by omega) r1 r5 r4 t2 g2 (by omega)
      have D0 := due37 (by omega) (by omega) (by omega) (by omega) r2 r5 r4 (goes := []) (lacks := []) (by simp)
      have T0 := told37 (by omega) (by omega) (by omega) (by omega) r1 r5 r4 (goes := []) (lacks := []) (fun _ h => absurd h List.not_mem_nil) (fun _ h => absurd h List.not_mem_nil) (by simp)
      have nd : ((R.filter fun row => decide (lfm row = row)).filter (good y go no)).Nodup := ((r3.filter _).filter _).imp fun h e => by
        rw [e] at h
        exact List.lt_irrefl _ h
      have mem : ∀ r ∈ (R.filter fun row => decide (lfm row = row)).filter (good y go no), RowOf n y r ∧ lfm r = r := fun r h => by
        obtain ⟨a, b⟩ := List.mem_filter.mp (List.mem_filter.mp h).1
        exact ⟨r5 r a, of_decide_eq_true b⟩
      have len : ((R.filter fun row => decide (lfm row = row)).filter (good y go no)).length ≤ 1000 := by
        have a := List.length_filter_le (good y go no) (R.filter fun row => decide (lfm row = row))
        have b := List.length_filter_le (fun row => decide (lfm row = row)) R
        omega
      generalize (R.filter fun row => decide (lfm row = row)).filter (good y go no) = L at D T nd mem len
      generalize (R.filter fun row => decide (lfm row = row)).filter (good y [] []) = L0 at D0 T0
      obtain ⟨tl, etl⟩ : ∃ t, told L = some t := told_rows (k := 0) (fun r hr => by
        obtain ⟨ro, _⟩ := mem r hr
        have RR := ro.row (by omega) (by omega) (by omega)
        refine ⟨by have := ro.1; omega, fun z hz => ?_⟩
        have h1 := RR.big z hz
        have h2 := RR.pos z hz
        have : (2 : Nat) ^ 200 < 10 ^ 200 := by decide +kernel
        omega) len
      rw [hn, hy]
      refine reqv D (req_go (x := go) rfl (req_go (x := no) rfl (reqv T (req_go etl (req_go etl (if_neg' (by rw [decide_eq_true rfl, decide_eq_true rfl]; rfl) (req_go (if_pos nd) ?_)))))))
      refine loop_after (fun i s => s = i) rfl (fun i x t hx e => ?_) fun t _ => ?_
      · subst e
        obtain ⟨li, rfl⟩ := range_ix hx
        have hr : L[x]? = some L[x] := List.getElem?_eq_getElem li
        obtain ⟨ro, fr⟩ := mem _ (List.mem_of_getElem? hr)
        generalize L[x] = r at hr ro fr
        have RR := ro.row (by omega) (by omega) (by omega)
        have r50 : r.length ≤ 50 := by
          have := ro.1
          omega
        obtain ⟨f1, f2⟩ := lfm_ok RR.ne (by omega)
        rw [fr] at f1 f2
        have ff : m_first_form (mk r) = .ok r := reqv (by rfl) (reqv (worths_ok r) (reqv f1 rfl))
        obtain ⟨a1, a2, a3⟩ := rs_ok RR r50
        obtain ⟨sx, b1, b2, b3⟩ := lrests37 RR r50
        have er : m_rests (mk r) = .ok (rs r) := reqv (by rfl) (reqv a1 rfl)
        have es : setOk sx = some (rs r) := (if_pos (by omega)).trans (congrArg some (inc_eq (sortU_inc _) a2 fun k => by rw [sortU_mem, b3, a3]))
        have c : (if (!decide (r = r)) then some true else (Option.bind (Res.val (m_Roll_init r)) fun y623 => (Option.bind (Res.val (m_rests y623)) fun y625 => (Option.bind (Res.val (m_l_rests r)) fun y627 => (Option.bind (setOk y627) fun y629 => (some (!decide (y625 = y629)))))))) = some false := by
          rw [decide_eq_true rfl, if_neg (by decide), val_some (init_ok RR), Option.bind_some, val_some er, Option.bind_some, val_some b1, Option.bind_some, es, Option.bind_some, decide_eq_true rfl]
          rfl
        exact ⟨x + 1, req_go (if_pos rfl) (req_go hr (reqv (init_ok RR) (reqv ff (req_go c (if_neg' rfl (req_go (app_ok (by rw [List.length_map]; omega)) rfl)))))), rfl⟩
      · refine req_go (more_ok (by omega)) (reqv T (if_neg' (by rw [decide_eq_true rfl]; rfl) (reqv T0 (reqv D0 (if_neg' (by rw [decide_eq_true rfl]; rfl) rfl)))))
  · exact reqv (x := true) (val_ok (by decide +kernel)) rfl
end Pr

open PySem PySem.W PySem.Calls PyProof.Rows
theorem PySem.Challenge.cw_rollclerk_k37_rolls_told_back_holds : PySem.Challenge.rw_rollclerk_k37_rolls_told_back.Holds := by
  w_on; o_law
  refine HandSHeadRun.head_any (r := RC.R) (q := view RC.R.prog [40]) (H := RC.hk) (ob := RC.ob) (M := 4000) (loose := RC.loose) (d := HandSHeadRun.topDef RC.R.prog 40) (kwd := []) RC.ob_eq
    (by kernel_rfl) (fun s => by kernel_rfl) RC.run (by kernel_rfl) (by kernel_rfl) (by kernel_rfl) (by rfl) (by first | assumption | decide +kernel) (by decide +kernel) ⟨rfl, rfl, rfl, rfl, rfl, by decide +kernel⟩ ?hw ?hc
  case hw => w_witness2
  case hc =>
    refine RC.walk_ofG (l := PySem.Challenge.rw_rollclerk_k37_rolls_told_back) (n := 63) (k := 14) (x := "_law_script") rfl (by decide) (by kernel_rfl) ⟨rfl, by decide, by decide⟩ ?F
    intro w mg fa h Y G hmg0
    obtain ⟨K, KX, c⟩ := Y
    have hmg : mg ("law" : PySem.Str) = some (.ref fa) := by
      have e : (HandSHeadRun.topDef RC.R.prog 40).name = ("law" : PySem.Str) := by kernel_rfl
      rw [← e]
      exact hmg0
    obtain ⟨T⟩ := RC.txt_of KX G c
    have e := hmg.symm.trans T.g_law
    cases e
    have b := L2.FunD.bindsA (ps := ["_law_script"]) T.F_law fun _ _ _ _ _ _ us hl => match us, hl with | [_], _ => rfl
    exact ⟨K, T.fd_law, Lf.quiet (Mi.sp_law K), KX, fun s v => b s [v] rfl, fun H a ns hl _ hS => ⟨⟨ns⟩, [], H, hl, ⟨Lf.Plain.nil, Lf.FlatO.nil⟩, Lf.PArgs.sc hS, Lf.At.nil H, Lf.Says.yes ((fun s _ => Pr.law_ok s) ⟨ns⟩ hl)⟩, fun base _ _ => Lf.quietG (Mi.ok_law T)⟩
