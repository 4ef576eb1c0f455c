import PyProof.Rows.All
import Wide.All
import OpenK.AllK
import Wide.FinOn
import KE.KStateDown
import HandS.ForMost
import HandS.More
import HandS.Exc
import HandS.ExcOwn
import HandS.TryOnly
import HandS.WordsExc
import HandS.Defaults
import HandS.Wide
import HandS.WideBits
import HandS.Style
import HandS.IsInst
import HandS.Star
import HandS.OwnEq
import HandS.SortInts
import HandS.Evl
import HandS.TupAny
import KE.DataMinMax
import KE.SortData
import KE.DataCmp
import HandS.Head0
import HandS.Head1
import HandS.Head2
import HandS.HeadEnd
import HandS.HeadHook1
import HandS.HeadHook2
import KE.KExcSuper
import HandS.ExcValue
import HandS.CallSlots
import PyProof.LongRange
import HandS.ExcIs
import PySem.Challenge.RW_rollclerk_k11_totals_and_torn_rolls
set_option Elab.async false
set_option linter.all false
set_option maxRecDepth 100000
set_option maxHeartbeats 4000000
/-! ## The steps of a reading, one lemma a construct; heaps that grow -/
namespace RC
open PySem PySem.Spec PyProof.Rows L2

/-! ### heaps -/
theorem small1 {n : Nat} (h : n ≤ 100000) : n < sizeLine := Nat.lt_of_le_of_lt h (by decide)
theorem small2 {n : Nat} (h : n ≤ 100000) : n ≤ sizeLine := Nat.le_trans h (by decide)
theorem same_new {H : Hp} {p : Addr} {o : HO} (h : H p = none) : Same H (upd H p o) := fun b x e => by
  rw [upd_ne (ne_of_none e h)]
  exact e
/-- something new at p: the heap behind it by a name -/
theorem r_new {H : Hp} {o : HO} {Q : VK} (h : ∀ p H1, H p = none → Same H H1 → H1 p = some o → Q (.ref p) H1) : ∀ p, H p = none → Q (.ref p) (upd H p o) := fun p hp => h p _ hp (same_new hp) upd_same
theorem Same.rd {H H' : Hp} (e : Same H H') {a : Addr} {u : HO} (h : Rd H a u) : Rd H' a u := by
  rcases h with h | ⟨o, h⟩
  · exact .inl (e _ _ h)
  · exact .inr ⟨o, e _ _ h⟩
theorem Same.tup {K : PySem.W.Frag} {H H' : Hp} {a : Addr} {xs : List V} (e : Same H H') (h : SqT K H a xs) : SqT K H' a xs := by
  rcases h with h | h
  · exact .inl (Same.rd e h)
  · exact .inr h
theorem Same.lst {K : PySem.W.Frag} {H H' : Hp} {a : Addr} {xs : List V} (e : Same H H') (h : SqL K H a xs) : SqL K H' a xs := by
  rcases h with h | h
  · exact .inl (Same.rd e h)
  · exact .inr h
mutual
theorem Same.dp {K : PySem.W.Frag} {H H' : Hp} (e : Same H H') : ∀ {v : V} {d : PyData}, Dp K H v d → Dp K H' v d
  | _, _, .non => .non
  | _, _, .bl b => .bl b
  | _, _, .int i => .int i
  | _, _, .str x => .str x
  | _, _, .lst h a => .lst (Same.lst e h) (Same.dpa e a)
  | _, _, .tup h a => .tup (Same.tup e h) (Same.dpa e a)
theorem Same.dpa {K : PySem.W.Frag} {H H' : Hp} (e : Same H H') : ∀ {v : List V} {d : List PyData}, DpAll K H v d → DpAll K H' v d
  | _, _, .nil => .nil
  | _, _, .cons h t => .cons (Same.dp e h) (Same.dpa e t)
end
/-- G is a part of H that leaves p out -/
def Cut (p : Addr) (H G : Hp) : Prop := ∀ a o, G a = some o → a ≠ p ∧ H a = some o
theorem Cut.same {p : Addr} {H G : Hp} (c : Cut p H G) : Same G H := fun a o h => (c a o h).2
theorem Cut.of {p : Addr} {H G : Hp} (e : Same G H) (h : G p = none) : Cut p H G := fun a o q => ⟨ne_of_none q h, e a o q⟩
theorem Cut.upd {p : Addr} {H G : Hp} {o : HO} (c : Cut p H G) : Cut p (upd H p o) G := fun a u h => by
  obtain ⟨n, q⟩ := c a u h
  exact ⟨n, by rw [upd_ne n]; exact q⟩
theorem Cut.grow {p : Addr} {H H' G : Hp} (c : Cut p H G) (e : Same H H') : Cut p H' G := fun a o h => ⟨(c a o h).1, e a o (c a o h).2⟩
/-- the largest such part -/
def rest (H : Hp) (p : Addr) : Hp := fun a => if a = p then none else H a
theorem rest_cut (H : Hp) (p : Addr) : Cut p H (rest H p) := fun a o h => by
  unfold rest at h
  by_cases e : a = p
  · rw [if_pos e] at h
    cases h
  · rw [if_neg e] at h
    exact ⟨e, h⟩
theorem rest_ne {H : Hp} {p a : Addr} (e : a ≠ p) : rest H p a = H a := if_neg e
theorem rest_same {H : Hp} {p : Addr} : rest H p p = none := if_pos rfl
theorem same_rest {G H : Hp} {p : Addr} (e : Same G H) (h : G p = none) : Same G (rest H p) := fun a o q => by
  rw [rest_ne (ne_of_none q h)]
  exact e a o q
theorem rest_grow {H H' : Hp} {p : Addr} (e : Same H H') : Same (rest H p) (rest H' p) := fun a o h => by
  have n : a ≠ p := ((rest_cut H p) a o h).1
  rw [rest_ne n] at h ⊢
  exact e a o h
theorem rest_upd {H : Hp} {p : Addr} {o : HO} : rest (L2.upd H p o) p = rest H p := by
  funext a
  unfold rest
  by_cases e : a = p
  · rw [if_pos e, if_pos e]
  · rw [if_neg e, if_neg e, upd_ne e]
/-- all but what stands at p is as it was -/
def But (p : Addr) (H H' : Hp) : Prop := ∀ b o, b ≠ p → H b = some o → H' b = some o
theorem But.refl (p : Addr) (H : Hp) : But p H H := fun _ _ _ h => h
theorem But.of {p : Addr} {H H' : Hp} (e : Same H H') : But p H H' := fun b o _ h => e b o h
theorem But.trans {p : Addr} {H H1 H2 : Hp} (a : But p H H1) (b : But p H1 H2) : But p H H2 := fun c o n h => b c o n (a c o n h)
theorem But.upd {p : Addr} {H : Hp} {o : HO} : But p H (upd H p o) := fun b x n h => by rw [upd_ne n]; exact h
theorem But.same {p : Addr} {H0 H H' : Hp} (e : Same H0 H) (n : H0 p = none) (b : But p H H') : Same H0 H' := fun a o h => b a o (ne_of_none h n) (e a o h)
/-- something written at p: the heap behind it by a name -/
theorem r_mut {H : Hp} {p : Addr} {o : HO} {G : Hp → Prop} (h : ∀ H1, But p H H1 → H1 p = some o → G H1) : G (L2.upd H p o) := h _ But.upd upd_same
def notSeq : HO → Bool
  | .lst _ => false
  | .tup _ => false
  | .frz _ _ => false
  | _ => true
theorem But.lst {K : PySem.W.Frag} {p a : Addr} {H H' : Hp} {o : HO} {xs : List V} (b : But p H H') (hp : H p = some o) (k : notSeq o = true) (h : SqL K H a xs) : SqL K H' a xs := by
  rcases h with (h | ⟨ob, h⟩) | h
  · exact .inl (.inl (b _ _ (ne_of h hp fun e => by rw [← e] at k; cases k) h))
  · exact .inl (.inr ⟨ob, b _ _ (ne_of h hp fun e => by rw [← e] at k; cases k) h⟩)
  · exact .inr h
theorem But.tup {K : PySem.W.Frag} {p a : Addr} {H H' : Hp} {o : HO} {xs : List V} (b : But p H H') (hp : H p = some o) (k : notSeq o = true) (h : SqT K H a xs) : SqT K H' a xs := by
  rcases h with (h | ⟨ob, h⟩) | h
  · exact .inl (.inl (b _ _ (ne_of h hp fun e => by rw [← e] at k; cases k) h))
  · exact .inl (.inr ⟨ob, b _ _ (ne_of h hp fun e => by rw [← e] at k; cases k) h⟩)
  · exact .inr h
theorem Same.app {H H' : Hp} (e : Same H H') {a : Addr} {o : HO} (h : H a = some o) : H' a = some o := e a o h
theorem sq_of {K : PySem.W.Frag} {H : Hp} {a : Addr} {xs : List V} (h : H a = some (.lst xs)) : SqL K H a xs := .inl (.inl h)
theorem st_of {K : PySem.W.Frag} {H : Hp} {a : Addr} {xs : List V} (h : H a = some (.tup xs)) : SqT K H a xs := .inl (.inl h)

/-! ### the constructs -/
section
variable {K : PySem.W.Frag} {σ : L2.St} {H : Hp} {Q : VK} {D : Ends} {ta tb te tc : TE} {t u : TS} {tt uu : TT}
theorem r_seq (h : t { D with nx := u D } σ H) : tSeq t u D σ H := h
theorem r_next (h : D.nx σ H) : tNext D σ H := h
theorem r_ret (h : te σ H D.rt) : tRet te D σ H := h
theorem r_drop (h : te σ H fun _ H1 => D.nx σ H1) : tDrop te D σ H := h
theorem r_ifs (h : tt σ H fun b H1 => if b = true then t D σ H1 else u D σ H1) : tIfS tt t u D σ H := h
theorem r_asg {i : Nat} (h : te σ H fun x H1 => D.nx (σ.set i (some x)) H1) : tAsg te (gName i) D σ H := h
theorem r_var {i : Nat} {v : V} (e : σ[i]? = some (some v)) (h : Q v H) : tVar i σ H Q := ⟨v, e, h⟩
theorem r_c {v : V} (h : Q v H) : tC v σ H Q := h
theorem r_op {r : R2} (h : ta σ H fun x H1 => tb σ H1 fun y H2 => r x y H2 Q) : tOp r ta tb σ H Q := h
theorem r_un {r : V → Hp → VK → Prop} (h : ta σ H fun x H1 => r x H1 Q) : tUn r ta σ H Q := h
theorem r_I0 {g : Int → Int → V} {i j : Int} (h : Q (g i j) H) : rI0 g (.int i) (.int j) H Q := ⟨i, j, rfl, rfl, h⟩
theorem r_I {C : Int → Int → Prop} {g : Int → Int → V} {i j : Int} (c : C i j) (h : Q (g i j) H) : rI C g (.int i) (.int j) H Q := ⟨i, j, rfl, rfl, c, h⟩
theorem r_U {g : Int → V} {i : Int} (h : Q (g i) H) : rU g (.int i) H Q := ⟨i, rfl, h⟩
theorem r_eq {x y : V} (c : scal x y = true) (h : Q (.bl (decide (x = y))) H) : rEq x y H Q := ⟨c, h⟩
theorem r_ne {x y : V} (c : scal x y = true) (h : Q (.bl (!decide (x = y))) H) : rNe x y H Q := ⟨c, h⟩
theorem r_test {P : Bool → Hp → Prop} (h : te σ H fun x H' => ∃ k, x = .bl k ∧ P k H') : tTest te σ H P := h
theorem r_B {P : Bool → Hp → Prop} (h : te σ H fun x H' => ∃ k, x = .bl k ∧ P k H') : tB te σ H P := h
theorem r_bl {k : Bool} {P : Bool → Prop} (h : P k) : ∃ k', V.bl k = V.bl k' ∧ P k' := ⟨k, rfl, h⟩
theorem r_yes {P : Bool → Hp → Prop} (h : P true H) : tYes σ H P := h
theorem r_not {P : Bool → Hp → Prop} (h : tt σ H fun c H1 => P (!c) H1) : tNot tt σ H P := h
theorem r_and {P : Bool → Hp → Prop} (h : tt σ H fun c H1 => if c = true then uu σ H1 P else P false H1) : tAnd tt uu σ H P := h
theorem r_or {P : Bool → Hp → Prop} (h : tt σ H fun c H1 => if c = true then P true H1 else uu σ H1 P) : tOr tt uu σ H P := h
theorem r_andV (h : ta σ H fun x H1 => ∃ c, x = .bl c ∧ if c = true then tb σ H1 Q else Q (.bl false) H1) : tAndV ta tb σ H Q := h
theorem r_orV (h : ta σ H fun x H1 => ∃ c, x = .bl c ∧ if c = true then Q (.bl true) H1 else tb σ H1 Q) : tOrV ta tb σ H Q := h
theorem r_notV (h : ta σ H fun x H1 => ∃ c, x = .bl c ∧ Q (.bl (!c)) H1) : tNotV ta σ H Q := h
theorem r_ifE (h : tt σ H fun c H1 => if c = true then ta σ H1 Q else tb σ H1 Q) : tIf tt ta tb σ H Q := h
/-- a new object o -/
def Mk1 (o : List V → HO) (xs : List V) (H : Hp) (Q : VK) : Prop := xs.length ≤ sizeLine ∧ ∀ p, H p = none → Q (.ref p) (upd H p (o xs))
theorem r_tup {tA : TA} (h : tA σ H fun xs H1 => Mk1 .tup xs H1 Q) : tTup tA σ H Q := h
theorem r_lst {tA : TA} (h : tA σ H fun xs H1 => Mk1 .lst xs H1 Q) : tLst tA σ H Q := h
theorem r_mk {o : List V → HO} {xs : List V} (hl : xs.length ≤ sizeLine) (h : ∀ p H1, H p = none → Same H H1 → H1 p = some (o xs) → Q (.ref p) H1) : Mk1 o xs H Q := ⟨hl, r_new h⟩
theorem r_nil {P : List V → Hp → Prop} (h : P [] H) : tNil σ H P := h
theorem r_cons {tr : TA} {P : List V → Hp → Prop} (h : te σ H fun x H1 => tr σ H1 fun xs H2 => P (x :: xs) H2) : tCons te tr σ H P := h
theorem r_call {sp : Sp} {dvs : List V} {E : XK} {tA : TA} (h : tA σ H fun vs H1 => sp (vs ++ dvs) H1 Q E) : tCall sp dvs E tA σ H Q := h
theorem r_cb {r : List V → Hp → VK → Prop} {tA : TA} (h : tA σ H fun vs H1 => r vs H1 Q) : tCB r tA σ H Q := h
theorem r_slc {r : V → Option Int → Option Int → Hp → VK → Prop} {tl th : TO} (h : te σ H fun x H1 => tl σ H1 fun l H2 => th σ H2 fun w H3 => r x l w H3 Q) : tSl r te tl th σ H Q := h
theorem r_nopart {P : Option Int → Hp → Prop} (h : P none H) : tNoPart σ H P := h
theorem r_part {P : Option Int → Hp → Prop} (h : te σ H fun x H1 => ∃ i, x = .int i ∧ P (some i) H1) : tPart te σ H P := h
theorem r_int {i : Int} {P : Int → Prop} (h : P i) : ∃ i', V.int i = V.int i' ∧ P i' := ⟨i, rfl, h⟩
theorem r_par {i j : Nat} {tA : TA} (h : tA σ H fun vs H1 => ∃ v w, vs = [v, w] ∧ D.nx ((σ.set i (some v)).set j (some w)) H1) : tPar i j tA D σ H := h
theorem r_par2 {v w : V} {P : V → V → Prop} (h : P v w) : ∃ v' w', [v, w] = [v', w'] ∧ P v' w' := ⟨v, w, rfl, h⟩
theorem r_for {wi : TI} {g : TG} (h : wi σ H fun J H1 => ∃ W : Nat → Nat → L2.St → Hp → Prop, (∃ m, W 0 m σ H1) ∧ ∀ i m σ H, W i m σ H →
    (J.stop i H ∧ D.nx σ H) ∨ (J.go i H ∧ ∃ Nx : L2.St → Hp → Prop, (∀ σ' H', Nx σ' H' → ∃ m', m' < m ∧ W (i + 1) m' σ' H') ∧ ∀ x H', J.yld i H x H' → g x σ H' fun σ2 H2 => t { D with nx := Nx, ct := Nx, bk := D.nx } σ2 H2)) : tFor wi g t D σ H := h
/-- a list comprehension, its walk J known -/
theorem r_lc {wi : TI} {g : TG} {vs : List Nat} (h : wi σ H fun J H1 => tLc (fun _ H2 R => R J H2) g tt te vs σ H1 Q) : tLc wi g tt te vs σ H Q := h
def Rn1 (vs : List V) (H : Hp) (R : It → Hp → Prop) : Prop := ∃ j : Int, vs = [.int j] ∧ -(2 ^ 62) ≤ j ∧ j < 2 ^ 62 ∧ R (Itr 0 j.toNat) H
theorem r_rng1 {tA : TA} {R : It → Hp → Prop} (h : tA σ H fun vs H1 => Rn1 vs H1 R) : iRng1 tA σ H R := h
theorem r_rng1' {n : Nat} {j : Int} {R : It → Hp → Prop} (e : j = n) (hn : n ≤ 1000000) (h : R (Itr 0 n) H) : Rn1 [.int j] H R := ⟨j, rfl, by omega, by omega, by rw [e]; exact h⟩
def Rn2 (vs : List V) (H : Hp) (R : It → Hp → Prop) : Prop := ∃ i j : Int, vs = [.int i, .int j] ∧ (-(2 ^ 62) ≤ i ∧ i < 2 ^ 62 ∧ -(2 ^ 62) ≤ j ∧ j < 2 ^ 62) ∧ R (Itr i (j - i).toNat) H
theorem r_rng2 {tA : TA} {R : It → Hp → Prop} (h : tA σ H fun vs H1 => Rn2 vs H1 R) : iRng2 tA σ H R := h
theorem r_rng2' {i j : Int} {n : Nat} {R : It → Hp → Prop} (e : (j - i).toNat = n) (b : -1000000000000000000 ≤ i ∧ i ≤ 1000000000000000000 ∧ -1000000000000000000 ≤ j ∧ j ≤ 1000000000000000000) (h : R (Itr i n) H) : Rn2 [.int i, .int j] H R := ⟨i, j, rfl, by omega, by rw [e]; exact h⟩
def IlV (K : PySem.W.Frag) (x : V) (H : Hp) (R : It → Hp → Prop) : Prop := ∃ a, x = .ref a ∧ (∃ xs, SqL K H a xs) ∧ R (Itl K a) H
theorem r_ilist {R : It → Hp → Prop} (h : te σ H fun x H1 => IlV K x H1 R) : iList K te σ H R := h
def ItV (K : PySem.W.Frag) (x : V) (H : Hp) (R : It → Hp → Prop) : Prop := ∃ a, x = .ref a ∧ (∃ xs, SqT K H a xs) ∧ R (Itt K a) H
theorem r_itup {R : It → Hp → Prop} (h : te σ H fun x H1 => ItV K x H1 R) : iTup K te σ H R := h
theorem r_itup' {a : Addr} {xs : List V} {R : It → Hp → Prop} (hx : SqT K H a xs) (h : R (Itt K a) H) : ItV K (.ref a) H R := ⟨a, rfl, ⟨xs, hx⟩, h⟩
theorem ty_list {a : Addr} {xs : List V} (h : SqL K H a xs) : TyX K H (.ref a) (.type "list") := by
  rcases h with (h | ⟨ob, h⟩) | h
  · exact .base (.lst h)
  · exact .base (.frz h)
  · obtain ⟨o, its, n, h1, h2, _⟩ := h
    exact .kList h1 h2
theorem ty_tup {a : Addr} {xs : List V} (h : H a = some (.tup xs)) : TyX K H (.ref a) (.type "tuple") := .base (.tup h)
theorem r_ilist' {a : Addr} {xs : List V} {R : It → Hp → Prop} (hx : SqL K H a xs) (h : R (Itl K a) H) : IlV K (.ref a) H R := ⟨a, rfl, ⟨xs, hx⟩, h⟩
theorem r_gname {i : Nat} {v : V} {P : L2.St → Hp → Prop} (h : P (σ.set i (some v)) H) : gName i v σ H P := h
theorem r_gtup {K : PySem.W.Frag} {n : Nat} {t : TGs} {a : Addr} {xs : List V} {σ : L2.St} {H : Hp} {P : L2.St → Hp → Prop} (h : SqT K H a xs) (l : xs.length = n) (q : t xs σ H P) : gTup K n t (.ref a) σ H P := ⟨a, xs, rfl, h, l, q⟩
theorem r_gcons {t : TG} {u : TGs} {v : V} {vs : List V} {σ : L2.St} {H : Hp} {P : L2.St → Hp → Prop} (h : t v σ H fun σ2 H2 => u vs σ2 H2 P) : gCons t u (v :: vs) σ H P := ⟨v, vs, rfl, h⟩
theorem r_gnil {σ : L2.St} {H : Hp} {P : L2.St → Hp → Prop} (h : P σ H) : gNil [] σ H P := ⟨rfl, h⟩
/-! ### tests: known, or both ways -/
theorem if_t {b : Bool} {A B : Prop} (e : b = true) (h : A) : if b = true then A else B := by
  rw [if_pos e]
  exact h
theorem if_f {b : Bool} {A B : Prop} (e : b = false) (h : B) : if b = true then A else B := by
  rw [e, if_neg Bool.false_ne_true]
  exact h
theorem if_d {c A B : Prop} [Decidable c] (h1 : c → A) (h2 : ¬ c → B) : if decide c = true then A else B := by
  by_cases h : c
  · rw [if_pos (decide_eq_true h)]
    exact h1 h
  · rw [decide_eq_false h, if_neg Bool.false_ne_true]
    exact h2 h
theorem if_dn {c A B : Prop} [Decidable c] (h1 : ¬ c → A) (h2 : c → B) : if (!decide c) = true then A else B := by
  by_cases h : c
  · rw [decide_eq_true h]
    exact if_f rfl (h2 h)
  · rw [decide_eq_false h]
    exact if_t rfl (h1 h)
theorem r_tt {A B : Prop} (h : A) : if true = true then A else B := if_t rfl h
theorem r_ff {A B : Prop} (h : B) : if false = true then A else B := if_f rfl h
theorem r_ntt {A B : Prop} (h : B) : if (!true) = true then A else B := if_f rfl h
theorem r_nff {A B : Prop} (h : A) : if (!false) = true then A else B := if_t rfl h
theorem r_isi {x c : V} {t u : Value} {b : Bool} (k : ClsV c u) (ty : TyX K H x t) (e : PySem.W.kitOne K t u = some b) (h : Q (.bl b) H) : rIsi K [x, c] H Q := ⟨x, c, t, u, b, rfl, k, ty, e, h⟩
/-! ### lists -/
open Evl (rLenS rListS rMax2)
/-- len(xs), list(xs), tuple(xs) of a list or tuple -/
def rTupS (K : PySem.W.Frag) : List V → Hp → VK → Prop := fun xs H Q => ∃ p ys, xs = [.ref p] ∧ ((SqL K H p ys ∧ ∀ l, H l = none → Q (.ref l) (upd H l (.tup ys))) ∨ (SqT K H p ys ∧ Q (.ref p) H))
theorem call_lenS {X : Cx} : CallR X (.builtin "len") (rLenS X.K) := call_len_seq
theorem call_listS {X : Cx} : CallR X (.type "list") (rListS X.K) := call_list_of
theorem call_tupS {X : Cx} : CallR X (.type "tuple") (rTupS X.K) := call_tuple_of
theorem r_len {p : Addr} {xs : List V} {n : Int} (h : SqL K H p xs ∨ SqT K H p xs) (e : (xs.length : Int) = n) (q : Q (.int n) H) : rLenS K [.ref p] H Q := ⟨p, xs, rfl, h, by rw [e]; exact q⟩
theorem r_list {p : Addr} {xs : List V} (h : SqL K H p xs ∨ SqT K H p xs) (q : ∀ l H1, H l = none → Same H H1 → H1 l = some (.lst xs) → Q (.ref l) H1) : rListS K [.ref p] H Q := ⟨p, xs, rfl, h, r_new q⟩
theorem r_tupL {p : Addr} {xs : List V} (h : SqL K H p xs) (q : ∀ l H1, H l = none → Same H H1 → H1 l = some (.tup xs) → Q (.ref l) H1) : rTupS K [.ref p] H Q := ⟨p, xs, rfl, .inl ⟨h, r_new q⟩⟩
theorem r_tupT {p : Addr} {xs : List V} (h : SqT K H p xs) (q : Q (.ref p) H) : rTupS K [.ref p] H Q := ⟨p, xs, rfl, .inr ⟨h, q⟩⟩
/-- int(n), max(m, n), min(m, n) of ints, n.bit_length() -/
def rInt1 : List V → Hp → VK → Prop := fun xs H Q => (∃ i, xs = [.int i] ∧ Q (.int i) H) ∨ ∃ k, xs = [.bl k] ∧ Q (.int (if k then 1 else 0)) H
theorem call_intS {X : Cx} : CallR X (.type "int") rInt1 := call_int1
theorem r_int1 {i : Int} (h : Q (.int i) H) : rInt1 [.int i] H Q := .inl ⟨i, rfl, h⟩
def rMin2 : List V → Hp → VK → Prop := fun xs H Q => ∃ i j, xs = [.int i, .int j] ∧ Q (.int (if j < i then j else i)) H
theorem call_max2S {X : Cx} (hc : X.calm = true) : CallR X (.builtin "max") rMax2 := call_max2 hc
theorem call_min2S {X : Cx} (hc : X.calm = true) : CallR X (.builtin "min") rMin2 := call_min2 hc
theorem r_max2 {i j : Int} (h : Q (.int (if j > i then j else i)) H) : rMax2 [.int i, .int j] H Q := ⟨i, j, rfl, h⟩
theorem r_min2 {i j : Int} (h : Q (.int (if j < i then j else i)) H) : rMin2 [.int i, .int j] H Q := ⟨i, j, rfl, h⟩
def BitV (x : V) (H : Hp) (Q : VK) : Prop := ∃ i, x = .int i ∧ Q (.int (Builtin.Int.intBits i : Nat)) H
theorem r_bits (h : te σ H fun x H1 => BitV x H1 Q) : tBits te σ H Q := h
theorem r_bitV {i : Int} (h : Q (.int (Builtin.Int.intBits i : Nat)) H) : BitV (.int i) H Q := ⟨i, rfl, h⟩
/-- sum(xs) -/
theorem r_sum {p : Addr} {ns : List Int} (h : SqL K H p (ns.map V.int)) (q : Q (.int ns.sum) H) : rSum K [.ref p] H Q := ⟨p, ns, rfl, h, q⟩
/-- xs[a:b], xs[::-1], xs + ys, xs * k of lists -/
theorem r_sll {p : Addr} {xs : List V} {lo hi : Option Int} (h : SqL K H p xs) (q : ∀ l H1, H l = none → Same H H1 → H1 l = some (.lst (cutV xs lo hi)) → Q (.ref l) H1) : rSlL K (.ref p) lo hi H Q := ⟨p, xs, rfl, h, r_new q⟩
def RevV (K : PySem.W.Frag) (x : V) (H : Hp) (Q : VK) : Prop := ∃ a xs, x = .ref a ∧ SqL K H a xs ∧ ∀ p, H p = none → Q (.ref p) (upd H p (.lst xs.reverse))
theorem r_revl (h : te σ H fun x H1 => RevV K x H1 Q) : tRevL K te σ H Q := h
theorem r_revV {p : Addr} {xs : List V} (h : SqL K H p xs) (q : ∀ l H1, H l = none → Same H H1 → H1 l = some (.lst xs.reverse) → Q (.ref l) H1) : RevV K (.ref p) H Q := ⟨p, xs, rfl, h, r_new q⟩
theorem r_cat {l b : Addr} {xs zs : List V} (h1 : H l = some (.lst xs)) (h2 : H b = some (.lst zs)) (hz : xs.length + zs.length ≤ sizeLine) (q : ∀ p H1, H p = none → Same H H1 → H1 p = some (.lst (xs ++ zs)) → Q (.ref p) H1) : rCat (.ref l) (.ref b) H Q := ⟨l, b, xs, zs, rfl, rfl, h1, h2, hz, r_new q⟩
theorem r_ixl {p : Addr} {xs : List V} {i : Int} {v : V} (h : SqL K H p xs) (e : atI xs i = some v) (q : Q v H) : rIxL K (.ref p) (.int i) H Q := ⟨p, xs, i, v, rfl, rfl, h, e, q⟩
theorem r_ixt {p : Addr} {xs : List V} {i : Int} {v : V} (h : SqT K H p xs) (e : atI xs i = some v) (q : Q v H) : rIxT K (.ref p) (.int i) H Q := ⟨p, xs, i, v, rfl, rfl, h, e, q⟩
theorem r_bm {T : String} {r : V → List V → Hp → VK → Prop} {to : TE} {tA : TA} (h : to σ H fun x H1 => tyV K T x H1 ∧ tA σ H1 fun xs H2 => r x xs H2 Q) : tBM K T r to tA σ H Q := h
theorem r_bm0 {T : String} {r : V → List V → Hp → VK → Prop} {to : TE} (h : to σ H fun x H1 => tyV K T x H1 ∧ r x [] H1 Q) : tBM0 K T r to σ H Q := h
theorem ty_l {p : Addr} {xs : List V} (h : H p = some (.lst xs)) : tyV K "list" (.ref p) H := .inl ⟨rfl, _, sq_of h⟩
theorem r_app {p : Addr} {xs : List V} {y : V} (h : H p = some (.lst xs)) (l : xs.length < sizeLine) (q : ∀ H1, But p H H1 → H1 p = some (.lst (xs ++ [y])) → Q .non H1) : rAppend (.ref p) [y] H Q := ⟨p, xs, y, rfl, rfl, h, l, q _ But.upd upd_same⟩
theorem r_ext {p b : Addr} {xs zs : List V} (h : H p = some (.lst xs)) (hb : H b = some (.lst zs)) (l : xs.length + zs.length ≤ sizeLine) (q : ∀ H1, But p H H1 → H1 p = some (.lst (xs ++ zs)) → Q .non H1) : rExtend (.ref p) [.ref b] H Q := ⟨p, b, xs, zs, rfl, rfl, h, hb, l, q _ But.upd upd_same⟩
theorem r_sub {to ti : TE} {ts : TSet} {v : V} {P : L2.St → Hp → Prop} (h : to σ H fun o H1 => ti σ H1 fun i H2 => ts o i v H2 fun H3 => P σ H3) : gSub to ti ts v σ H P := h
theorem r_asgG {g : TG} (h : te σ H fun x H1 => g x σ H1 D.nx) : tAsg te g D σ H := h
theorem r_setl {p : Addr} {xs : List V} {k : Int} {j : Nat} {v : V} {P : Hp → Prop} (h : H p = some (.lst xs)) (e : ixN xs.length k = some j) (q : ∀ H1, But p H H1 → H1 p = some (.lst (xs.set j v)) → P H1) : rSetL (.ref p) (.int k) v H P := ⟨p, xs, k, j, rfl, rfl, h, e, q _ But.upd upd_same⟩
/-! ### objects -/
def FldV (K : PySem.W.Frag) (f : Str) (x : V) (H : Hp) (Q : VK) : Prop := ∃ a C dx fs v, x = .ref a ∧ H a = some (.ins C dx fs) ∧ Cls K C ∧ NoAttr K C f ∧ fs.lookup f = some v ∧ Q v H
theorem r_fld {f : Str} (h : ta σ H fun x H1 => FldV K f x H1 Q) : tFld K ta f σ H Q := h
def SFldV (K : PySem.W.Frag) (f : Str) (y x : V) (H : Hp) (N : Hp → Prop) : Prop := ∃ a C dx fs, x = .ref a ∧ H a = some (.ins C dx fs) ∧ Cls K C ∧ NoAttr K C f ∧ fs.length < 1000 ∧ N (upd H a (.ins C dx (putF f y fs)))
theorem r_sfld {f : Str} {tv : TE} (h : tv σ H fun y H1 => ta σ H1 fun x H2 => SFldV K f y x H2 fun H3 => D.nx σ H3) : sFld K ta tv f D σ H := h
theorem r_sfldV {f : Str} {y : V} {p C dx : Addr} {fs : List (Str × V)} {N : Hp → Prop} (hp : H p = some (.ins C dx fs)) (cl : Cls K C) (na : NoAttr K C f) (l : fs.length < 1000) (h : ∀ H1, But p H H1 → H1 p = some (.ins C dx (putF f y fs)) → N H1) : SFldV K f y (.ref p) H N := ⟨p, C, dx, fs, rfl, hp, cl, na, l, h _ But.upd upd_same⟩
def MethV (C : Addr) (m : Str) (sp : Sp) (x : V) (t : (List V → Hp → Prop) → Hp → Prop) (dvs : List V) (H : Hp) (Q : VK) (E : XK) : Prop := ∃ a dx fs, x = .ref a ∧ H a = some (.ins C dx fs) ∧ fs.lookup m = none ∧ t (fun vs H2 => sp (x :: (vs ++ dvs)) H2 Q E) H
theorem r_meth {C : Addr} {m : Str} {sp : Sp} {dvs : List V} {E : XK} {tA : TA} (h : ta σ H fun x H1 => MethV C m sp x (fun P H => tA σ H P) dvs H1 Q E) : tMeth C m sp dvs E ta tA σ H Q := h
def MakeV (C : Addr) (sp : Sp) (vs : List V) (H : Hp) (Q : VK) (E : XK) : Prop := ∀ x dx, H x = none → H dx = none → dx ≠ x → sp (.ref x :: vs) (upd (upd H dx (.own x)) x (.ins C dx [])) (fun v H2 => v = .non ∧ Q (.ref x) H2) E
theorem r_make {C : Addr} {sp : Sp} {dvs : List V} {E : XK} {tA : TA} (h : tA σ H fun vs H1 => MakeV C sp (vs ++ dvs) H1 Q E) : tMake C sp dvs E tA σ H Q := h
theorem r_makeV {C : Addr} {sp : Sp} {vs : List V} {E : XK} (h : ∀ x dx H1, H x = none → Same H H1 → H1 x = some (.ins C dx []) → sp (.ref x :: vs) H1 (fun v H2 => v = .non ∧ Q (.ref x) H2) E) : MakeV C sp vs H Q E := fun x dx nx nd ne => h x dx _ nx (fun b o e => by
  rw [upd_ne (ne_of_none e nx), upd_ne (ne_of_none e nd)]
  exact e) upd_same
end
end RC

/-! ### the words: walk_at "go" takes every step that asks nothing; walk_at "hp" looks a fact up along the heaps -/
open RC in
local macro_rules | `(tactic| walk_at "hp") => `(tactic| first
  | assumption
  | exact L2.upd_same
  | exact L2.Same.refl _
  | (with_reducible refine RC.sq_of ?_; walk_at "hp")
  | (with_reducible refine RC.st_of ?_; walk_at "hp")
  | (refine RC.Same.app (by assumption) ?_; walk_at "hp")
  | (refine RC.Same.lst (by assumption) ?_; walk_at "hp")
  | (refine RC.Same.tup (by assumption) ?_; walk_at "hp")
  | (refine RC.Same.dp (by assumption) ?_; walk_at "hp")
  | (refine L2.Same.trans ?_ (by assumption); walk_at "hp"))
local macro_rules | `(tactic| walk_at "st") => `(tactic| first
  | with_reducible refine RC.r_seq ?_
  | with_reducible refine RC.r_asg ?_
  | (with_reducible show L2.tVar _ _ _ _; refine RC.r_var rfl ?_)
  | with_reducible refine RC.r_c ?_
  | with_reducible refine RC.r_op ?_
  | with_reducible refine RC.r_I0 ?_
  | with_reducible refine RC.r_un ?_
  | with_reducible refine RC.r_U ?_
  | (with_reducible show L2.rEq _ _ _ _; refine RC.r_eq rfl ?_)
  | (with_reducible show L2.rNe _ _ _ _; refine RC.r_ne rfl ?_)
  | with_reducible refine RC.r_test ?_
  | with_reducible refine RC.r_B ?_
  | with_reducible refine RC.r_bl ?_
  | with_reducible refine RC.r_int ?_
  | with_reducible refine RC.r_ifs ?_
  | with_reducible refine RC.r_tt ?_
  | with_reducible refine RC.r_ff ?_
  | with_reducible refine RC.r_ntt ?_
  | with_reducible refine RC.r_nff ?_
  | with_reducible refine RC.r_ret ?_
  | with_reducible refine RC.r_drop ?_
  | with_reducible refine RC.r_next ?_
  | with_reducible refine RC.r_cons ?_
  | with_reducible refine RC.r_nil ?_
  | with_reducible refine RC.r_call ?_
  | with_reducible refine RC.r_cb ?_
  | with_reducible refine RC.r_fld ?_
  | with_reducible refine RC.r_sfld ?_
  | with_reducible refine RC.r_meth ?_
  | with_reducible refine RC.r_make ?_
  | with_reducible refine RC.r_not ?_
  | with_reducible refine RC.r_yes ?_
  | with_reducible refine RC.r_and ?_
  | with_reducible refine RC.r_or ?_
  | with_reducible refine RC.r_andV ?_
  | with_reducible refine RC.r_orV ?_
  | with_reducible refine RC.r_notV ?_
  | with_reducible refine RC.r_ifE ?_
  | with_reducible refine RC.r_tup ?_
  | with_reducible refine RC.r_lst ?_
  | with_reducible refine RC.r_slc ?_
  | with_reducible refine RC.r_nopart ?_
  | with_reducible refine RC.r_part ?_
  | with_reducible refine RC.r_par ?_
  | with_reducible refine RC.r_par2 ?_
  | with_reducible refine RC.r_for ?_
  | with_reducible refine RC.r_rng1 ?_
  | with_reducible refine RC.r_ilist ?_
  | with_reducible refine RC.r_itup ?_
  | with_reducible refine RC.r_rng2 ?_
  | with_reducible refine RC.r_bits ?_
  | with_reducible refine RC.r_bitV ?_
  | with_reducible refine RC.r_int1 ?_
  | with_reducible refine RC.r_max2 ?_
  | with_reducible refine RC.r_min2 ?_
  | with_reducible refine RC.r_revl ?_
  | with_reducible refine RC.r_gname ?_
  | with_reducible refine RC.r_gcons ?_
  | with_reducible refine RC.r_gnil ?_
  | with_reducible refine RC.r_bm ?_
  | with_reducible refine RC.r_bm0 ?_
  | with_reducible refine RC.r_sub ?_
  | with_reducible refine RC.r_asgG ?_)
local macro_rules | `(tactic| walk_at "go") => `(tactic| repeat walk_at "st")

/-! ## Operations that the hand layer lacks -/
namespace RC
open PySem PySem.Spec PyProof.Rows L2

/-- a rule of a context, its class table by a name -/
theorem kOf {β : Type _} (F : PySem.W.Frag → β) {G : β → Prop} {K K' : PySem.W.Frag} (h : G (F K')) (e : K' = K) : G (F K) := e ▸ h

/-! ### powers of great numbers -/
def CPowW (i j : Int) : Prop := 0 ≤ j ∧ (Builtin.Int.intBits i : Int) * j ≤ 2 ^ 27
theorem op_powW {X : Cx} : OpR X (binaryOp .Pow) (rI CPowW fun i j => .int (i ^ j.toNat)) := opI fun _ _ _ _ _ _ _ hc q => pow_int hc.1 hc.2 q

/-! ### t[::-1] -/
section
open HT
variable {prog : Program} {w : World} {A : Around} {E : Value → Shared → Prop} {s : Shared}
theorem adjust_rev (n : Nat) : Builtin.Slice.sliceAdjust none none (-1) (n : Int) = ((n : Int) - 1, -1) := rfl
theorem places_rev (n : Nat) : Builtin.Slice.slicePlaces ((n : Int) - 1) (-1) (-1) = n := by
  unfold Builtin.Slice.slicePlaces
  rw [if_neg (by decide)]
  by_cases h : (n : Int) - 1 > -1
  · rw [if_pos h]
    have e : -(-1 : Int) = 1 := rfl
    rw [e, Int.ediv_one]
    omega
  · rw [if_neg h]
    show (0 : Int).toNat = n
    have : n = 0 := by omega
    subst this
    rfl
theorem applied_rev {sl : Addr} {t : Tok} {n : Nat} {Q : Int × Int × Nat → Shared → Prop} (hs : s.heap.IsSliceOf sl .none .none (.int (-1) t))
    (h : Q ((n : Int) - 1, -1, n) s) : wpAny (model prog w) A (Builtin.Slice.sliceApplied (.ref sl) (pure (n : Int))) Q E s := by
  obtain ⟨os, hos, hcs, hds⟩ := id hs
  unfold Builtin.Slice.sliceApplied Builtin.Slice.sliceFields
  refine wpAny_bind (wpAny_bind (wpAny_field hos hds (x := .none) rfl (wpAny_bind (wpAny_field hos hds (x := .none) rfl (wpAny_bind (wpAny_field hos hds (x := .int (-1) t) rfl (wpAny_pure ?_)))))))
  refine wpAny_bind (slicePart_int ?_)
  show wpAny _ _ (if ((-1 : Int) == 0) = true then _ else _) _ _ s
  rw [if_neg (by decide)]
  refine wpAny_bind (slicePart_none (wpAny_bind (slicePart_none (wpAny_bind (wpAny_pure ?_)))))
  show wpAny _ _ (match Builtin.Slice.sliceAdjust none none (-1) (n : Int) with | (lo, hi) => pure (lo, (-1 : Int), Builtin.Slice.slicePlaces lo hi (-1))) _ _ s
  rw [adjust_rev n]
  show wpAny _ _ (pure ((n : Int) - 1, (-1 : Int), Builtin.Slice.slicePlaces ((n : Int) - 1) (-1) (-1))) _ _ s
  rw [places_rev]
  exact wpAny_pure h
theorem pick_rev (xs : Array Value) : ((List.range xs.size).filterMap fun (m : Nat) => xs[(((xs.size : Int) - 1) + (m : Int) * (-1)).toNat]?).toArray = xs.toList.reverse.toArray := by
  congr 1
  apply List.ext_getElem?
  intro i
  have h1 : ∀ k, k ≤ xs.size → (List.range k).filterMap (fun (m : Nat) => xs[(((xs.size : Int) - 1) + (m : Int) * (-1)).toNat]?) = (List.range k).map fun m => xs[xs.size - 1 - m]! := by
    intro k
    induction k with
    | zero => intro _; rfl
    | succ k ih =>
      intro hk
      rw [List.range_succ, List.filterMap_append, List.map_append, ih (by omega)]
      congr 1
      have e : (((xs.size : Int) - 1) + (k : Int) * (-1)).toNat = xs.size - 1 - k := by omega
      have hl : xs.size - 1 - k < xs.size := by omega
      show List.filterMap (fun m : Nat => xs[(((xs.size : Int) - 1) + (m : Int) * (-1)).toNat]?) [k] = [xs[xs.size - 1 - k]!]
      rw [List.filterMap_cons]
      have e2 : xs[(((xs.size : Int) - 1) + (k : Int) * (-1)).toNat]? = some xs[xs.size - 1 - k] := by
        rw [e]
        exact Array.getElem?_eq_getElem hl
      rw [e2]
      show _ :: List.filterMap _ [] = _
      rw [List.filterMap_nil, getElem!_pos xs (xs.size - 1 - k) hl]
  rw [h1 xs.size (Nat.le_refl _), List.getElem?_map]
  by_cases hi : i < xs.size
  · rw [List.getElem?_range hi, List.getElem?_reverse (by simpa using hi)]
    have hl : xs.size - 1 - i < xs.size := by omega
    show some (xs[xs.size - 1 - i]!) = _
    rw [getElem!_pos xs (xs.size - 1 - i) hl, Array.getElem?_toList, Array.length_toList, Array.getElem?_eq_getElem hl]
  · rw [List.getElem?_eq_none (by simpa using hi), List.getElem?_eq_none (by simpa using hi)]
    rfl
/-- what the tuple's own index method does at a key that walks back over the whole -/
theorem back_body {B : Around} {t sl : Addr} {items : Array Value} {tk : Tok} {G : PySem.Fin → Shared → Prop} (ht : IsTup s.heap t items) (hs : s.heap.IsSliceOf sl .none .none (.int (-1) tk)) (few : items.size ≤ sizeLine)
    (done : G (.done (.ret (.ref s.heap.objs.size))) { s with heap := s.heap.push { cls := .type "tuple", data := .seq items.toList.reverse.toArray } }) :
    wpAny (model prog w) B (Builtin.«tuple.__getitem__» ⟨[.ref t, .ref sl], []⟩) G E s := by
  have key : s.TypeIs (.ref sl) "slice" := by
    obtain ⟨o, ho, c, _⟩ := hs
    exact ⟨o, ho, c⟩
  have fits : sizeOk (.seq items.toList.reverse.toArray) := by
    show _ ≤ sizeLine
    simpa using few
  have notWhole : ((((items.size : Int) - 1 : Int) == 0) && ((-1 : Int) == 1) && (items.size == items.size)) = false := by
    rw [show ((-1 : Int) == 1) = false by decide]
    simp
  show wpAny _ _ (Builtin.Tuple.tupleItemsOf (.ref t) >>= _) _ _ s
  refine wpAny_bind (tupleItemsOf_ ht (wpAny_bind (wpAny_typeOf key ?_)))
  rw [if_pos (by decide)]
  refine wpAny_bind (applied_rev hs ?_)
  show wpAny _ _ (if ((((items.size : Int) - 1 : Int) == 0) && ((-1 : Int) == 1) && (items.size == items.size)) = true then _ else _) _ _ s
  rw [notWhole, if_neg Bool.false_ne_true, pick_rev]
  have made := fun (M : Model) (B' : Around) (R : Value → Shared → Prop) (r : R _ _) => wpAny_newObj_type (M := M) (A := B') (E := E) (Q := R) (s := s) (T := "tuple") (dict := none) r fits
  refine wpAny_bind ?_
  first
    | exact made _ _ _ (wpAny_pure done)
    | exact wpAny_bind (made _ _ _ (wpAny_pure (wpAny_pure done)))
theorem tuple_back {t sl : Addr} {items : Array Value} {tk : Tok} {Q : Value → Shared → Prop} (ht : IsTup s.heap t items) (hs : s.heap.IsSliceOf sl .none .none (.int (-1) tk)) (few : items.size ≤ sizeLine)
    (done : Q (.ref s.heap.objs.size) { s with heap := s.heap.push { cls := .type "tuple", data := .seq items.toList.reverse.toArray } }) :
    wpAny (model prog w) A (getItem (.ref t) (.ref sl)) Q E s := by
  have own := ht.typeIs
  have road := PyProof.Rows.slot_tuple_getitem
  unfold getItem
  apply wpAny_holding
  apply wpAny_bind
  apply wpAny_sequenceKey own (by decide)
  apply wpAny_bind
  apply wpAny_callSpecial?_slot own road
  apply wpAny_call_entry road own entry_tuple_getitem _ (args_tuple_getitem _ _)
  exact back_body ht hs few ⟨_, rfl, wpAny_pure done⟩
end
section
variable {X : Cx}
/-- nothing but the part's number is told, and the heap stays -/
def Stays (H : Hp) (n : Option Int) : Option Int → Hp → Prop := fun m H' => m = n ∧ H' = H
/-- the key ::-1 -/
theorem key_back {pins : List (Addr × Obj)} {σ : L2.St} {H : Hp} {s : Shared} {k : Nat} {p1 p2 p3 : Pos} {R : Value → Shared → Prop} (I : Inv X pins σ H s)
    (h : ∀ s' sl tk, Inv X pins σ H s' → s'.heap.IsSliceOf sl .none .none (.int (-1) tk) → R (.ref sl) s') :
    wpAny (model X.prog X.w) X.A (eval (.Slice none none (some (.UnaryOp .USub (.Constant (.int 1) k p1) p2)) p3) X.env) R X.xe s := by
  have minus := po_some (X := X) (pe_un (pos := p2) un_neg (pe_int (i := 1) (j := k) (pos := p1)))
  apply wpAny_Slice
  refine thn (po_none.run pins s σ H (Stays H none) I ⟨rfl, rfl⟩) ?_
  rintro lo s1 ⟨_, _, I1, plo, rfl, rfl⟩
  cases plo
  refine thn (po_none.run pins s1 σ _ (Stays _ none) I1 ⟨rfl, rfl⟩) ?_
  rintro hi s2 ⟨_, _, I2, phi, rfl, rfl⟩
  cases phi
  refine thn (minus.run pins s2 σ _ (Stays _ (some (-1))) I2 ⟨1, rfl, -1, rfl, rfl, rfl⟩) ?_
  rintro st s3 ⟨_, _, I3, pst, rfl, rfl⟩
  cases pst
  rename_i tk
  exact h _ _ tk (I3.kept (t' := s3.toks) fun b ob q => Heap.get?_push_of_some _ q) (Heap.IsSliceOf.new _ .none .none (.int (-1) tk))
def tRevT (K : PySem.W.Frag) (te : TE) : TE := fun σ H Q => te σ H fun x H1 => ∃ a xs, x = .ref a ∧ SqT K H1 a xs ∧ ∀ p, H1 p = none → Q (.ref p) (upd H1 p (.tup xs.reverse))
theorem pe_revT {e : Expr} {te : TE} {k : Nat} {p1 p2 p3 pos : Pos} (he : PE X e te) :
    PE X (.Subscript e (.Slice none none (some (.UnaryOp .USub (.Constant (.int 1) k p1) p2)) p3) pos) (tRevT X.K te) := by
  constructor
  intro pins s σ H Q I h
  apply Subscript_
  refine thn (he.run pins s σ H _ I h) ?_
  rintro v s1 ⟨_, H1, I1, r1, a, xs, rfl, hx, q⟩
  cases r1
  apply key_back I1
  intro s2 sl tk J hsl
  obtain ⟨its, r, ht, hz⟩ := J.tuple hx
  have n := r.length
  refine tail_any (ops := [.ref a, .ref sl]) ht.typeIs PyProof.Rows.slot_tuple_getitem.lookup (tuple_back ht hsl (by simpa [← n] using hz) ?_) (by with_unfolding_all rfl)
  have room : xs.reverse.length ≤ sizeLine := by simpa using hz
  refine ⟨.ref s2.heap.objs.size, _, J.laid (t' := s2.toks) (o := .tup xs.reverse) (fun b ob q => Heap.get?_push_of_some _ q) (Nat.le_refl _) ?there, rfl, q _ (J.hok.fresh (Nat.le_refl _))⟩
  case there => exact ⟨room, its.toArray.toList.reverse, by simpa using r.reverse, _, Heap.get?_push_size _ rfl, rfl, 0, rfl⟩
end

/-! ### a def's promise, called in any surroundings -/
section
variable {X : Cx} {pins : List (Addr × Obj)} {σ : L2.St} {H : Hp} {s : Shared}
theorem run_at {CX : CXT} {A : Around} {k : Nat} {f : Addr} {fd : FuncData} {ps : List Str} {sp : Sp} {E : XK} {Q : VK} {us : List Value} {vs : List V} (F : FnOk X.prog X.w X.K X.mg X.base CX k f fd ps sp) (hr : Room k A)
    (e0 : Env0 X.prog X.w X.K X.mg X.base A X.stack s H) (hb : Binds X.K fd ps []) (hx : Passes CX X E) (I : Inv X pins σ H s) (r : Vals vs us) (h : sp vs H Q E) : wpAny (model X.prog X.w) A (call (.ref f) us) (EP X pins σ Q) X.xe s := by
  have hl : us.length = ps.length := r.length.symm.trans (F.len _ _ _ _ h)
  refine wpAny_call (codeAny_mono (F.run A X.stack s H ⟨us, []⟩ us vs Q E hr e0 (by
    have := hb s us I.kIn (by simpa using hl)
    simpa using this) r h) fun q s' hq => ?_)
  cases q with
  | error e => exact hx pins σ H s e s' I hq
  | ok fl =>
    cases fl with
    | ret w => exact I.after hq
    | next => exact False.elim hq
    | brk => exact False.elim hq
    | cont => exact False.elim hq

/-! ### len(o), o == p, o != p by own methods -/
/-- what an own method of a plain class promises at an object of this class -/
def rLenO (C : Addr) (sp : Sp) (E : XK) : List V → Hp → VK → Prop := fun xs H Q => ∃ a dx fs, xs = [.ref a] ∧ H a = some (.ins C dx fs) ∧ sp [.ref a] H (fun v H' => ∃ n : Int, v = .int n ∧ (0 ≤ n ∧ n < 2 ^ 63) ∧ Q (.int n) H') E
theorem call_lenOwn {CX : CXT} {C f : Addr} {k : Nat} {fd : FuncData} {ps : List Str} {sp : Sp} {E : XK} (hm : Meth X.K C "__len__" f) (F : FnOk X.prog X.w X.K X.mg X.base CX k f fd ps sp) (hr : Room (k + 1) X.A) (hb : Binds X.K fd ps []) (hx : Passes CX X E) :
    CallR X (.builtin "len") (rLenO C sp E) := by
  intro pins s σ H xs us Q I r h
  obtain ⟨a, dx, fs, rfl, ha, h⟩ := h
  obtain ⟨u, rfl, ru⟩ := vals1 r
  cases (show u = Value.ref a from ru)
  obtain ⟨mA, J, _⟩ := ins_get I.hok ha
  obtain ⟨od, J, _⟩ := J.look
  obtain ⟨m, hF⟩ := I.fr
  refine PySem.W.len_K hF I.ok.mod.kin J hm.at_ hm.fn (wpAny_mono (run_at F hr.in1 I.env0.in1 hb hx I r h) (fun v s' hv => ?_) fun _ _ x => x)
  obtain ⟨v', H', I', rv, n, ev, hn, q⟩ := hv
  subst ev
  obtain ⟨t, rfl⟩ := rv
  exact ⟨hn, .int n, H', I'.tok _, ⟨_, rfl⟩, q⟩
/-- what may stand on the other side: a value of a known type, no subclass -/
def Other (K : PySem.W.Frag) (C : Addr) (H : Hp) (y : V) : Prop := ∃ t, TyX K H y t ∧ PySem.W.notFirst K C t = true
theorem other_looks {C : Addr} {y : V} {u : Value} (I : Inv X pins σ H s) (r : RelV y u) (o : Other X.K C H y) : ∃ t, PySem.W.Looks (model X.prog X.w) s.heap (typeOf u) t ∧ PySem.W.notFirst X.K C t = true := by
  obtain ⟨t, ty, nf⟩ := o
  obtain ⟨P, Z, p, _⟩ := kit_of I r ty
  exact ⟨t, Z.ty _ _ I.kIn p, nf⟩
def rEqO (K : PySem.W.Frag) (C : Addr) (sp : Sp) (E : XK) : R2 := fun x y H Q => ∃ a dx fs, x = .ref a ∧ H a = some (.ins C dx fs) ∧ Other K C H y ∧ sp [.ref a, y] H (fun v H' => ∃ k, v = .bl k ∧ Q (.bl k) H') E
theorem op_eqOwn {CX : CXT} {C f : Addr} {k : Nat} {fd : FuncData} {ps : List Str} {sp : Sp} {E : XK} (hm : Meth X.K C "__eq__" f) (F : FnOk X.prog X.w X.K X.mg X.base CX k f fd ps sp) (hr : Room k X.A) (hb : Binds X.K fd ps []) (hx : Passes CX X E) :
    OpR X (compareOp .Eq) (rEqO X.K C sp E) := by
  intro pins s σ H x y v u Q I rx ry h
  obtain ⟨a, dx, fs, rfl, ha, oy, h⟩ := h
  cases (show v = Value.ref a from rx)
  obtain ⟨mA, J, _⟩ := ins_get I.hok ha
  obtain ⟨od, J, _⟩ := J.look
  obtain ⟨m, hF⟩ := I.fr
  obtain ⟨t, lt, nf⟩ := other_looks I ry oy
  show wpAny (model X.prog X.w) X.A (richCompare .Eq (.ref a) u) (EP X pins σ Q) X.xe s
  refine PySem.W.cmp_K (op := .Eq) hr.units0 hF I.ok.mod.kin J lt nf hm.at_ hm.fn (wpAny_mono (run_at F hr I.env0 hb hx I (us := [.ref a, u]) (vs := [.ref a, y]) (.cons rfl (.cons ry .nil)) h) (fun w' s' hv => ?_) fun _ _ x => x)
  obtain ⟨v', H', I', rv, k', ev, q⟩ := hv
  subst ev
  cases (show w' = Value.bool k' from rv)
  exact ⟨.bl k', H', I', rfl, q⟩
theorem bound_builtin {M : Model} {A : Around} {E : Value → Shared → Prop} {s : Shared} {K : PySem.W.Frag} {x C : Addr} {ox : Obj} {od : Option Obj} {name : Str} {id : String} {args : List Value} {Q : Option Value → Shared → Prop} (X : K.In s.heap) (I : PySem.W.InstAt s.heap x ox C od)
    (hs : PySem.W.findIn K (.ref C) name = some (some (.builtin id))) (hb : ∀ self, bindSpecial (.builtin id) self = pure (.builtin id, [self]))
    (h : wpAny M A (call (.builtin id) (.ref x :: args)) (fun v => Q (some v)) E s) : wpAny M A (callSpecialIfBound? (.ref x) name args) Q E s := by
  simp only [callSpecialIfBound?, bindSpecialIfBound?]
  refine wpAny_holding (wpAny_bind (wpAny_bind (wpAny_bind (I.type.here ((PySem.W.looks_findIn X hs).here ?_)))))
  simp only [hb]
  refine wpAny_bind (wpAny_askSetting (wpAny_ite ?_))
  have fin : wpAny M A (call (.builtin id) ([.ref x] ++ args) >>= fun v => pure (some v)) Q E s := wpAny_bind (wpAny_mono h (fun v s' h' => wpAny_pure h') fun _ _ h' => h')
  split
  · exact wpAny_bind (wpAny_pure (wpAny_pure fin))
  · exact wpAny_tryCatch (wpAny_bind (wpAny_pure (wpAny_pure fin)))
/-- object.__ne__ of an own class that has __eq__ alone -/
theorem ne_core {prog : Program} {w : World} {A : Around} {E : Value → Shared → Prop} {s : Shared} {K : PySem.W.Frag} {x C L f : Addr} {h_0 : Heap} {m : Str → Option Value} {ox : Obj} {od : Option Obj} {b tb : Value} {Q : Value → Shared → Prop}
    (hu : A.units + 1 < cLine) (F : Fr h_0 L s.heap m) (X_0 : K.In h_0) (I : PySem.W.InstAt s.heap x ox C od) (hb : PySem.W.Looks (model prog w) s.heap (typeOf b) tb) (hn : PySem.W.notFirst K C tb = true)
    (hne : PySem.W.findIn K (.ref C) "__ne__" = some (some (.builtin "object.__ne__"))) (heq : PySem.W.findIn K (.ref C) "__eq__" = some (some (.ref f))) (hf : PySem.W.isFn K (.ref f) = true) (hob : PySem.W.mroIn K C (.type "object") = some true)
    (h : wpAny (model prog w) A.in1 (call (.ref f) [.ref x, b]) (fun v s' => ∃ k, v = .bool k ∧ Q (.bool (!k)) s') E s) : wpAny (model prog w) A (richCompare .NotEq (.ref x) b) Q E s := by
  have X := X_0.keeps F.keep
  have entry : wpAny (model prog w) A.in1 (Builtin.«object.__ne__» ⟨[.ref x, b], []⟩) (fun f s' => ∃ k : Bool, f = .done (.ret (.bool k)) ∧ Q (.bool k) s') E s := by
    unfold Builtin.«object.__ne__»
    repeat (first
      | with_reducible refine wpAny_cRoomFor hu ?_
      | (refine wpAny_bind (m := callSpecialIfBound? (.ref x) (Str.ofString "__eq__") [b])
          (PySem.W.ifBound_K X I heq hf (wpAny_mono h (fun r s' hr => by
            obtain ⟨k, rfl, hq⟩ := hr
            repeat (first | exact ⟨_, rfl, hq⟩ | exact wpAny_pure ⟨_, rfl, hq⟩ | exact wpAny_truthy_bool ⟨_, rfl, hq⟩ | (refine wpAny_bind (m := truthy (.bool _)) (wpAny_truthy_bool ?_)) | wp_step)) fun _ _ e => e)))
      | wp_step)
  have sub : PySem.W.Looks (model prog w) s.heap (isInstance (.ref x) (.type "object")) true := I.type.andThen (PySem.W.looks_mroIn X hob)
  have S := PySem.F.cmp_object.ne
  have cl : wpAny (model prog w) A (call (.builtin "object.__ne__") [.ref x, b]) (fun v s' => ∃ k : Bool, v = .bool k ∧ Q (.bool k) s') E s := by
    refine wpAny_call (codeAny_call_builtin S.plain PySem.F.cmpEntry_ne (PySem.W.check_slot PySem.F.cmpKind_ne PySem.F.cmpSplit_ne sub (PySem.F.cmpArgs_ne _ _) (wpAny_mono entry (fun f s' hf' => ?_) fun _ _ e => e)))
    obtain ⟨k, rfl, hq⟩ := hf'
    exact ⟨k, rfl, hq⟩
  have one : wpAny (model prog w) A (tryCompare (.ref x) "__ne__" b) (fun r s' => ∃ k : Bool, r = some (.bool k) ∧ Q (.bool k) s') E s := by
    unfold tryCompare
    refine wpAny_bind (bound_builtin X I hne S.bind (wpAny_mono cl (fun v s' hv => ?_) fun _ _ e => e))
    obtain ⟨k, rfl, hq⟩ := hv
    exact wpAny_pure ⟨k, rfl, hq⟩
  unfold richCompare
  simp only [oneThing_ref]
  refine wpAny_holding (wpAny_bind (wpAny_cRoomFor (Nat.lt_of_succ_lt hu) ?_))
  refine wpAny_bind (I.type.here (wpAny_bind (hb.here ?_)))
  split
  · rename_i q
    have e : PySem.W.subIn K tb (.ref C) = some false := by
      rcases Bool.or_eq_true_iff.mp hn with e | e
      · rw [beq_iff_eq.mp e] at q; simp at q
      · exact beq_iff_eq.mp e
    refine wpAny_bind ((PySem.W.looks_subIn X e).here ?_)
    simp only [Bool.false_eq_true, if_false]
    refine wpAny_bind (wpAny_mono one (fun r s' z => ?_) fun _ _ e => e)
    obtain ⟨v, rfl, hq⟩ := z
    exact wpAny_pure hq
  · refine wpAny_bind (wpAny_pure ?_)
    simp only [Bool.false_eq_true, if_false]
    refine wpAny_bind (wpAny_mono one (fun r s' z => ?_) fun _ _ e => e)
    obtain ⟨v, rfl, hq⟩ := z
    exact wpAny_pure hq
def rNeO (K : PySem.W.Frag) (C : Addr) (sp : Sp) (E : XK) : R2 := fun x y H Q => ∃ a dx fs, x = .ref a ∧ H a = some (.ins C dx fs) ∧ Other K C H y ∧ sp [.ref a, y] H (fun v H' => ∃ k, v = .bl k ∧ Q (.bl (!k)) H') E
theorem op_neOwn {CX : CXT} {C f : Addr} {k : Nat} {fd : FuncData} {ps : List Str} {sp : Sp} {E : XK} (hm : Meth X.K C "__eq__" f) (hne : PySem.W.findIn X.K (.ref C) "__ne__" = some (some (.builtin "object.__ne__"))) (hob : PySem.W.mroIn X.K C (.type "object") = some true)
    (F : FnOk X.prog X.w X.K X.mg X.base CX k f fd ps sp) (hr : Room (k + 1) X.A) (hb : Binds X.K fd ps []) (hx : Passes CX X E) :
    OpR X (compareOp .NotEq) (rNeO X.K C sp E) := by
  intro pins s σ H x y v u Q I rx ry h
  obtain ⟨a, dx, fs, rfl, ha, oy, h⟩ := h
  cases (show v = Value.ref a from rx)
  obtain ⟨mA, J, _⟩ := ins_get I.hok ha
  obtain ⟨od, J, _⟩ := J.look
  obtain ⟨m, hF⟩ := I.fr
  obtain ⟨t, lt, nf⟩ := other_looks I ry oy
  show wpAny (model X.prog X.w) X.A (richCompare .NotEq (.ref a) u) (EP X pins σ Q) X.xe s
  refine ne_core (by have := hr.units; omega) hF I.ok.mod.kin J lt nf hne hm.at_ hm.fn hob (wpAny_mono (run_at F hr.in1 I.env0.in1 hb hx I (us := [.ref a, u]) (vs := [.ref a, y]) (.cons rfl (.cons ry .nil)) h) (fun w' s' hv => ?_) fun _ _ x => x)
  obtain ⟨v', H', I', rv, k', ev, q⟩ := hv
  subst ev
  cases (show w' = Value.bool k' from rv)
  exact ⟨k', rfl, .bl (!k'), H', I', rfl, q⟩
end
end RC

/-! ## Data as a whole: ints, lists, tuples; what == and < say of them -/
namespace RC
open PySem PySem.Spec PyProof.Rows L2
abbrev iv (ns : List Int) : List V := ns.map V.int
abbrev dI (ns : List Int) : PyData := .list (ns.map .int)
abbrev tI (ns : List Int) : PyData := .tuple (ns.map .int)
section
variable {K : PySem.W.Frag} {H : Hp} {a b : Addr} {ns ms : List Int}
theorem dpa_ints : ∀ ns : List Int, DpAll K H (iv ns) (ns.map .int)
  | [] => .nil
  | n :: ns => .cons (.int n) (dpa_ints ns)
theorem dp_ints (h : SqL K H a (iv ns)) : Dp K H (.ref a) (dI ns) := .lst h (dpa_ints ns)
theorem dp_tints (h : SqT K H a (iv ns)) : Dp K H (.ref a) (tI ns) := .tup h (dpa_ints ns)
theorem lay_ints : ∀ ns : List Int, PyData.canLayAll0 (ns.map .int) = true
  | [] => by simp [PyData.canLayAll0]
  | n :: ns => by simp [PyData.canLayAll0, PyData.canLay0, lay_ints ns]
theorem dep_ints : ∀ ns : List Int, PyData.depthAll (ns.map .int) = 0
  | [] => by simp [PyData.depthAll]
  | n :: ns => by simp [PyData.depthAll, PyData.depth, dep_ints ns]
theorem shaped_dI (ns : List Int) : SeqAt.shaped (dI ns) = true := by simp [SeqAt.shaped, PyData.canLay0, PyData.depth, lay_ints, dep_ints]
theorem shaped_tI (ns : List Int) : SeqAt.shaped (tI ns) = true := by simp [SeqAt.shaped, PyData.canLay0, PyData.depth, lay_ints, dep_ints]
theorem eqvAll_ints : ∀ ns ms : List Int, PyData.eqvAll (ns.map .int) (ms.map .int) = decide (ns = ms)
  | [], [] => by simp [PyData.eqvAll]
  | [], m :: ms => by simp [PyData.eqvAll]
  | n :: ns, [] => by simp [PyData.eqvAll]
  | n :: ns, m :: ms => by
    rw [List.map_cons, List.map_cons, PyData.eqvAll, eqvAll_ints ns ms, PyData.eqv]
    by_cases h : n = m
    · subst h
      simp
    · have e : (n == m) = false := by simpa using h
      rw [e, Bool.false_and, decide_eq_false]
      intro q
      exact h (List.cons.inj q).1
theorem eqv_dI (ns ms : List Int) : PyData.eqv (dI ns) (dI ms) = decide (ns = ms) := by rw [PyData.eqv, eqvAll_ints]
theorem eqv_tI (ns ms : List Int) : PyData.eqv (tI ns) (tI ms) = decide (ns = ms) := by rw [PyData.eqv, eqvAll_ints]
theorem r_eqD {x y : V} {d e : PyData} {Q : VK} (hx : Dp K H x d) (hy : Dp K H y e) (sd : SeqAt.shaped d = true) (se : SeqAt.shaped e = true) (h : Q (.bl (PyData.eqv d e)) H) : rEqD K x y H Q := ⟨d, e, hx, hy, sd, se, h⟩
theorem r_neD {x y : V} {d e : PyData} {Q : VK} (hx : Dp K H x d) (hy : Dp K H y e) (sd : SeqAt.shaped d = true) (se : SeqAt.shaped e = true) (h : Q (.bl (!PyData.eqv d e)) H) : rNeD K x y H Q := ⟨d, e, hx, hy, sd, se, h⟩
theorem r_eqI {Q : VK} (hx : SqL K H a (iv ns)) (hy : SqL K H b (iv ms)) (h : Q (.bl (decide (ns = ms))) H) : rEqD K (.ref a) (.ref b) H Q := r_eqD (dp_ints hx) (dp_ints hy) (shaped_dI _) (shaped_dI _) (by rw [eqv_dI]; exact h)
theorem r_neI {Q : VK} (hx : SqL K H a (iv ns)) (hy : SqL K H b (iv ms)) (h : Q (.bl (!decide (ns = ms))) H) : rNeD K (.ref a) (.ref b) H Q := r_neD (dp_ints hx) (dp_ints hy) (shaped_dI _) (shaped_dI _) (by rw [eqv_dI]; exact h)
theorem r_eqT {Q : VK} (hx : SqT K H a (iv ns)) (hy : SqT K H b (iv ms)) (h : Q (.bl (decide (ns = ms))) H) : rEqD K (.ref a) (.ref b) H Q := r_eqD (dp_tints hx) (dp_tints hy) (shaped_tI _) (shaped_tI _) (by rw [eqv_tI]; exact h)
theorem at_ints {j : Nat} {v : Int} (h : ns[j]? = some v) : atI (iv ns) (j : Int) = some (.int v) := atI_nat (by rw [List.getElem?_map, h]; rfl)
theorem at_ints_last {v : Int} (h : ns.getLast? = some v) : atI (iv ns) (-1) = some (.int v) := by
  have hne : ns ≠ [] := fun e => by rw [e] at h; cases h
  have e : iv ns = iv ns.dropLast ++ [V.int v] := by
    have h2 : ns.dropLast ++ [v] = ns := by
      have := List.dropLast_concat_getLast hne
      rw [List.getLast?_eq_some_getLast hne] at h
      rw [← Option.some.inj h]
      exact this
    show ns.map V.int = ns.dropLast.map V.int ++ [V.int v]
    rw [← h2]
    simp
  rw [e]
  exact atI_last _ _
end
end RC

/-! ## The head's facts, and what isinstance and != ask of own classes besides -/
namespace RC
open PySem PySem.Spec PyProof.Rows L2 He
/-- what isinstance and != ask of an own class -/
structure ClsX (K : PySem.W.Frag) (C : Addr) : Prop where
  ha : PySem.W.findIn K (.ref C) "__class__" = some (some (.builtin "object.__class__"))
  hn : PySem.W.specialIn K (.builtin "object.__class__") "__get__" = some (some (.builtin "getset_descriptor.__get__"))
  htk : PySem.W.takesIn K (.builtin "object.__class__") = some true
  hm : PySem.W.mroIn K C (.type "object") = some true
  ne : PySem.W.findIn K (.ref C) "__ne__" = some (some (.builtin "object.__ne__"))
def clsB (K : PySem.W.Frag) (x : Str) : Bool :=
  decide (PySem.W.findIn K (.ref (ga K x)) "__class__" = some (some (.builtin "object.__class__"))) && (decide (PySem.W.specialIn K (.builtin "object.__class__") "__get__" = some (some (.builtin "getset_descriptor.__get__"))) &&
    (decide (PySem.W.takesIn K (.builtin "object.__class__") = some true) && (decide (PySem.W.mroIn K (ga K x) (.type "object") = some true) && decide (PySem.W.findIn K (.ref (ga K x)) "__ne__" = some (some (.builtin "object.__ne__"))))))
theorem clsB_ok {K : PySem.W.Frag} {x : Str} (h : clsB K x = true) : ClsX K (ga K x) := by
  obtain ⟨h1, h⟩ := ba h
  obtain ⟨h2, h⟩ := ba h
  obtain ⟨h3, h⟩ := ba h
  obtain ⟨h4, h5⟩ := ba h
  exact ⟨of_decide_eq_true h1, of_decide_eq_true h2, of_decide_eq_true h3, of_decide_eq_true h4, of_decide_eq_true h5⟩
/-- a class by its name: a built-in, an own one -/
inductive Tn where
  | ty (n : String)
  | own (x : Str)
def Tn.v (K : PySem.W.Frag) : Tn → Value
  | .ty n => .type n
  | .own x => .ref (ga K x)
/-- isinstance's answer for a value of the class a, asked of b -/
structure Kq where
  a : Tn
  b : Tn
  r : Bool
def Kq.ok (K : PySem.W.Frag) (q : Kq) : Bool := decide (PySem.W.kitOne K (q.a.v K) (q.b.v K) = some q.r)
theorem kq_ok {K : PySem.W.Frag} {q : Kq} (h : q.ok K = true) : PySem.W.kitOne K (q.a.v K) (q.b.v K) = some q.r := of_decide_eq_true h
/-- is the class a told apart from, and no subclass of, the own class at x -/
structure Nf where
  x : Str
  t : Tn
def Nf.ok (K : PySem.W.Frag) (q : Nf) : Bool := PySem.W.notFirst K (ga K q.x) (q.t.v K)
abbrev AlR : Type := AlD × Bool
def obsR (fa : List Fa) (fn : List DefD) (cs : List Str) (ks : List Kq) (ns : List Nf) (K : PySem.W.Frag) : AlR := (obsD fa fn K, (cs.all fun x => clsB K x) && ((ks.all fun q => q.ok K) && ns.all fun q => q.ok K))
def valR (fn : List DefD) : AlR := (valD fn, true)
def SaysR (fa : List Fa) (fn : List DefD) (cs : List Str) (ks : List Kq) (ns : List Nf) (K : PySem.W.Frag) : Prop := obsR fa fn cs ks ns K = valR fn
def obsRG (n : Nat) (fa : List Fa) (fn : List DefD) (cs : List Str) (ks : List Kq) (ns : List Nf) (g : Addr → Option Obj) : AlR := obsR fa fn cs ks ns (frG g (asD g n))
def hookR (n : Nat) (fa : List Fa) (fn : List DefD) (cs : List Str) (ks : List Kq) (ns : List Nf) : PySem.W.Hook where
  α := AlR
  obs := fun s => obsRG n fa fn cs ks ns s.heap.get?
  val := fun _ => valR fn
  says := fun _ h => ∃ K : PySem.W.Frag, K.In h ∧ SaysR fa fn cs ks ns K
  of := fun _ _ e => ⟨_, frG_in, e⟩
  keeps := fun _ _ _ ⟨K, hK, c⟩ k => ⟨K, PySem.W.Frag.In.keeps hK k, c⟩
theorem obsRG_eq {n : Nat} {fa : List Fa} {fn : List DefD} {cs : List Str} {ks : List Kq} {ns : List Nf} {g : Addr → Option Obj} {s : Shared} (h : ∀ a, g a = s.heap.get? a) : obsRG n fa fn cs ks ns g = (hookR n fa fn cs ks ns).obs s := by
  have e : g = s.heap.get? := funext h
  rw [e] <;> rfl
section
variable {fa : List Fa} {fn : List DefD} {cs : List Str} {ks : List Kq} {ns : List Nf} {K : PySem.W.Frag}
theorem SaysR.d (c : SaysR fa fn cs ks ns K) : SaysD fa fn K := congrArg (fun z : AlR => z.1) c
theorem SaysR.ex (c : SaysR fa fn cs ks ns K) : ((cs.all fun x => clsB K x) && ((ks.all fun q => q.ok K) && ns.all fun q => q.ok K)) = true := congrArg (fun z : AlR => z.2) c
theorem SaysR.cls (c : SaysR fa fn cs ks ns K) (i : Nat) {x : Str} (h : cs[i]? = some x := by rfl) : ClsX K (ga K x) := clsB_ok (List.all_eq_true.mp (ba c.ex).1 x (List.mem_of_getElem? h))
theorem SaysR.kit (c : SaysR fa fn cs ks ns K) (i : Nat) {q : Kq} (h : ks[i]? = some q := by rfl) : PySem.W.kitOne K (q.a.v K) (q.b.v K) = some q.r := kq_ok (List.all_eq_true.mp (ba (ba c.ex).2).1 q (List.mem_of_getElem? h))
theorem SaysR.nf (c : SaysR fa fn cs ks ns K) (i : Nat) {q : Nf} (h : ns[i]? = some q := by rfl) : PySem.W.notFirst K (ga K q.x) (q.t.v K) = true := List.all_eq_true.mp (ba (ba c.ex).2).2 q (List.mem_of_getElem? h)
end
end RC

/-! ## Own errors: class X(ClerkError) with def __init__(self, value=None): super().__init__(value); self.value = value -/
namespace RC
open PySem PySem.Spec PyProof.Rows L2
open PySem.W PySem.Calls
abbrev vB : List Value := [.type "ValueError", .type "Exception", .type "BaseException", .type "object"]
def eAr (p1 p2 p3 : Pos) : Arguments := { posonlyargs := [], args := [{ arg := "self", annotation := none, pos := p1 }, { arg := "value", annotation := none, pos := p2 }], vararg := none, kwonlyargs := [], kw_defaults := [], kwarg := none, defaults := [.Constant .none 0 p3] }
def eBo (q1 q2 q3 q4 q5 q6 q7 q8 q9 q10 : Pos) : List Stmt := [.Expr (.Call (.Attribute (.Call (.Name "super" q1) [] [] q2) "__init__" q3) [.Name "value" q4] [] q5) q6, .Assign [.Attribute (.Name "self" q7) "value" q8] (.Name "value" q9) q10]
def eSc : Scope := { kind := .function, names := [(PySem.Str.ofString "self", .local), (PySem.Str.ofString "value", .local), (PySem.Str.ofString "__class__", .free), (PySem.Str.ofString "super", .globalImplicit)], isGenerator := false, isCoroutine := false, more := [] }
/-- what the written part says of the error class at C and its __init__ at fI -/
structure ErrC (P : Program) (K : Frag) (mg : Str → Option Value) (C fI : Addr) : Prop where
  ini : ∃ nm q N bs bm sn sub ab col dd k0 k1 k2 k3 k5, K.lookup C = some (excClassObj nm q C N bs bm true sn sub ab col dd k0 k1 k2 k3 k5 "ValueError.__new__") ∧ HandSPX.refsVE bm = true
  sa : findIn K (.ref C) "__setattr__" = some (some (.builtin "object.__setattr__"))
  ga : findIn K (.ref C) "__getattribute__" = some (some (.builtin "BaseException.__getattribute__"))
  gg : findIn K (.ref C) "__getattr__" = some none
  no : findIn K (.ref C) "value" = some none
  iC : findIn K (.ref C) "__init__" = some (some (.ref fI))
  tI : typeIn K (.ref fI) = some (.type "function")
  kC : keepIn K (.ref C) = true
  exC : subIn K (.ref C) (.type "BaseException") = some true
  veC : subIn K (.ref C) (.type "ValueError") = some true
  tyC : typeIn K (.ref C) = some (.type "type")
  hdC : hasDictIn K C = true
  mC : mroIn K C (.ref C) = some true
  eI : excInitIn K C vB "ValueError.__new__" = true
  sup : ks_superIn K C C "__init__" = some (some (.builtin "ValueError.__init__"))
  opq : nsIn K cStatics "thirdparty.any" = some none
  nsu : mg "super" = none
  top : (P.main.scope.names.lookup ("super" : Str)).isSome = false
  fn : ∃ (oc cl ccl : Value) (od cdd cld : Option Addr) (qual : Str) (dV kV doc pm ct : Value) (an : Option Addr) (osl ccs csl : Array (Option Value)) (cda cc : Addr) (vs : Array Value) (file : Str) (tf : Tok) (p1 p2 p3 q1 q2 q3 q4 q5 q6 q7 q8 q9 q10 : Pos),
    K.lookup fI = some ⟨oc, od, .func (ksFn "__init__" qual (eAr p1 p2 p3) (eBo q1 q2 q3 q4 q5 q6 q7 q8 q9 q10) eSc dV kV doc pm an (.ref cda) ct cc), osl⟩ ∧ codeIn K (.ref cda) qual = true ∧
      K.lookup cda = some ⟨ccl, cdd, .fields vs, ccs⟩ ∧ vs[2]? = some (.str file tf) ∧ ((P.main.file : Str) == file) = true ∧ K.lookup cc = some ⟨cl, cld, .cell (some (.ref C)), csl⟩ ∧
      (q3.endLine == q5.line) = true ∧ (∃ (Td : Addr) (o : Obj) (n : Nat), dV = .ref Td ∧ K.lookup Td = some o ∧ o.data = .seq #[.none] n)
/-- what stands beside the class table -/
structure Beside (mg : Str → Option Value) (h : Heap) : Prop where
  g : h.Ns mainGlobals mg
  b : ∃ mb, h.Ns builtinsNs mb ∧ ∀ x : Str, x ≠ "__name__" → mb x = bootBuiltins x
  lim : h.NoLimit
/-- an error made: at e, its dict at d -/
structure ErrMade (h h' : Heap) (e C d : Addr) (v : Value) : Prop where
  keep : ∀ b o, h.get? b = some o → h'.get? b = some o
  new : h.objs.size ≤ e
  obj : ∃ oe vs, h'.get? e = some oe ∧ oe.cls = .ref C ∧ oe.dict = some d ∧ oe.data = .fields vs ∧ vs[1]? = some .none
  dbig : h.objs.size ≤ d
  dne : d ≠ e
  ns : h'.Ns1 d (fun y => if y = "value" then some v else none)
theorem ld_loc {M : Model} {A : Around} {E : Value → Shared → Prop} {s : Shared} {env : Env} {m : Str → Option Value} {x : Str} {pos : Pos} {v : Value} {Q : Value → Shared → Prop} (hn : s.heap.Ns env.locals m) (hv : m x = some v) (h : Q v s)
    (hk : env.scope.kind = .function := by rfl) (hl : env.kindOf x = some .local := by rfl) (hd : (x == ("__debug__" : Str)) = false := by decide) : wpAny M A (eval (.Name x pos) env) Q E s :=
  wpAny_Name (wpAny_loadName_local hk hl hn hv h) hd
theorem meth_pos {o : Expr} {env : Env} {apos pos : Pos} (h : (apos.endLine == pos.line) = true) : methodCallPos true o env apos pos = pure pos := by
  unfold methodCallPos
  rw [if_pos (by rw [h]; rfl)]
theorem meth_eval {o e : Expr} {name : Str} {apos pos : Pos} {env : Env} (h : (apos.endLine == pos.line) = true) (hst : starEach [e] env = [(false, eval e env)]) : eval (.Call (.Attribute o name apos) [e] [] pos) env = (do
    let ov ← attributeBase o name env (eval o env)
    standAt apos.atName
    let (f, first) ← holding [ov] (getMethod ov name (do return (← importBound o env).getD true))
    callWith pos f first (backTo pos (starEach [e] env)) []) := by
  rw [arm_eval_Call]
  congr 1
  funext ov
  congr 1
  funext _
  unfold methodCall
  have hf : methodCallForm ([e].length + ([] : List Keyword).length) (backTo pos (starEach [e] env)) (backToKw pos (keywordEach [] env)) = true := by
    rw [hst]
    rfl
  rw [hf]
  unfold calleeOf
  rw [if_pos rfl]
  simp only [meth_pos h, pure_bind]
  rfl
section
variable {prog : Program} {w : World} {A : Around} {E : Value → Shared → Prop} {R : Result → Shared → Prop} {s : Shared} {K : Frag} {mg : Str → Option Value} {C fI : Addr}
/-- the body of __init__, behind the entry: x the new error -/
theorem err_init (T : ErrC prog K mg C fI) {h0 : Heap} {x t0 : Addr} {v : Value} (X : K.In h0) (G : Beside mg h0) (k0 : ∀ b o, h0.get? b = some o → s.heap.get? b = some o) (hx : s.heap.get? x = some (excObj C t0 none .none)) (nx : h0.get? x = none) (hz : h0.objs.size ≤ s.heap.objs.size) (hroom : A.depth < recursionLimit)
    (hq : ∀ h' tk dx t1, (∀ b o, h0.get? b = some o → h'.get? b = some o) → h'.get? x = some { cls := .ref C, dict := some dx, data := .fields #[.ref t1, .none, .none, .none, .bool false, .none] } → h0.objs.size ≤ dx → dx ≠ x → h'.Ns1 dx (fun y => if y = "value" then some v else none) → R (.ok (.ret .none)) { s with heap := h', toks := tk }) :
    codeAny (model prog w) A (.call (.ref fI) ⟨[.ref x, v], []⟩) R s := by
  obtain ⟨oc, cl, ccl, od, cdd, cld, qual, dV, kV, doc, pm, ct, an, osl, ccs, csl, cda, cc, vs, file, tf, p1, p2, p3, q1, q2, q3, q4, q5, q6, q7, q8, q9, q10, ho, hcd, hcode, hvs, hfile, hcell, hpos, Td, oT, nT, rfl, hT, hTd⟩ := T.fn
  obtain ⟨nm, q, N, bs, bm, sn, sub, ab, col, dd, k0', k1, k2, k3, k5, hC, hbm⟩ := T.ini
  have hcl : clsIn K C = some { name := nm, bases := bs, mro := .ref C :: bm, ns := N, qualname := q, hasDict := true, slotNames := sn, subclasses := sub, abstract := ab, collection := col, hasDel := false } := by unfold clsIn; rw [hC] <;> rfl
  have Xs : K.In s.heap := X.keeps k0
  have hbd : BindsTo s (ksFn "__init__" qual (eAr p1 p2 p3) (eBo q1 q2 q3 q4 q5 q6 q7 q8 q9 q10) eSc (.ref Td) kV doc pm an (.ref cda) ct cc) ⟨[.ref x, v], []⟩ [("self", .ref x), ("value", v)] := BindsTo.of_defaults (T := Td) rfl (Xs _ _ hT) hTd rfl rfl
  have hcells : ∀ y ∈ eSc.names, y.2 ≠ .cell := by decide
  have hlocs : ∀ y ∈ [(("self" : Str), Value.ref x), (("value" : Str), v)], eSc.names.lookup y.1 = some .local := fun y hy => by
    rcases List.mem_cons.mp hy with rfl | hy
    · rfl
    · obtain rfl := List.mem_singleton.mp hy
      rfl
  refine ks_codeAny_call_defAt (body := eBo q1 q2 q3 q4 q5 q6 q7 q8 q9 q10) (binds := [("self", .ref x), ("value", v)]) hroom (Xs _ _ ho) rfl (G.lim.keeps k0) (codeRec_of Xs hcd) rfl hbd hcells hlocs (fun h1 hn1 kk => ?_)
  have hxL : s.heap.objs.size ≠ x := Nat.ne_of_gt (Heap.lt_size hx)
  have F1 : Fr h0 s.heap.objs.size h1 (fun y => List.lookup y [(("value" : Str), v), (("self" : Str), .ref x)]) := ⟨hn1, fun b o e => kk b o (k0 b o e), hz⟩
  have N1 : News h0 s.heap.objs.size h1 [(x, excObj C t0 none .none)] := fun p hp => by
    obtain rfl := List.mem_singleton.mp hp
    exact ⟨kk _ _ hx, hxL.symm, nx⟩
  generalize hL : s.heap.objs.size = L at F1 N1 hxL ⊢
  show _root_.PySem.wpAt (model prog w) (A.deeper (ksEnv qual eSc L fI (.ref cda) cc)) (.func (eBo q1 q2 q3 q4 q5 q6 q7 q8 q9 q10) (ksEnv qual eSc L fI (.ref cda) cc)) (execs (eBo q1 q2 q3 q4 q5 q6 q7 q8 q9 q10) (ksEnv qual eSc L fI (.ref cda) cc)) _ _ _
  refine ks_wpAt_execs_cons (ks_wpAt_Expr_any (ks_wpAt_MethodCall (he := meth_eval hpos rfl) ?_))
  have X1 : K.In h1 := X.keeps F1.keep
  obtain ⟨mb, hb1, hb2⟩ := G.b
  obtain ⟨oD, hD1, hD2⟩ : ∃ oD, h1.get? C = some oD ∧ ∃ cd, oD.data = .cls cd := ⟨_, X1 _ _ hC, _, rfl⟩
  obtain ⟨cdD, hD2⟩ := hD2
  refine ks_wpAt_super_base (env := ksEnv qual eSc L fI (.ref cda) cc) (f := fI) (cc := cda) rfl rfl (by decide) rfl (X1 _ _ ho) rfl rfl rfl (X1 _ _ hcode) rfl hvs hfile T.top ?_
  refine ks_loadName_global rfl rfl (loadGlobal_builtin (env := ksEnv qual eSc L fI (.ref cda) cc) (G.g.keeps F1.keep) T.nsu (hb1.keeps F1.keep) ((hb2 _ (by decide +kernel)).trans (by first | boot_by_name | rfl | kernel_rfl)) ⟨rfl, ?_⟩)
  refine wpAny_loadName_free rfl rfl rfl ⟨_, X1 _ _ hcell, rfl⟩ ?_
  refine wpAny_loadName_local (v := .ref x) rfl rfl F1.ns (by first | rfl | with_unfolding_all rfl | kernel_rfl) ?_
  refine ks_wpAny_isType_cls hD1 hD2 ⟨rfl, ?_⟩
  refine ks_wpAny_call_super hD1 hD2 (N1 _ List.mem_cons_self).1 rfl (fun c e => by cases e) (looks_mroIn X1 T.mC) (fun h2 e2 k2 => ?_)
  obtain ⟨F2, N2, l2⟩ := ks_newsPush (s := ⟨h1, s.gens, s.drawn, s.toks + 2, s.os⟩) F1 N1 rfl e2 k2
  refine kxs_method kxs_ValueError F2 X N2 (D := C) (x := x) (C := C) List.mem_cons_self (InstAt.of_exc0 N2 (List.mem_cons_of_mem _ List.mem_cons_self)) T.opq T.sup T.veC (by decide) (fun u h3 F3 N3 l3 => ?_)
  refine kxs_callWith1 (i := "ValueError.__init__") (x := x) N3 List.mem_cons_self ?_
  refine spliced_cons (ld_loc (v := v) F3.ns (by first | rfl | with_unfolding_all rfl | kernel_rfl) (spliced_nil ⟨kxs_at N3 List.mem_cons_self, ?_⟩))
  have ux : u ≠ x := fun z => by
    have := l3 (x, excObj C t0 none .none) (List.mem_cons_of_mem _ List.mem_cons_self)
    rw [z] at this
    exact absurd this (Nat.lt_irrefl _)
  have sx : h1.objs.size ≠ x := Nat.ne_of_gt (Heap.lt_size (N1 _ List.mem_cons_self).1)
  refine kxs_call (dv := none) (c2 := .none) F3 X N3 PySem.F.excBase_ValueError T.eI List.mem_cons_self (.tail ux (.tail sx (.head fun _ z => (nomatch z)))) (by show 1 ≤ sizeLine; decide) (fun t1 h4 F4 N4 l4 => ?_)
  show _root_.PySem.wpAt _ _ _ (execs _ _) _ _ _
  refine wpAt_of_wpAny (wpAny_execs_cons (plainObj_wpAny_Assign_Attribute ?_))
  refine ld_loc (v := v) F4.ns (by first | rfl | with_unfolding_all rfl | kernel_rfl) (ld_loc (v := .ref x) F4.ns (by first | rfl | with_unfolding_all rfl | kernel_rfl) ?_)
  have hx4 : h4.get? x = some (excObj C t1 none .none) := (N4 (x, excObj C t1 none .none) (.tail _ (.tail _ (.tail _ (.head _))))).1
  have X4 : K.In h4 := X.keeps F4.keep
  refine set_plain X4 (ox := excObj C t1 none .none) (od := none) ⟨hx4, rfl, rfl, trivial⟩ T.sa ?_
  refine HandSPX.exc_osa X4 hx4 hcl (show HandSPX.refsVE (.ref C :: bm) = true from hbm) rfl T.no (fun h5 tk5 dx k5 dn dne hx5 hn5 => ?_)
  show wpAny _ _ (execs _ _) _ _ _
  have z : L < h4.objs.size := F4.ns.lt
  have hz' : h0.objs.size ≤ dx := Nat.le_trans F4.above (Nat.le_trans (Nat.le_of_lt z) dn)
  exact wpAny_execs_nil (hq h5 tk5 dx t1 (fun b o e => k5 b o (fun y => by rw [y, nx] at e; cases e) (F4.keep b o e)) hx5 hz' dne hn5)
/-- X(v): the error made -/
theorem err_made (T : ErrC prog K mg C fI) {v : Value} (X : K.In s.heap) (G : Beside mg s.heap) (hroom : A.depth + 1 < recursionLimit)
    (hq : ∀ h' tk e d, ErrMade s.heap h' e C d v → R (.ok (.ret (.ref e))) { s with heap := h', toks := tk }) :
    codeAny (model prog w) A (.call (.ref C) ⟨[v], []⟩) R s := by
  obtain ⟨nm, q, N, bs, bm, sn, sub, ab, col, dd, k0, k1, k2, k3, k5, hC, hbm⟩ := T.ini
  obtain ⟨hp, g, dr, tk, os⟩ := s
  have k : ∀ b o, hp.get? b = some o → ((hp.push (kdv_tup [v])).push (HandSPX.excO C hp.objs.size)).get? b = some o := fun b o e => Heap.get?_push_of_some _ (Heap.get?_push_of_some _ e)
  have hget : ((hp.push (kdv_tup [v])).push (HandSPX.excO C hp.objs.size)).get? (hp.objs.size + 1) = some (HandSPX.excO C hp.objs.size) := by heap_get
  have hnx : hp.get? (hp.objs.size + 1) = none := by
    cases e : hp.get? (hp.objs.size + 1) with
    | none => rfl
    | some o => exact absurd (Nat.lt_of_succ_lt (Heap.lt_size e)) (Nat.lt_irrefl _)
  refine HandSPX.call_own F.excBase_ValueError (fun Y => HandSPX.refsVE_contains Y bm hbm) (X _ _ hC) (looks_findIn X T.iC) (fun self => bind_fn X self T.tI) (by show 1 ≤ sizeLine; decide) ?_
  refine err_init (s := ⟨(hp.push (kdv_tup [v])).push (HandSPX.excO C hp.objs.size), g, dr, tk, os⟩) (h0 := hp) T X G k hget hnx (by rw [Heap.size_push, Heap.size_push]; omega) (by show A.depth + 1 < recursionLimit; exact hroom) fun h' tk' dx t1 k' hx dn dne hns => ?_
  exact ⟨rfl, hq h' tk' (hp.objs.size + 1) dx ⟨k', Nat.le_succ _, ⟨_, _, hx, rfl, rfl, rfl, rfl⟩, dn, dne, hns⟩⟩
end
end RC

/-! ## Errors raised, caught, kept under another name; their field; isinstance of them -/
namespace RC
open PySem PySem.Spec PyProof.Rows L2
open PySem.W (Frag)
abbrev valS : Str := "value"
theorem rel_val {v : V} {v' : Value} (r : RelV v v') (f : Str) : RelO (List.lookup f [(valS, v)]) (if f = "value" then some v' else none) := by
  by_cases hw : f = "value"
  · subst hw
    rw [if_pos rfl]
    have q : List.lookup valS [(valS, v)] = some v := by simp [List.lookup]
    rw [q]
    exact r
  · rw [if_neg hw]
    have qw : (f == valS) = false := by simpa using hw
    have q2 : List.lookup f [(valS, v)] = none := by simp [List.lookup, qw]
    rw [q2]
    trivial
theorem Beside.of {X : Cx} {pins : List (Addr × Obj)} {σ : L2.St} {H : Hp} {s : Shared} (I : Inv X pins σ H s) : Beside X.mg s.heap := by
  obtain ⟨mb, h1, h2⟩ := I.ok.mod.blt
  exact ⟨I.ok.mod.glob.keeps I.bk, ⟨mb, h1.keeps I.bk, h2⟩, I.nolimit⟩
section
variable {X : Cx} {C fI : Addr}
/-- X(e), to be raised -/
def tMkErr (C : Addr) (ta : TA) : L2.St → Hp → XK → Prop := fun σ H Q => ta σ H fun vs H1 => ∃ v, vs = [v] ∧ ∀ d, H1 d = none → Q (.ref C) (some d) (upd H1 d (.xd [(valS, v)]))
theorem pmk_err {x : Str} {a : Expr} {ta : TA} {p pos : Pos} {k : Nat} (T : ErrC X.prog X.K X.mg C fI) (hm : X.mg x = some (.ref C)) (hr : Room k X.A) (ha : PA X [a] ta) (hg : Gl X x := by rfl) (hdb : (x == ("__debug__" : Str)) = false := by decide)
    (he : starEach (a :: []) X.env = (false, eval a X.env) :: starEach [] X.env := by rfl) (hpl : (backTo pos (starEach [] X.env)).any (·.1) = false := by rfl) : PMk X (.Call (.Name x p) [a] [] pos) (tMkErr C ta) := by
  intro pins s σ H Q I h
  refine wpAny_Call_Name_kw (ld_glob I hg hm ?_ hdb)
  refine PySem.W.callWith_K (h₀ := X.base) I.ok.mod.kin T.kC (thn (ha.run pos pins s σ H _ I h) fun us s1 hh => ?_) he hpl
  obtain ⟨vs, H1, I1, r1, v, ev, q1⟩ := hh
  subst ev
  refine ⟨I1.kIn, ?_⟩
  cases r1 with
  | cons rv rn =>
    rename_i v' us'
    cases rn
    show wpAny _ _ (call (.ref C) [v']) _ _ _
    have B1 := Beside.of I1
    obtain ⟨hp, g, dr, tk, os⟩ := s1
    refine wpAny_call (err_made T I1.kIn B1 (by have := hr.dp; omega) fun h' tk' e d M => ?_)
    show MkP X pins σ Q (.ref e) ⟨h', g, dr, tk', os⟩
    obtain ⟨oe, fv, hoe, hc, hd, hdat, h1⟩ := M.obj
    have hns := M.ns
    obtain ⟨G', g1, g2⟩ := restrict h' fun b => decide (b ≠ e)
    have gk : ∀ b, b ≠ e → G'.get? b = h'.get? b := fun b hb => g1 b (decide_eq_true hb)
    have ge : G'.get? e = none := g2 e (by simp)
    have old : ∀ b o, hp.get? b = some o → G'.get? b = some o := fun b o q => (gk b (Nat.ne_of_lt (Nat.lt_of_lt_of_le (Heap.lt_size q) M.new))).trans (M.keep b o q)
    have ob : ObjOk X.prog X.w (upd H1 d (.xd [(valS, v)])) G' d (.xd [(valS, v)]) := ⟨_, hns.at (fun o q => (gk d M.dne).trans q), fun f => rel_val rv f⟩
    have J : Inv X pins σ (upd H1 d (.xd [(valS, v)])) ⟨G', g, dr, tk', os⟩ := I1.laid (t' := tk') old M.dbig ob
    refine ⟨e, oe, fv, ⟨G', g, dr, tk', os⟩, _, .ref C, some d, rfl, J, fun b o q => ?_, ge, hoe, ⟨hc, hd⟩, hdat, h1, ?_, rfl, I1.bare, raises_own T.exC T.tyC, q1 d (I1.hok.fresh M.dbig)⟩
    · by_cases hb : b = e
      · have q' : G'.get? b = some o := q
        rw [hb, ge] at q'
        cases q'
      · exact (gk b hb).symm.trans q
    · rw [upd_ne (Ne.symm M.dne)]
      exact I1.hok.fresh M.new
def tRaiseE (C : Addr) (W : WX) (ta : TA) : TS := fun _ σ H => tMkErr C ta σ H fun cls d H' => W cls d σ H'
theorem ps_raiseE {x : Str} {a : Expr} {ta : TA} {W : WX} {p pos pos2 : Pos} {k : Nat} (hc : X.calm = true) (T : ErrC X.prog X.K X.mg C fI) (hm : X.mg x = some (.ref C)) (hr : Room k X.A) (tk : Takes X W) (ha : PA X [a] ta) (hg : Gl X x := by rfl) (hdb : (x == ("__debug__" : Str)) = false := by decide)
    (he : starEach (a :: []) X.env = (false, eval a X.env) :: starEach [] X.env := by rfl) (hpl : (backTo pos (starEach [] X.env)).any (·.1) = false := by rfl) :
    PS X (.Raise (some (.Call (.Name x p) [a] [] pos)) none pos2) (tRaiseE C W ta) := ps_raise hc tk (pmk_err T hm hr ha hg hdb he hpl)
/-! ### an error that is kept -/
/-- an exception's object of the class cls with the dict d, behind its flight, at a -/
def ErrO (cls : Value) (d : Option Addr) (a : Addr) : HO := .ext fun h => ∃ (oe : Obj) (vs : Array Value), h.get? a = some oe ∧ Zc cls d oe ∧ oe.data = .fields vs
theorem errO_ok {P : Program} {w : World} {H : Hp} {h : Heap} {a : Addr} {cls : Value} {d : Option Addr} {oe : Obj} {vs : Array Value} (e : h.get? a = some oe) (z : Zc cls d oe) (dt : oe.data = .fields vs) : ObjOk P w H h a (ErrO cls d a) :=
  ⟨⟨oe, vs, e, z, dt⟩, ⟨oe, e⟩, fun _ _ ⟨o, v, q, r⟩ k => ⟨o, v, k o q, r⟩⟩
/-- an object that isn't tracked yet, made behind the entry, is tracked from here on -/
theorem Inv.adopt {pins : List (Addr × Obj)} {σ : L2.St} {H : Hp} {s : Shared} {a : Addr} {o : HO} (I : Inv X pins σ H s) (hn : H a = none) (n0 : X.s_0.heap.get? a = none) (nL : a ≠ X.env.locals) (nC : ∀ x c, X.env.cells.lookup x = some c → c ≠ a) (nP : ∀ p ∈ X.pn ++ pins, p.1 ≠ a)
    (new : ObjOk X.prog X.w (upd H a o) s.heap a o) : Inv X pins σ (upd H a o) s := by
  have ne0 : ∀ {b : Addr} {u : Obj}, X.s_0.heap.get? b = some u → b ≠ a := fun {b u} e z => by
    rw [z, n0] at e
    cases e
  have neH : ∀ {b : Addr} {u : HO}, H b = some u → b ≠ a := fun {b u} e z => by
    rw [z, hn] at e
    cases e
  refine ⟨I.ok, I.os, I.bare, ⟨I.base.keep, I.base.slot, fun b u e n x => ?_, I.base.there, fun b xs e => ?_, fun b u v e => ?_, fun b ps e => ?_⟩, I.loc, I.cell, ?_, fun x c e => ?_, fun p hp => ?_, I.hok.laidN (fun _ _ q => q) hn new, I.len⟩
  · rw [upd_ne (ne0 e)]
    exact I.base.free b u e n x
  · have q := I.base.tups b xs e
    rw [upd_ne (neH q)]
    exact q
  · have q := I.base.frzs b u v e
    rw [upd_ne (neH q)]
    exact q
  · obtain ⟨m, q⟩ := I.base.tbls b ps e
    exact ⟨m, by rw [upd_ne (neH q)]; exact q⟩
  · rw [upd_ne nL.symm]
    exact I.free
  · rw [upd_ne (nC x c e)]
    exact I.freeC x c e
  · obtain ⟨q1, q2, q3⟩ := I.pin p hp
    exact ⟨q1, by rw [upd_ne (nP p hp)]; exact q2, q3⟩
/-- the wish: what is caught is of the clause's class, and kept in the slot j -/
def wKeep (K : Frag) (c : Value) (i j : Nat) (D : Ends) : WX := fun cls d σ H => PySem.W.exmOne K cls c = some true ∧ ∀ a, H a = none → D.nx (((σ.set i (some (.ref a))).set j (some (.ref a))).set i none) (upd H a (ErrO cls d a))
/-- try: body, except x as n: y = n -/
theorem ps_keep {x n y : Str} {c : Value} {i j : Nat} {body : List Stmt} {np p1 p2 p3 pos pos' : Pos} {tb : WX → TS} (hs : X.stack = X.env :: X.outer) (hf : X.env.frame = some X.env.locals) (hx : X.ex = []) (hN : X.N.Nodup) (hi : X.N[i]? = some n) (hj : X.N[j]? = some y) (hij : i ≠ j) (hln : X.env.kindOf n = some .local) (hly : X.env.kindOf y = some .local)
    (hc : Names X x c) (hd1 : (n == ("__debug__" : Str)) = false) (hd2 : (n == ("__classdict__" : Str)) = false) (hsw : swapsWith (.Name n p2) (some (.Name y p1)) p3.line X.env = pure false)
    (hb : ∀ (W : WX) (pn : List (Addr × Obj)) (xe : Value → Shared → Prop), Takes (X.tr pn xe) W → PassesOwn (model X.prog X.w) X.A X.env xe → PSs (X.tr pn xe) body (tb W)) :
    PS X (.Try body [.ExceptHandler (some (.Name x np)) (some n) [.Assign [.Name y p1] (.Name n p2) p3] pos'] [] [] pos) (fun D σ H => tb (wKeep X.K c i j D) D σ H) := by
  refine ⟨fun pins s σ H D I h => wpAny_Try_except ?_⟩
  have ok := I.ok
  have fr : X.A.frames = some (X.env :: X.outer) := by rw [ok.frames, hs]
  -- the body, its ways out
  refine wpAny_mono ((hb (wKeep X.K c i j D) (X.pn ++ pins) _ (fun u st air => ?_) PassesOwn.looking).run [] s σ H D (I.toTry _) h) (fun fl st hfl => ?_) (fun _ _ z => z)
  · obtain ⟨a, B, sA, ps, σA, HA, cls, d, rfl, JA, gB, upA, sky, nA, osA, bareA, hm, hk⟩ := air
    have JB : Inv X pins σA HA sA := JA.ofTry ok
    rw [hs] at sky
    refine Sky.land Zc.steady fr hf sky fun hL fly upL => ?_
    obtain ⟨oL, vL, eL, zL, dL⟩ := fly.there
    have away : a ∉ frs (X.env :: X.outer) := fun q => by
      obtain ⟨_, o', e', nd⟩ := fly.2.2.1.mem q
      rw [eL] at e'
      cases e'
      exact nd _ dL
    have nL : a ≠ X.env.locals := fun z => away (List.mem_filterMap.mpr ⟨X.env, List.mem_cons_self, by rw [hf, z]⟩)
    have nF : a ∉ X.fs := fun q => by
      obtain ⟨e, he, q⟩ := List.mem_filterMap.mp q
      exact away (List.mem_filterMap.mpr ⟨e, List.mem_cons_of_mem _ he, q⟩)
    have gone : sA.heap.get? a = none := by
      cases e : sA.heap.get? a with
      | none => rfl
      | some o =>
        have z := gB a o e (by rw [hs]; exact away)
        rw [fly.2.1] at z
        cases z
    have n0 : X.s_0.heap.get? a = none := by
      cases e : X.s_0.heap.get? a with
      | none => rfl
      | some o =>
        obtain ⟨o', z⟩ := JB.base.there a o e (by rw [hx]; exact fun z => nomatch z)
        rw [gone] at z
        cases z
    have nC : ∀ x c, X.env.cells.lookup x = some c → c ≠ a := fun x c e z => by
      obtain ⟨v, o, q, _⟩ := JB.cell x c e
      rw [z, gone] at q
      cases q
    have nP : ∀ p ∈ X.pn ++ pins, p.1 ≠ a := fun p hp z => by
      have q := (JB.pin p hp).1
      rw [z, gone] at q
      cases q
    have JL : Inv X pins σA HA { st with heap := hL } := JB.landed gB fly.1 (upA.trans upL) osA bareA
    have SL := JL.suite eL dL nA nL nF
    refine wpAny_handleBy_cons (codeAny_handlers_test ?_) (by intro q; cases q)
    have ask : ∀ {Q : Value → Shared → Prop} {E : Value → Shared → Prop}, Q c { st with heap := hL } → wpAny (model X.prog X.w) (X.A.mark (some (.ref a))) (eval (.Name x np) X.env) Q E { st with heap := hL } := fun {Q E} q => by
      obtain ⟨hg, hdb, e | ⟨e, hv, hne⟩⟩ := hc
      · exact ld_glob (X := X.suite a ((a, oL) :: (X.pn ++ pins))) SL hg e q hdb
      · exact ld_blt (X := X.suite a ((a, oL) :: (X.pn ++ pins))) SL hg e hv q hne hdb
    have isC : PySem.W.Looks (model X.prog X.w) hL (typeOf (.ref a)) cls := fun A Q E s k q => wpAny_typeOf_ref (k _ _ eL) (by rw [zL.1]; exact q)
    refine ask ((PySem.W.exm_one (M := model X.prog X.w) JL.kIn isC hm).here ?_)
    refine codeAny_handlers_suite_as ?_
    refine HandSPX.lands_againZ fly fun hM flyM upM => ?_
    have JM : Inv X pins σA HA { st with heap := hM } := JB.landed gB flyM.1 ((upA.trans upL).trans upM) osA bareA
    obtain ⟨oM, vM, eM, zM, dM⟩ := flyM.there
    refine store_ok (X := X.suite a ((a, oM) :: (X.pn ++ pins))) (v := .ref a) (JM.suite eM dM nA nL nF) hN hi (.inl hln) rfl (fun s5 S5 => ?_) (.inr hln)
    have one : PSs (X.suite a ((a, oM) :: (X.pn ++ pins))) [.Assign [.Name y p1] (.Name n p2) p3] (tAsg (tVar i) (gName j)) := pss_one (ps_set (X := X.suite a ((a, oM) :: (X.pn ++ pins))) hN hj (.inl hly) (pe_var hi (.inl hln) hd1 hd2) hsw (.inr hly))
    have li : i < σA.length := by
      rw [JM.len]
      exact (List.getElem?_eq_some_iff.mp hi).1
    refine wpAny_mono (one.run [] s5 _ HA { nx := fun σ' H' => σ' = (σA.set i (some (.ref a))).set j (some (.ref a)) ∧ H' = HA, rt := fun _ _ => False } S5 ⟨.ref a, by rw [List.getElem?_set_self li], rfl, rfl⟩) (fun fl s6 hfl => ?_) fun _ _ z => False.elim z
    cases fl with
    | next =>
      obtain ⟨σ6, H6, S6, e1, e2⟩ := hfl
      subst e1 e2
      obtain ⟨q1, _⟩ := S6.pin (a, oM) (List.mem_append_left _ List.mem_cons_self)
      have K6 : Inv X pins _ (upd H6 a (ErrO cls d a)) s6 := Inv.adopt (S6.unsuite ok) nA n0 nL nC nP (errO_ok q1 zM dM)
      exact gone_ok K6 hN hi hln fun s7 J7 => ⟨_, _, J7, hk a nA⟩
    | brk =>
      obtain ⟨_, _, _, z⟩ := hfl
      exact z.elim
    | cont =>
      obtain ⟨_, _, _, z⟩ := hfl
      exact z.elim
    | ret u =>
      obtain ⟨_, _, _, _, _, z⟩ := hfl
      exact z.elim
  · cases fl with
    | next =>
      obtain ⟨σ', H', J', q⟩ := hfl
      exact wpAny_execs_nil ⟨σ', H', J'.ofTry ok, q⟩
    | brk =>
      obtain ⟨σ', H', J', q⟩ := hfl
      exact ⟨σ', H', J'.ofTry ok, q⟩
    | cont =>
      obtain ⟨σ', H', J', q⟩ := hfl
      exact ⟨σ', H', J'.ofTry ok, q⟩
    | ret u =>
      obtain ⟨v, σ', H', J', r, q⟩ := hfl
      exact ⟨v, σ', H', J'.ofTry ok, r, q⟩
/-! ### err.value of a kept error -/
def FldE (P : Program) (K : Frag) (mg : Str → Option Value) (x : V) (H : Hp) (Q : VK) : Prop := ∃ (a C fI d : Addr) (v : V), x = .ref a ∧ H a = some (ErrO (.ref C) (some d) a) ∧ ErrC P K mg C fI ∧ H d = some (.xd [(valS, v)]) ∧ Q v H
def tFldE (P : Program) (K : Frag) (mg : Str → Option Value) (te : TE) : TE := fun σ H Q => te σ H fun x H1 => FldE P K mg x H1 Q
theorem r_fldE {P : Program} {K : Frag} {mg : Str → Option Value} {te : TE} {σ : L2.St} {H : Hp} {Q : VK} (h : te σ H fun x H1 => FldE P K mg x H1 Q) : tFldE P K mg te σ H Q := h
theorem pe_fldE {e : Expr} {te : TE} {pos : Pos} (he : PE X e te) (hb : attributeBase e "value" X.env (eval e X.env) = eval e X.env := by rfl) : PE X (.Attribute e "value" pos) (tFldE X.prog X.K X.mg te) := by
  refine ⟨fun pins s σ H Q I h => attr_of hb (thn (he.run pins s σ H _ I h) fun u s1 ⟨x, H1, I1, rx, a, C, fI, d, v, ex, ea, T, ed, q⟩ => ?_)⟩
  subst ex
  have eu : u = Value.ref a := rx
  subst eu
  obtain ⟨⟨oe, vs, ho, hz, hd⟩, _, _⟩ := I1.hok a _ ea
  obtain ⟨mA, hns, hr⟩ := (show ObjOk X.prog X.w H1 s1.heap d (.xd [(valS, v)]) from I1.hok d _ ed)
  obtain ⟨od, hod, hl⟩ := lookIn_ns hns
  have l : List.lookup valS [(valS, v)] = some v := by simp [List.lookup]
  obtain ⟨u, hu, ru⟩ := RelO.some_of (v := v) (o := mA valS) (by rw [← l]; exact hr valS)
  have J : PySem.W.InstAt s1.heap a oe C (some od) := ⟨ho, hz.1, by unfold PySem.W.notCls; rw [hd] <;> rfl, by rw [hz.2]; exact hod⟩
  exact HandSPX.exc_get I1.kIn J T.ga T.gg T.exC (PySem.W.findObj_own T.hdC T.no rfl (by rw [hl, hu])) (handed_of ru) ⟨v, H1, I1.tok _, ru, q⟩
end
/-! ### o.m(e, ..) in a try -/
section
variable {X : Cx} {k : Nat} {f C : Addr} {fd : FuncData} {ps : List Str} {sp : Sp} {W : WX} {m : Str} {pos apos : Pos} {e o : Expr} {es : List Expr} {ta : TE} {t : TA}
def tMethW (C : Addr) (m : Str) (sp : Sp) (W : WX) (ta : TE) (t : TA) : TE := fun σ H Q => tMeth C m sp [] (WE W σ) ta t σ H Q
theorem pe_methW {pl : Sem Bool} (he : PE X o ta) (c : Cls X.K C) (hm : Meth X.K C m f) (F : FnOk X.prog X.w X.K X.mg X.base (L2.CX X.prog X.w) k f fd ps sp) (hr : Room k X.A) (hb : Binds X.K fd ps []) (tk : Takes X W) (ha : PA X (e :: es) t)
    (hst : starEach (e :: es) X.env = (false, eval e X.env) :: starEach es X.env := by rfl) (hpl : (backTo pos (starEach es X.env)).any (·.1) = false := by rfl)
    (ht : eval (.Call (.Attribute o m apos) (e :: es) [] pos) X.env = (do
      let r ← eval o X.env
      standAt apos.atName
      let (f, first) ← holding [r] (getMethod r m pl)
      callWith pos f first (backTo pos (starEach (e :: es) X.env)) (backToKw pos (keywordEach [] X.env))) := by rfl) : PE X (.Call (.Attribute o m apos) (e :: es) [] pos) (tMethW C m sp W ta t) := by
  refine ⟨fun pins s σ H Q I h => PySem.W.methodCall_KW (pl := pl) (thn (he.run pins s σ H _ I h) fun u s1 ⟨x, H1, I1, rx, a, dx, fs, ex, ea, l, q⟩ => ?_) ht⟩
  subst ex
  have eu : u = Value.ref a := rx
  subst eu
  refine getmeth_ok I1 ea c hm l (PySem.W.callWith_K (first := [.ref a]) (h₀ := X.base) I.ok.mod.kin hm.kp (thn (ha.run pos pins s1 σ H1 _ I1 q) fun us s2 ⟨vs, H2, I2, r, q2⟩ => ⟨I2.kIn, ?_⟩) hst hpl)
  exact run_fnS (us := .ref a :: us) (vs := .ref a :: vs) F hr hb (passAt tk σ) I2 (.cons rfl r) (by simpa using q2)
end
theorem exm_self {P : Program} {K : Frag} {mg : Str → Option Value} {C fI : Addr} (T : ErrC P K mg C fI) (h : PySem.W.subIn K (.ref C) (.ref C) = some true) : PySem.W.exmOne K (.ref C) (.ref C) = some true := PySem.W.exm_ref T.exC T.hdC T.tyC h
end RC

/-! ## Defs that may say repr(..): promised where no repr is under way -/
namespace RC
open PySem PySem.Spec PyProof.Rows L2
open PySem.W (Frag)
/-- as FnOk, in surroundings in which no repr is under way -/
structure FnOkG (P : Program) (w : World) (K : Frag) (mg : Str → Option Value) (base : Heap) (CX : CXT) (k : Nat) (f : Addr) (fd : FuncData) (ps : List Str) (sp : Sp) : Prop where
  len : ∀ vs H Q E, sp vs H Q E → vs.length = ps.length
  run : ∀ (A : Around) (outer : List Env) (s : Shared) (H : Hp) (args : Args) (us : List Value) (vs : List V) (Q : VK) (E : XK), A.guards = some [] → Room k A → Env0 P w K mg base A outer s H → BindsTo s fd args (ps.zip us) → Vals vs us → sp vs H Q E →
    codeAny (model P w) A (.call (.ref f) args) (CR CX outer P w H s Q E) s
section
variable {P : Program} {w : World} {K : Frag} {mg : Str → Option Value} {base : Heap} {x qual : Str} {params : Arguments} {body : List Stmt} {scope : Scope} {dvs : List V} {kws : List (Str × V)} {f : Addr} {fd : FuncData}
theorem okG {CX : CXT} {N ps : List Str} {k : Nat} {sp : Sp} (F : FunD K x qual params body scope dvs kws f fd) (S : FnScope N ps scope) (len : ∀ vs H Q E, sp vs H Q E → vs.length = ps.length)
    (hbody : ∀ (cdv : Value) (A : Around) (outer : List Env) (s : Shared) (H : Hp) (vs : List V) (Q : VK) (E : XK), (A.deeper (envOfC qual scope s.heap.objs.size f cdv)).guards = some [] → Room k (A.deeper (envOfC qual scope s.heap.objs.size f cdv)) → sp vs H Q E →
      ∃ t, PSs (cxOf CX P w K mg base N qual scope f cdv A outer s H E) body t ∧ t { nx := fun _ H' => Q .non H', rt := Q } (start N vs) H) : FnOkG P w K mg base CX (k + 1) f fd ps sp := by
  obtain ⟨oc, od, dV, kV, doc, pm, an, cdv, ct, osl, rfl, lk, hcd, _, _⟩ := F.ex
  refine ⟨len, fun A outer s H args us vs Q E hg hr e0 hb r hsp => ?_⟩
  have Kin : K.In s.heap := e0.mod.kin.keeps fun b o e => (e0.bs b o e).1
  have names : ∀ y ∈ ps.zip us, scope.names.lookup y.1 = some .local ∨ (scope.names.lookup y.1 = some .cell ∧ ((cellsFrom (s.heap.objs.size + 1) scope.names []).lookup y.1).isSome = true) := fun ⟨n, v⟩ hy =>
    (S.par n (List.of_mem_zip hy).1).elim .inl fun q => .inr ⟨q, PySem.W.cellsFrom_some _ _ _ (.inl q)⟩
  refine codeAny_call_function hr.depth (Kin _ _ lk) rfl S.co S.gen rfl (PySem.W.codeRec_of Kin hcd) (hb _ _ _ _ (wpAny_newFunctionEnv_cells S.kind names fun env he s1 y => ?_))
  subst he
  refine ⟨(e0.mod.nolimit.keeps fun b o e => (e0.bs b o e).1).keeps y.toInCall.keep, codeAny_func ?_⟩
  obtain ⟨t, ht, hq⟩ := hbody cdv A outer s H vs Q E hg (hr.deeper _) hsp
  refine wpAny_mono (ht.run [] s1 (start N vs) H _ (inv_start S hr.hd e0 (len _ _ _ _ hsp) r y) hq) (fun fl s' hs => ?_) fun _ _ z => z
  match fl, hs with
  | .ret u, ⟨v, σ', H', J, rv, q⟩ => exact ⟨v, H', J.os, J.bare, J.base, J.hok, rv, q⟩
  | .next, ⟨σ', H', J, q⟩ => exact ⟨V.non, H', J.os, J.bare, J.base, J.hok, rfl, q⟩
  | .brk, ⟨_, _, _, q⟩ => exact q.elim
  | .cont, ⟨_, _, _, q⟩ => exact q.elim
end
section
variable {X : Cx} {CX : CXT} {k : Nat} {f : Addr} {fd : FuncData} {ps : List Str} {sp : Sp} {E : XK} {x : Str} {p pos : Pos} {e : Expr} {es : List Expr} {t : TA} {ds : List Value} {dvs : List V}
theorem runG {pins : List (Addr × Obj)} {σ : L2.St} {H : Hp} {s : Shared} {Q : VK} {us : List Value} {vs : List V} (F : FnOkG X.prog X.w X.K X.mg X.base CX k f fd ps sp) (hg : X.A.guards = some []) (hr : Room k X.A) (hb : Binds X.K fd ps ds) (hd : Vals dvs ds) (hx : Passes CX X E)
    (I : Inv X pins σ H s) (r : Vals vs us) (h : sp (vs ++ dvs) H Q E) : wpAny (model X.prog X.w) X.A (call (.ref f) us) (EP X pins σ Q) X.xe s := by
  have r2 := r.append hd
  have hl : (us ++ ds).length = ps.length := r2.length.symm.trans (F.len _ _ _ _ h)
  refine wpAny_call (codeAny_mono (F.run X.A X.stack s H ⟨us, []⟩ (us ++ ds) (vs ++ dvs) Q E hg hr I.env0 (hb s us I.kIn hl) r2 h) fun r s' hq => ?_)
  match r, hq with
  | .error e, hq => exact hx _ _ _ _ e s' I hq
  | .ok (.ret u), hq => exact I.after hq
theorem pe_callG (F : FnOkG X.prog X.w X.K X.mg X.base CX k f fd ps sp) (hgu : X.A.guards = some []) (hr : Room k X.A) (hg : Gl X x) (hm : X.mg x = some (.ref f)) (hk : PySem.W.keepIn X.K (.ref f) = true) (hb : Binds X.K fd ps ds) (hd : Vals dvs ds) (hx : Passes CX X E)
    (ha : PA X (e :: es) t) (hdb : (x == ("__debug__" : Str)) = false := by decide) (he : starEach (e :: es) X.env = (false, eval e X.env) :: starEach es X.env := by rfl) (hpl : (backTo pos (starEach es X.env)).any (·.1) = false := by rfl) :
    PE X (.Call (.Name x p) (e :: es) [] pos) (tCall sp dvs E t) :=
  ⟨fun pins s σ H Q I h => wpAny_Call_Name_kw (ld_glob I hg hm (PySem.W.callWith_K (h₀ := X.base) I.ok.mod.kin hk (thn (ha.run pos pins s σ H _ I h) fun us s1 ⟨vs, H1, I1, r, q⟩ => ⟨I1.kIn, runG F hgu hr hb hd hx I1 r q⟩) he hpl) hdb)⟩
theorem pe_callG0 (F : FnOkG X.prog X.w X.K X.mg X.base CX k f fd ps sp) (hgu : X.A.guards = some []) (hr : Room k X.A) (hg : Gl X x) (hm : X.mg x = some (.ref f)) (hk : PySem.W.keepIn X.K (.ref f) = true) (hb : Binds X.K fd ps ds) (hd : Vals dvs ds) (hx : Passes CX X E)
    (hdb : (x == ("__debug__" : Str)) = false := by decide) : PE X (.Call (.Name x p) [] [] pos) (tCall sp dvs E tNil) :=
  ⟨fun pins s σ H Q I h => wpAny_Call_Name_kw (ld_glob I hg hm (PySem.W.callWith_K0 I.kIn hk (runG (us := []) F hgu hr hb hd hx I .nil h)) hdb)⟩
/-! ### repr of data -/
def rReprD (K : Frag) : List V → Hp → VK → Prop := fun xs H Q => ∃ v d, xs = [v] ∧ Dp K H v d ∧ d.showable = true ∧ d.canLay0 = true ∧ d.depth ≤ 40 ∧ d.shown.length ≤ sizeLine ∧ Q (.str d.shown) H
theorem call_reprD (hg : X.A.guards = some []) (hr : Room 0 X.A) : CallR X (.builtin "repr") (rReprD X.K) := by
  intro pins s σ H xs us Q I r h
  obtain ⟨v, d, rfl, hd, hs, hcl, hdep, hlen, q⟩ := h
  obtain ⟨u, rfl, ru⟩ := vals1 r
  have hu := hr.units
  cases hd with
  | non =>
    cases ru
    exact PySem.P.repr_of_none ⟨.str _, H, I.tok _, ⟨_, rfl⟩, q⟩
  | bl b =>
    cases ru
    exact PySem.P.repr_of_bool ⟨.str _, H, I.tok _, ⟨_, rfl⟩, q⟩
  | int i =>
    obtain ⟨t, rfl⟩ := ru
    exact PySem.P.repr_of_int (of_decide_eq_true (by simpa [PyData.showable] using hs)) ⟨.str _, H, I.tok _, ⟨_, rfl⟩, q⟩
  | str x =>
    obtain ⟨t, rfl⟩ := ru
    exact PySem.P.repr_of_str ⟨.str _, H, I.tok _, ⟨_, rfl⟩, q⟩ hlen
  | lst hx ha =>
    obtain ⟨as, rd⟩ := Dp.reads I _ _ u (.lst hx ha) ru
    cases ru
    exact repr_of_reads' rd hs (PyData.noDict_hsm (PyData.hasDict_of_canLay _ hcl)) hg (by omega) (fun _ _ z => z) (fun h' t tk k => ⟨.str _, H, I.kept k, ⟨_, rfl⟩, q⟩) hlen
  | tup hx ha =>
    obtain ⟨as, rd⟩ := Dp.reads I _ _ u (.tup hx ha) ru
    cases ru
    exact repr_of_reads' rd hs (PyData.noDict_hsm (PyData.hasDict_of_canLay _ hcl)) hg (by omega) (fun _ _ z => z) (fun h' t tk k => ⟨.str _, H, I.kept k, ⟨_, rfl⟩, q⟩) hlen
/-- v's repr is t -/
inductive ShowV (K : Frag) (H : Hp) : V → Str → Prop where
  | data {v : V} {d : PyData} (h : Dp K H v d) (s : d.showable = true) (c : d.canLay0 = true) (dp : d.depth ≤ 40) (l : d.shown.length ≤ sizeLine) : ShowV K H v d.shown
  | edict {a : Addr} (h : H a = some (.dK [])) : ShowV K H (.ref a) (PyData.dict []).shown
def rReprX (K : Frag) : List V → Hp → VK → Prop := fun xs H Q => ∃ v t, xs = [v] ∧ ShowV K H v t ∧ Q (.str t) H
theorem call_reprX (hg : X.A.guards = some []) (hr : Room 0 X.A) : CallR X (.builtin "repr") (rReprX X.K) := by
  intro pins s σ H xs us Q I r h
  obtain ⟨v, t, rfl, hv, q⟩ := h
  cases hv with
  | data h1 h2 h3 h4 h5 => exact call_reprD hg hr pins s σ H [v] us Q I r ⟨v, _, rfl, h1, h2, h3, h4, h5, q⟩
  | @edict a ha =>
    obtain ⟨u, rfl, ru⟩ := vals1 r
    have eu : u = Value.ref a := ru
    subst eu
    have hu := hr.units
    obtain ⟨_, ns, vs, kv, ob, es, ep, e1, e2, e3, _, e5, _⟩ := (show ObjOk X.prog X.w H s.heap a (.dK []) from I.hok a _ ha)
    have z : vs = [] := by
      cases kv
      rfl
    subst z
    have ez : es.toList = [] := by
      generalize es.toList = l at e5
      cases e5
      rfl
    have rd : Reads s.heap (.ref a) (.dict []) ((a :: []) ++ []) := Reads.dict e1 e2.1 e3 (by rw [ez]; exact .nil) (by rw [ez]; exact .nil)
    refine repr_of_reads' rd (by simp [PyData.showable, PyData.showableKv]) (fun _ hm => ?_) hg ?_ (fun _ _ z => z) (fun h' t tk k => ⟨.str _, H, I.kept k, ⟨_, rfl⟩, q⟩) (by decide +kernel)
    · have hm' : sysModules ∈ [a] := by simpa using hm
      rw [List.mem_singleton.mp hm'] at ns
      simp at ns
    · simp only [PyData.depth, PyData.depthKv]
      omega
end
/-! ### the law's end -/
theorem law_callG {P : Program} {w : World} {K : Frag} {mg mb : Str → Option Value} {k : Nat} {fa a : Addr} {fd : FuncData} {x : Str} {sp : Sp} {s1 : Shared} {vs : List Value} {ns : List Int}
    (KX : K.In s1.heap) (hns : s1.heap.Ns mainGlobals mg) (hb : s1.heap.Ns builtinsNs mb) (hbb : ∀ x : Str, x ≠ "__name__" → mb x = bootBuiltins x) (hlim : s1.heap.NoLimit) (hg : s1.gens = #[])
    (ha : s1.heap.get? a = some { cls := .type "list", data := .seq vs.toArray }) (hi : IntsAre vs ns) (hl : ns.length ≤ sizeLine) (hr : Room k callerA)
    (F : ∀ base : Heap, K.In base → base.Ns mainGlobals mg → FnOkG P w K mg base CX0 k fa fd [x] sp) (hbind : ∀ (s : Shared) (u : Value), BindsTo s fd ⟨[u], []⟩ [(x, u)])
    (hsp : ∀ H : Hp, Only H → SqL K H a (ns.map V.int) → sp [.ref a] H (fun v _ => v = .bl true) fun _ _ _ => False) :
    codeAny (model P w) callerA (.call (.ref fa) ⟨[.ref a], []⟩) (fun r s' => r = .ok (.ret (.bool true)) ∧ OldK s1.heap s'.heap ∧ s'.os = s1.os ∧ AllBare s'.gens) s1 := by
  have rv := vals_ints hi
  have go : ∀ H : Hp, Only H → SqL K H a (ns.map V.int) → HOk P w H s1.heap → (∀ b, H b ≠ none → b = a) → (H a ≠ none → K.lookup a = none) →
      codeAny (model P w) callerA (.call (.ref fa) ⟨[.ref a], []⟩) (fun r s' => r = .ok (.ret (.bool true)) ∧ OldK s1.heap s'.heap ∧ s'.os = s1.os ∧ AllBare s'.gens) s1 := by
    intro H only hS ok own lacks
    have other : ∀ {b : Addr}, b ≠ a → H b = none := fun {b} h => by
      cases q : H b with
      | none => rfl
      | some u => exact absurd (own b (by rw [q]; simp)) h
    have below : ∀ {b : Addr} {m : Str → Option Value}, s1.heap.Ns b m → (hidT s1.heap H).Ns b m := fun {b m} ⟨o, es, ep, e, d, r⟩ => by
      refine ⟨o, es, ep, hidT_get e (other fun z => ?_), d, r⟩
      rw [z, ha] at e
      cases e
      cases d
    have kin : K.In (hidT s1.heap H) := fun b o e => by
      refine hidT_get (KX b o e) ?_
      cases q : H b with
      | none => rfl
      | some u =>
        have z := own b (by rw [q]; simp)
        subst z
        rw [lacks (by rw [q]; simp)] at e
        cases e
    have md : Mod K mg (hidT s1.heap H) := ⟨kin, below hns, ⟨mb, below hb, hbb⟩, by
      obtain ⟨mc, h1, h2⟩ := hlim
      exact ⟨mc, below h1, h2⟩⟩
    have e0 : Env0 P w K mg (hidT s1.heap H) callerA [] s1 H := ⟨rfl, md, fun b o e => of_hidT e, Nat.le_of_eq (hidT_size _ _), trivial, fun b z => absurd (show b ∈ ([] : List Addr) from z) List.not_mem_nil, ok, .of_eq hg⟩
    refine codeAny_mono ((F _ kin (below hns)).run callerA [] s1 H ⟨[.ref a], []⟩ [.ref a] [.ref a] _ _ rfl hr e0 (hbind s1 (.ref a)) (.cons rfl .nil) (hsp H only hS)) fun r s' h => ?_
    match r, h with
    | .ok (.ret u), ⟨v, H', os, bare, un, ok', r', q⟩ =>
      have q' : v = .bl true := q
      subst q'
      have r2 : u = Value.bool true := r'
      subst r2
      refine ⟨rfl, OldK.of_keep fun b o e => ?_, os, bare⟩
      rcases only b with z | ⟨ob, xs, z⟩
      · exact un.keep b o e z (fun y => absurd (show b ∈ ([] : List Addr) from y) List.not_mem_nil) List.not_mem_nil
      · have z2 := un.frzs b ob _ z
        obtain ⟨e1, _⟩ := ok b _ z
        obtain ⟨e2, _⟩ := ok' b _ z2
        rw [e] at e1
        cases e1
        exact e2
  cases hk : K.lookup a with
  | some o =>
    have e := KX a o hk
    rw [ha] at e
    cases e
    exact go (fun _ => none) (fun _ => .inl rfl) (.inr ⟨_, vs.toArray, _, hk, rfl, rfl, rfl, by rw [List.size_toArray, hi.length]; exact hl, by simpa using rv⟩) (fun b u z => by cases z) (fun b z => absurd rfl z) fun z => absurd rfl z
  | none =>
    have at_ : ∀ b, (b = a ∧ (fun b => if b = a then some (HO.frz { cls := .type "list", data := .seq vs.toArray } (.lst (ns.map V.int))) else none) b = some (HO.frz { cls := .type "list", data := .seq vs.toArray } (.lst (ns.map V.int)))) ∨ (b ≠ a ∧ (fun b => if b = a then some (HO.frz { cls := .type "list", data := .seq vs.toArray } (.lst (ns.map V.int))) else none) b = none) := fun b => by
      by_cases hb : b = a
      · exact .inl ⟨hb, if_pos hb⟩
      · exact .inr ⟨hb, if_neg hb⟩
    refine go (fun b => if b = a then some (.frz { cls := .type "list", data := .seq vs.toArray } (.lst (ns.map V.int))) else none) (fun b => ?_) (.inl (.inr ⟨{ cls := .type "list", data := .seq vs.toArray }, if_pos rfl⟩)) (fun b u z => ?_) (fun b z => ?_) fun _ => hk
    · rcases at_ b with ⟨_, e⟩ | ⟨_, e⟩
      · exact .inr ⟨_, _, e⟩
      · exact .inl e
    · rcases at_ b with ⟨e1, e⟩ | ⟨_, e⟩
      · rw [e] at z
        cases z
        subst e1
        exact ⟨ha, by rw [List.length_map]; exact hl, vs, _, rv, ha⟩
      · rw [e] at z
        cases z
    · rcases at_ b with ⟨e1, _⟩ | ⟨_, e⟩
      · exact e1
      · exact absurd e z
theorem walk_ofG {l : PySem.W.OpenLaw} {n k : Nat} {q : Program} {loose : List Str} {XP : (Str → Option Value) → Heap → Prop} {YP : World → Heap → Prop} {d : DefRec} {x : Str}
    (hn : l.most = some n) (hn2 : n ≤ sizeLine) (hdf : d.params.defaults = []) (hr : Room k callerA)
    (F : ∀ (w : World) (mg : Str → Option Value) (fa : Addr) (h : Heap), YP w h → h.Ns mainGlobals mg → mg d.name = some (.ref fa) →
      ∃ (K : Frag) (fd : FuncData) (sp : Sp), K.In h ∧ (∀ (s : Shared) (u : Value), BindsTo s fd ⟨[u], []⟩ [(x, u)]) ∧ (∀ (H : Hp) (a : Addr) (ns : List Int), ns.length ≤ n → Only H → SqL K H a (ns.map V.int) → sp [.ref a] H (fun v _ => v = .bl true) fun _ _ _ => False) ∧
        ∀ base : Heap, K.In base → base.Ns mainGlobals mg → FnOkG l.prog w K mg base CX0 k fa fd [x] sp) : PySem.W.WalkO q loose XP YP l.row.toRowW d [] (fun f vs => PySem.call f vs) := by
  refine Att.attach_call hn hdf fun w s0 s1 mg mb fa o pm cd doc a vs ns G Y ho hd hcd hmg hobj hints hlen hg => ?_
  obtain ⟨K, fd, sp, KX, hb, hsp, hF⟩ := F w mg fa _ Y G.T.g hmg
  exact law_callG KX G.T.g G.T.b G.T.builtins G.T.nolimit hg hobj hints (Nat.le_trans hlen hn2) hr hF hb fun H hO hS => hsp H a ns hlen hO hS
end RC

/-! ## The head's facts of own errors besides -/
namespace RC
open PySem PySem.Spec PyProof.Rows L2 He
open PySem.W (Frag findIn keepIn subIn typeIn hasDictIn mroIn nsIn codeIn)
/-- an error class, its __init__ as the text has it -/
structure ErrD where
  x : Str
  st : Stmt
abbrev EfW : Type := Option (Str × Arguments × FuncBody × Scope × Addr × List Str × Addr)
def efW (K : Frag) (e : ErrD) : EfW := match K.lookup (ma K (ga K e.x) "__init__") with
  | some ⟨_, _, .func fd, _⟩ => some (fd.name, fd.params, fd.body, fd.scope, fd.globals, fd.closure.map (·.1), fd.builtins)
  | _ => none
def ErrD.val (e : ErrD) : EfW := some ("__init__", defArgs e.st, .stmts (defBody e.st), defScope e.st, mainGlobals, ["__class__"], builtinsNs)
/-- the class's object -/
def eClsB (K : Frag) (C : Addr) : Bool := match K.lookup C with
  | some ⟨.type t, _, .cls cd, sl⟩ => t == "type" && (match cd.mro, sl.toList with
    | .ref C' :: bm, [_, _, _, _, some (.builtin n), _] => C' == C && (n == "ValueError.__new__" && (!cd.hasDel && (cd.hasDict && HandSPX.refsVE bm)))
    | _, _ => false)
  | _ => false
theorem eClsB_ok {K : Frag} {C : Addr} (h : eClsB K C = true) : ∃ nm q N bs bm sn sub ab col dd k0 k1 k2 k3 k5, K.lookup C = some (excClassObj nm q C N bs bm true sn sub ab col dd k0 k1 k2 k3 k5 "ValueError.__new__") ∧ HandSPX.refsVE bm = true := by
  unfold eClsB at h
  split at h
  · rename_i t dd cd sl ho
    obtain ⟨h0, h⟩ := ba h
    split at h
    · rename_i C' bm k0 k1 k2 k3 n k5 hm hs
      obtain ⟨h1, h⟩ := ba h
      obtain ⟨h2, h⟩ := ba h
      obtain ⟨h3, h⟩ := ba h
      obtain ⟨h4, h5⟩ := ba h
      have e0 := beq_iff_eq.mp h0
      have e1 := beq_iff_eq.mp h1
      have e2 := beq_iff_eq.mp h2
      have e3 : cd.hasDel = false := by simpa using h3
      subst e0 e1 e2
      obtain ⟨nm, bs, mro, ns, qn, hd, sn, sub, ab, col, del⟩ := cd
      dsimp only at hm e3 h4
      subst hm e3 h4
      have hsl : sl = #[k0, k1, k2, k3, some (.builtin "ValueError.__new__"), k5] := by
        obtain ⟨l⟩ := sl
        have z : l = [k0, k1, k2, k3, some (.builtin "ValueError.__new__"), k5] := hs
        rw [z]
      subst hsl
      exact ⟨nm, qn, ns, bs, bm, sn, sub, ab, col, dd, k0, k1, k2, k3, k5, ho, h5⟩
    · cases h
  · cases h
/-- the cell of __class__ -/
def celB (K : Frag) (cl : List (Str × Addr)) (C : Addr) : Bool := match cl with
  | [(_, cc)] => (match K.lookup cc with
    | some ⟨_, _, .cell (some (.ref D)), _⟩ => D == C
    | _ => false)
  | _ => false
theorem celB_ok {K : Frag} {cl : List (Str × Addr)} {C : Addr} (h : celB K cl C = true) : ∃ y cc v d s, cl = [(y, cc)] ∧ K.lookup cc = some ⟨v, d, .cell (some (.ref C)), s⟩ := by
  unfold celB at h
  split at h
  · split at h
    · rename_i cc _ v d D s q
      have e := beq_iff_eq.mp h
      subst e
      exact ⟨_, _, _, _, _, rfl, q⟩
    · cases h
  · cases h
/-- the code's file -/
def filB (K : Frag) (cd : Value) (file : Str) : Bool := match cd with
  | .ref c => (match K.lookup c with
    | some ⟨_, _, .fields vs, _⟩ => (match (vs[2]? : Option Value) with
      | some (Value.str f _) => file == f
      | _ => false)
    | _ => false)
  | _ => false
theorem filB_ok {K : Frag} {cd : Value} {file : Str} (h : filB K cd file = true) : ∃ c v d vs s f t, cd = .ref c ∧ K.lookup c = some ⟨v, d, .fields vs, s⟩ ∧ vs[2]? = some (.str f t) ∧ (file == f) = true := by
  unfold filB at h
  split at h
  · split at h
    · rename_i q
      split at h
      · rename_i q2
        exact ⟨_, _, _, _, _, _, _, rfl, q, q2, h⟩
      · cases h
    · cases h
  · cases h
/-- the defaults: None -/
def dnoB (K : Frag) (d : Value) : Bool := match d with
  | .ref t => (match K.lookup t with
    | some ⟨_, _, .seq its _, _⟩ => its.toList.length == 1 && its.toList.all fun v => v == Value.none
    | _ => false)
  | _ => false
theorem one_none {its : Array Value} (h1 : (its.toList.length == 1) = true) (h2 : (its.toList.all fun v => v == Value.none) = true) : its = #[.none] := by
  obtain ⟨l⟩ := its
  match l, h1, h2 with
  | [v], _, h2 =>
    have e : v = .none := by simpa using h2
    rw [e]
theorem dnoB_ok {K : Frag} {d : Value} (h : dnoB K d = true) : ∃ (t : Addr) (o : Obj) (n : Nat), d = .ref t ∧ K.lookup t = some o ∧ o.data = .seq #[.none] n := by
  unfold dnoB at h
  split at h
  · split at h
    · rename_i its n _ q
      obtain ⟨h1, h2⟩ := ba h
      have e := one_none h1 h2
      subst e
      exact ⟨_, _, _, rfl, q, rfl⟩
    · cases h
  · cases h
def eFnB (K : Frag) (C f : Addr) (file : Str) : Bool := match K.lookup f with
  | some ⟨_, _, .func fd, _⟩ => codeIn K fd.code fd.qualname && (celB K fd.closure C && (filB K fd.code file && dnoB K fd.defaults))
  | _ => false
/-- the class's facts; file: the program's -/
def eFacB (K : Frag) (file : Str) (x : Str) : Bool :=
  eClsB K (ga K x) && (decide (findIn K (.ref (ga K x)) "__setattr__" = some (some (.builtin "object.__setattr__"))) && (decide (findIn K (.ref (ga K x)) "__getattribute__" = some (some (.builtin "BaseException.__getattribute__"))) && (decide (findIn K (.ref (ga K x)) "__getattr__" = some none) &&
    (decide (findIn K (.ref (ga K x)) "value" = some none) && (decide (findIn K (.ref (ga K x)) "__init__" = some (some (.ref (ma K (ga K x) "__init__")))) && (decide (typeIn K (.ref (ma K (ga K x) "__init__")) = some (.type "function")) && (keepIn K (.ref (ga K x)) &&
      (decide (subIn K (.ref (ga K x)) (.type "BaseException") = some true) && (decide (subIn K (.ref (ga K x)) (.type "ValueError") = some true) && (decide (typeIn K (.ref (ga K x)) = some (.type "type")) && (hasDictIn K (ga K x) && (decide (mroIn K (ga K x) (.ref (ga K x)) = some true) &&
        (PySem.W.excInitIn K (ga K x) vB "ValueError.__new__" && (decide (PySem.W.ks_superIn K (ga K x) (ga K x) "__init__" = some (some (.builtin "ValueError.__init__"))) && (decide (nsIn K cStatics "thirdparty.any" = some none) && (decide (subIn K (.ref (ga K x)) (.ref (ga K x)) = some true) &&
          eFnB K (ga K x) (ma K (ga K x) "__init__") file))))))))))))))))
/-- together: what the rules for the error ask -/
theorem err_of {P : Program} {K : Frag} {mg : Str → Option Value} {e : ErrD} {file : Str} (nsu : mg "super" = none) (top : (P.main.scope.names.lookup ("super" : Str)).isSome = false) (hfile : (P.main.file : Str) = file)
    (ha : ∃ p1 p2 p3, defArgs e.st = eAr p1 p2 p3) (hbo : ∃ q1 q2 q3 q4 q5 q6 q7 q8 q9 q10, defBody e.st = eBo q1 q2 q3 q4 q5 q6 q7 q8 q9 q10 ∧ (q3.endLine == q5.line) = true) (hsc : defScope e.st = eSc)
    (c : efW K e = e.val) (b : eFacB K file e.x = true) : ErrC P K mg (ga K e.x) (ma K (ga K e.x) "__init__") := by
  obtain ⟨b1, b⟩ := ba b
  obtain ⟨b2, b⟩ := ba b
  obtain ⟨b3, b⟩ := ba b
  obtain ⟨b4, b⟩ := ba b
  obtain ⟨b5, b⟩ := ba b
  obtain ⟨b6, b⟩ := ba b
  obtain ⟨b7, b⟩ := ba b
  obtain ⟨b8, b⟩ := ba b
  obtain ⟨b9, b⟩ := ba b
  obtain ⟨b10, b⟩ := ba b
  obtain ⟨b11, b⟩ := ba b
  obtain ⟨b12, b⟩ := ba b
  obtain ⟨b13, b⟩ := ba b
  obtain ⟨b14, b⟩ := ba b
  obtain ⟨b15, b⟩ := ba b
  obtain ⟨b16, b⟩ := ba b
  obtain ⟨b17, b18⟩ := ba b
  refine ⟨eClsB_ok b1, of_decide_eq_true b2, of_decide_eq_true b3, of_decide_eq_true b4, of_decide_eq_true b5, of_decide_eq_true b6, of_decide_eq_true b7, b8, of_decide_eq_true b9, of_decide_eq_true b10, of_decide_eq_true b11, b12, of_decide_eq_true b13, b14, of_decide_eq_true b15, of_decide_eq_true b16, nsu, top, ?_⟩
  clear b1 b2 b3 b4 b5 b6 b7 b8 b9 b10 b11 b12 b13 b14 b15 b16 b17
  obtain ⟨p1, p2, p3, ea⟩ := ha
  obtain ⟨q1, q2, q3, q4, q5, q6, q7, q8, q9, q10, eb, hpos⟩ := hbo
  unfold efW at c
  unfold eFnB at b18
  cases q : K.lookup (ma K (ga K e.x) "__init__") with
  | none =>
    rw [q] at b18
    cases b18
  | some o =>
    obtain ⟨oc, od, dt, osl⟩ := o
    rw [q] at b18 c
    cases dt with
    | func fd =>
      obtain ⟨n1, n2, n3, n4, n5, n6, n7, n8, n9, n10, n11, n12, n13, n14, n15⟩ := fd
      have c2 : (some (n1, n3, n4, n5, n6, n7.map (·.1), n15) : EfW) = some (("__init__" : Str), defArgs e.st, FuncBody.stmts (defBody e.st), defScope e.st, mainGlobals, [("__class__" : Str)], builtinsNs) := c
      rw [ea, eb, hsc] at c2
      simp only [Option.some.injEq, Prod.mk.injEq] at c2
      obtain ⟨h1, h3, h4, h5, h6, h7, h8⟩ := c2
      subst h1 h3 h4 h5 h6 h8
      have b19 : (codeIn K n13 n2 && (celB K n7 (ga K e.x) && (filB K n13 file && dnoB K n8))) = true := b18
      obtain ⟨d1, d⟩ := ba b19
      obtain ⟨d2, d⟩ := ba d
      obtain ⟨d3, d4⟩ := ba d
      obtain ⟨y, cc, cl, cld, csl, rfl, k1⟩ := celB_ok d2
      obtain ⟨cda, ccl, cdd, vs, ccs, f, tf, rfl, k2, k3, k4⟩ := filB_ok d3
      obtain ⟨Td, oT, nT, rfl, k5, k6⟩ := dnoB_ok d4
      have ey : y = "__class__" := by simpa using h7
      subst ey
      exact ⟨_, _, _, _, _, _, _, _, _, _, _, _, _, _, _, _, cda, cc, vs, f, tf, p1, p2, p3, q1, q2, q3, q4, q5, q6, q7, q8, q9, q10, rfl, d1, k2, k3, by rw [hfile]; exact k4, k1, hpos, Td, oT, nT, rfl, k5, k6⟩
    | _ => cases b18
/-! ### the hook: HookR's and the errors' -/
abbrev AlE : Type := AlR × (List EfW × Bool)
def obsE (fa : List Fa) (fn : List DefD) (cs : List Str) (ks : List Kq) (ns : List Nf) (es : List ErrD) (file : Str) (K : Frag) : AlE := (obsR fa fn cs ks ns K, (es.map (efW K), es.all fun e => eFacB K file e.x))
def valE (fn : List DefD) (es : List ErrD) : AlE := (valR fn, (es.map ErrD.val, true))
def SaysE (fa : List Fa) (fn : List DefD) (cs : List Str) (ks : List Kq) (ns : List Nf) (es : List ErrD) (file : Str) (K : Frag) : Prop := obsE fa fn cs ks ns es file K = valE fn es
def obsEG (n : Nat) (fa : List Fa) (fn : List DefD) (cs : List Str) (ks : List Kq) (ns : List Nf) (es : List ErrD) (file : Str) (g : Addr → Option Obj) : AlE := obsE fa fn cs ks ns es file (frG g (cStatics :: asD g n))
def hookE (n : Nat) (fa : List Fa) (fn : List DefD) (cs : List Str) (ks : List Kq) (ns : List Nf) (es : List ErrD) (file : Str) : PySem.W.Hook where
  α := AlE
  obs := fun s => obsEG n fa fn cs ks ns es file s.heap.get?
  val := fun _ => valE fn es
  says := fun _ h => ∃ K : Frag, K.In h ∧ SaysE fa fn cs ks ns es file K
  of := fun _ _ e => ⟨_, frG_in, e⟩
  keeps := fun _ _ _ ⟨K, hK, c⟩ k => ⟨K, PySem.W.Frag.In.keeps hK k, c⟩
theorem obsEG_eq {n : Nat} {fa : List Fa} {fn : List DefD} {cs : List Str} {ks : List Kq} {ns : List Nf} {es : List ErrD} {file : Str} {g : Addr → Option Obj} {s : Shared} (h : ∀ a, g a = s.heap.get? a) : obsEG n fa fn cs ks ns es file g = (hookE n fa fn cs ks ns es file).obs s := by
  have e : g = s.heap.get? := funext h
  rw [e] <;> rfl
section
variable {fa : List Fa} {fn : List DefD} {cs : List Str} {ks : List Kq} {ns : List Nf} {es : List ErrD} {file : Str} {K : Frag}
theorem SaysE.r (c : SaysE fa fn cs ks ns es file K) : SaysR fa fn cs ks ns K := congrArg (fun z : AlE => z.1) c
theorem SaysE.err (c : SaysE fa fn cs ks ns es file K) (i : Nat) {e : ErrD} (h : es[i]? = some e := by rfl) : efW K e = e.val ∧ eFacB K file e.x = true := by
  have c1 : es.map (efW K) = es.map ErrD.val := congrArg (fun z : AlE => z.2.1) c
  have c2 : (es.all fun e => eFacB K file e.x) = true := congrArg (fun z : AlE => z.2.2) c
  refine ⟨?_, List.all_eq_true.mp c2 e (List.mem_of_getElem? h)⟩
  have z : (es.map (efW K))[i]? = (es.map ErrD.val)[i]? := by rw [c1]
  rw [List.getElem?_map, List.getElem?_map, h] at z
  exact Option.some.inj z
theorem sub_self {x : Str} (b : eFacB K file x = true) : subIn K (.ref (ga K x)) (.ref (ga K x)) = some true := by
  unfold eFacB at b
  exact of_decide_eq_true (ba (ba (ba (ba (ba (ba (ba (ba (ba (ba (ba (ba (ba (ba (ba (ba (ba b).2).2).2).2).2).2).2).2).2).2).2).2).2).2).2).2).1
end
end RC

/-! ## for i in range(a, b), a and b of any size -/
namespace RC
open PySem PySem.Spec PyProof.Rows L2
theorem turn_long {P : Program} {w : World} {K : PySem.W.Frag} {tg : Expr} (it : Addr) (lo : Int) (n : Nat) : Turn P w K tg (Itr lo n) [it] it (fun i h => IsLongIter h it (lo + (i : Nat) * 1) ((n : Int) - (i : Nat)) 1) where
  mem := List.mem_cons_self
  obj := fun i h st b hb => by
    obtain rfl := List.mem_singleton.mp hb
    exact ⟨_, st, fun v z => by
      have z2 : Data.fields _ = Data.cell v := z
      cases z2⟩
  keep := fun i h h' st k => k it List.mem_cons_self _ st
  item := fun X hP hw hK hc i pins s σ H E I hf st hg => by
    subst hP hw hK
    obtain ⟨f0, f1, f2, f3, f4, f5⟩ := hf it List.mem_cons_self
    refine (Walks.longrange (prog := X.prog) (w := X.w) (A := X.A) (I.ok.hd hc) it lo 1 n).item i s _ _ hg st fun v h' tk ⟨t, e⟩ st' kk => ?_
    subst e
    have I1 : Inv X pins σ H { s with heap := h', toks := tk } := I.turned (fun b o hb e => kk b o (fun z => hb (List.mem_singleton.mp z)) e) f0 f1 f3 f4 f5
    exact ⟨_, rfl, go_of (s := { s with heap := h', toks := tk }) (n := "longrange_iterator") st' rfl rfl (by decide) ⟨.int (lo + i), H, I1, ⟨t, by rw [Int.mul_one]⟩, ⟨rfl, rfl⟩, st', fun b hb => (hf b hb).1⟩⟩
  done := fun X hP hw hK hc i pins s σ H E I hf st hg => by
    subst hP hw hK
    obtain ⟨f0, f1, f2, f3, f4, f5⟩ := hf it List.mem_cons_self
    have le : n ≤ i := hg
    exact wpAny_pyNext_long_end (I.ok.hd hc) st (by omega) fun h' eb => ⟨rfl, I.turned (t' := s.toks) (fun b o hb e => eb b o hb e) f0 f1 f3 f4 f5⟩
  self := fun _ _ _ _ _ st h => wpAny_pyIter_longiter st h
section
variable {X : Cx} {tg : Expr}
def iRngL (ta : TA) : TI := fun σ H R => ta σ H fun vs H1 => ∃ i j : Int, vs = [.int i, .int j] ∧ R (Itr i (j - i).toNat) H1
theorem pi_rangeL {a b : Expr} {ta : TA} {p pos : Pos} (hg : Gl X "range") (hm : X.mg "range" = none) (ha : PA X [a, b] ta) (hs : starEach [a, b] X.env = [(false, eval a X.env), (false, eval b X.env)] := by rfl) (hs2 : starEach [b] X.env = [(false, eval b X.env)] := by rfl) : PI X tg (.Call (.Name "range" p) [a, b] [] pos) (iRngL ta) := by
  refine ⟨fun pins s σ H R I h => Call_ (ld_blt I hg hm boot_range (PyProof.Rows.callWith_type1 (thn (ha.run pos pins s σ H _ I h) fun us s1 ⟨vs, H1, I1, r1, i, j, e, q⟩ => ?_) (by rw [hs, hs2]) (by rw [hs2]; rfl)))⟩
  subst e
  cases r1 with
  | cons r rr =>
    cases rr with
    | cons r' rr =>
      cases rr
      obtain ⟨t, rfl⟩ := r
      obtain ⟨t', rfl⟩ := r'
      refine call_range_2 ?_
      have size : (((j - i).toNat : Nat) : Int) - ((0 : Nat) : Int) = Builtin.Range.rangeSize i j 1 := by
        rw [rangeSize_one]
        split <;> omega
      have first : i + ((0 : Nat) : Int) * 1 = i := by simp
      have new : ∀ {o o' : Obj} {tk : Nat}, Inv X pins σ H1 { s1 with heap := (s1.heap.push o).push o', toks := tk } := fun {o o' tk} => I1.kept fun b u e => Heap.get?_push_of_some _ (Heap.get?_push_of_some _ e)
      have fp : ∀ {o : Obj} {tk : Nat} {b : Addr}, b ∈ [(s1.heap.push o).objs.size] → FpOk X pins H1 b := fun {o tk b} hb => by
        obtain rfl := List.mem_singleton.mp hb
        have J : Inv X pins σ H1 { s1 with heap := s1.heap.push o, toks := tk } := I1.kept fun b u e => Heap.get?_push_of_some _ e
        exact J.fpOk (Nat.le_refl _) (J.hok.fresh (Nat.le_refl _))
      cases hb : Builtin.Range.small i j 1 with
      | true =>
        refine wpAny_pyIter_range (IsRange.new ..) hb ⟨_, [_], _, _, H1, rfl, new, turn_range _ i (j - i).toNat, ?_, fun b hb => fp (tk := 0) hb, q⟩
        show IsRangeIter _ _ (i + ((0 : Nat) : Int) * 1) ((((j - i).toNat : Nat) : Int) - ((0 : Nat) : Int)) 1
        rw [first, size]
        exact Heap.get?_push_size _ rfl
      | false =>
        refine wpAny_pyIter_longrange (IsRange.new ..) hb ⟨_, [_], _, _, H1, rfl, new, turn_long _ i (j - i).toNat, ?_, fun b hb => fp (tk := 0) hb, q⟩
        show IsLongIter _ _ (i + ((0 : Nat) : Int) * 1) ((((j - i).toNat : Nat) : Int) - ((0 : Nat) : Int)) 1
        rw [first, size]
        exact Heap.get?_push_size _ rfl
def RnL (vs : List V) (H : Hp) (R : It → Hp → Prop) : Prop := ∃ i j : Int, vs = [.int i, .int j] ∧ R (Itr i (j - i).toNat) H
theorem r_rngL {tA : TA} {σ : L2.St} {H : Hp} {R : It → Hp → Prop} (h : tA σ H fun vs H1 => RnL vs H1 R) : iRngL tA σ H R := h
theorem r_rngL' {H : Hp} {i j : Int} {n : Nat} {R : It → Hp → Prop} (e : (j - i).toNat = n) (h : R (Itr i n) H) : RnL [.int i, .int j] H R := ⟨i, j, rfl, by rw [e]; exact h⟩
end
end RC

namespace RC
open PySem PySem.Spec PyProof.Rows L2 He

abbrev PR : Program := (PySem.W.OpenLaw.row PySem.Challenge.rw_rollclerk_k11_totals_and_torn_rolls).prog
def top (i : Nat) : Stmt := PySem.Challenge.pw_rollclerk_k11_totals_and_torn_rolls.main.body.getD i (.Pass ⟨0, 0, 0, 0⟩)
abbrev s_is_whole : Stmt := (top 7)
abbrev N_is_whole : List Str := ["value"]
theorem sc_is_whole : FnScope N_is_whole ["value"] (defScope s_is_whole) := ⟨rfl, rfl, rfl, by decide +kernel, rfl, by decide +kernel, by decide +kernel⟩
abbrev s_check_number : Stmt := (top 8)
abbrev N_check_number : List Str := ["value", "least"]
theorem sc_check_number : FnScope N_check_number ["value", "least"] (defScope s_check_number) := ⟨rfl, rfl, rfl, by decide +kernel, rfl, by decide +kernel, by decide +kernel⟩
abbrev s_Roll_init : Stmt := (inClass (top 10) 0)
abbrev N_Roll_init : List Str := ["self", "worths", "worth", "firsts"]
theorem sc_Roll_init : FnScope N_Roll_init ["self", "worths"] (defScope s_Roll_init) := ⟨rfl, rfl, rfl, by decide +kernel, rfl, by decide +kernel, by decide +kernel⟩
abbrev s_Roll_worths : Stmt := (inClass (top 10) 1)
abbrev N_Roll_worths : List Str := ["self"]
theorem sc_Roll_worths : FnScope N_Roll_worths ["self"] (defScope s_Roll_worths) := ⟨rfl, rfl, rfl, by decide +kernel, rfl, by decide +kernel, by decide +kernel⟩
abbrev s_Roll_len : Stmt := (inClass (top 10) 2)
abbrev N_Roll_len : List Str := ["self"]
theorem sc_Roll_len : FnScope N_Roll_len ["self"] (defScope s_Roll_len) := ⟨rfl, rfl, rfl, by decide +kernel, rfl, by decide +kernel, by decide +kernel⟩
abbrev s_Roll_worth : Stmt := (inClass (top 10) 4)
abbrev N_Roll_worth : List Str := ["self", "at"]
theorem sc_Roll_worth : FnScope N_Roll_worth ["self", "at"] (defScope s_Roll_worth) := ⟨rfl, rfl, rfl, by decide +kernel, rfl, by decide +kernel, by decide +kernel⟩
abbrev s_Roll_upto : Stmt := (inClass (top 10) 5)
abbrev N_Roll_upto : List Str := ["self", "many"]
theorem sc_Roll_upto : FnScope N_Roll_upto ["self", "many"] (defScope s_Roll_upto) := ⟨rfl, rfl, rfl, by decide +kernel, rfl, by decide +kernel, by decide +kernel⟩
abbrev s_Roll_total : Stmt := (inClass (top 10) 6)
abbrev N_Roll_total : List Str := ["self", "start", "length"]
theorem sc_Roll_total : FnScope N_Roll_total ["self", "start", "length"] (defScope s_Roll_total) := ⟨rfl, rfl, rfl, by decide +kernel, rfl, by decide +kernel, by decide +kernel⟩
abbrev s_Roll_torn : Stmt := (inClass (top 10) 7)
abbrev N_Roll_torn : List Str := ["self", "many", "cut"]
theorem sc_Roll_torn : FnScope N_Roll_torn ["self", "many"] (defScope s_Roll_torn) := ⟨rfl, rfl, rfl, by decide +kernel, rfl, by decide +kernel, by decide +kernel⟩
abbrev s_Roll_mirrored : Stmt := (inClass (top 10) 8)
abbrev N_Roll_mirrored : List Str := ["self"]
theorem sc_Roll_mirrored : FnScope N_Roll_mirrored ["self"] (defScope s_Roll_mirrored) := ⟨rfl, rfl, rfl, by decide +kernel, rfl, by decide +kernel, by decide +kernel⟩
abbrev s_Roll_eq : Stmt := (inClass (top 10) 9)
abbrev N_Roll_eq : List Str := ["self", "other"]
theorem sc_Roll_eq : FnScope N_Roll_eq ["self", "other"] (defScope s_Roll_eq) := ⟨rfl, rfl, rfl, by decide +kernel, rfl, by decide +kernel, by decide +kernel⟩
abbrev s_l_mixed : Stmt := (top 12)
abbrev N_l_mixed : List Str := ["_law_cell", "_law_k", "_law_number"]
theorem sc_l_mixed : FnScope N_l_mixed ["_law_cell", "_law_k"] (defScope s_l_mixed) := ⟨rfl, rfl, rfl, by decide +kernel, rfl, by decide +kernel, by decide +kernel⟩
abbrev s_l_purse : Stmt := (top 13)
abbrev N_l_purse : List Str := ["_law_script", "_law_at", "_law_cell"]
theorem sc_l_purse : FnScope N_l_purse ["_law_script", "_law_at"] (defScope s_l_purse) := ⟨rfl, rfl, rfl, by decide +kernel, rfl, by decide +kernel, by decide +kernel⟩
abbrev s_l_draw : Stmt := (top 14)
abbrev N_l_draw : List Str := ["_law_purse_here", "_law_out_of", "_law_drawn", "_law_number", "_law_k"]
theorem sc_l_draw : FnScope N_l_draw ["_law_purse_here", "_law_out_of"] (defScope s_l_draw) := ⟨rfl, rfl, rfl, by decide +kernel, rfl, by decide +kernel, by decide +kernel⟩
abbrev s_l_worths_drawn : Stmt := (top 15)
abbrev N_l_worths_drawn : List Str := ["_law_purse_here", "_law_most", "_law_greatest", "_law_some", "_law_turn"]
theorem sc_l_worths_drawn : FnScope N_l_worths_drawn ["_law_purse_here", "_law_most", "_law_greatest"] (defScope s_l_worths_drawn) := ⟨rfl, rfl, rfl, by decide +kernel, rfl, by decide +kernel, by decide +kernel⟩
abbrev s_l_sum : Stmt := (top 16)
abbrev N_l_sum : List Str := ["_law_some", "_law_start", "_law_length", "_law_laps", "_law_rest", "_law_total", "_law_at"]
theorem sc_l_sum : FnScope N_l_sum ["_law_some", "_law_start", "_law_length"] (defScope s_l_sum) := ⟨rfl, rfl, rfl, by decide +kernel, rfl, by decide +kernel, by decide +kernel⟩
abbrev s_l_caught : Stmt := (top 17)
abbrev N_l_caught : List Str := ["_law_roll", "_law_door", "_law_one", "_law_other", "_law_caught_here", "e"]
theorem sc_l_caught : FnScope N_l_caught ["_law_roll", "_law_door", "_law_one", "_law_other"] (defScope s_l_caught) := ⟨rfl, rfl, rfl, by decide +kernel, rfl, by decide +kernel, by decide +kernel⟩
abbrev s_l_refused : Stmt := (top 18)
abbrev N_l_refused : List Str := ["_law_roll", "_law_odd", "_law_one", "_law_other"]
theorem sc_l_refused : FnScope N_l_refused ["_law_roll"] (defScope s_l_refused) := ⟨rfl, rfl, rfl, by decide +kernel, rfl, by decide +kernel, by decide +kernel⟩
abbrev s_law : Stmt := (top 19)
abbrev N_law : List Str := ["_law_script", "_law_cell", "_law_purse_here", "_law_some", "_law_roll", "_law_turn", "_law_start", "_law_length", "_law_cut", "_law_torn", "_law_plain", "_law_at"]
theorem sc_law : FnScope N_law ["_law_script"] (defScope s_law) := ⟨rfl, rfl, rfl, by decide +kernel, rfl, by decide +kernel, by decide +kernel⟩
def e_InvalidNumberD : ErrD := ⟨"InvalidNumber", inClass (top 3) 0⟩
def e_InvalidListD : ErrD := ⟨"InvalidList", inClass (top 4) 0⟩
def e_InvalidWorthD : ErrD := ⟨"InvalidWorth", inClass (top 5) 0⟩
abbrev FnP (K : PySem.W.Frag) (x q : Str) (st : Stmt) (dv : List V) (f : Addr) (fd : FuncData) : Prop := FunD K x q (defArgs st) (defBody st) (defScope st) dv [] f fd
/-- what the walk asks of the top -/
structure Txt (K : PySem.W.Frag) (mg : Str → Option Value) : Type where
  g_is_whole : mg "is_whole" = some (.ref (ga K "is_whole"))
  g_check_number : mg "check_number" = some (.ref (ga K "check_number"))
  g_l_mixed : mg "_law_mixed" = some (.ref (ga K "_law_mixed"))
  g_l_purse : mg "_law_purse" = some (.ref (ga K "_law_purse"))
  g_l_draw : mg "_law_draw" = some (.ref (ga K "_law_draw"))
  g_l_worths_drawn : mg "_law_worths_drawn" = some (.ref (ga K "_law_worths_drawn"))
  g_l_sum : mg "_law_sum" = some (.ref (ga K "_law_sum"))
  g_l_caught : mg "_law_caught" = some (.ref (ga K "_law_caught"))
  g_l_refused : mg "_law_refused" = some (.ref (ga K "_law_refused"))
  g_law : mg "law" = some (.ref (ga K "law"))
  g_ClerkError : mg "ClerkError" = some (.ref (ga K "ClerkError"))
  g_InvalidNumber : mg "InvalidNumber" = some (.ref (ga K "InvalidNumber"))
  g_InvalidList : mg "InvalidList" = some (.ref (ga K "InvalidList"))
  g_InvalidWorth : mg "InvalidWorth" = some (.ref (ga K "InvalidWorth"))
  g_Roll : mg "Roll" = some (.ref (ga K "Roll"))
  fr_bool : mg "bool" = none
  fr_int : mg "int" = none
  fr_isinstance : mg "isinstance" = none
  fr_len : mg "len" = none
  fr_list : mg "list" = none
  fr_max : mg "max" = none
  fr_min : mg "min" = none
  fr_range : mg "range" = none
  fr_repr : mg "repr" = none
  fr_sum : mg "sum" = none
  fr_tuple : mg "tuple" = none
  cl_Roll : Cls K (ga K "Roll")
  mk_Roll : Mk K (ga K "Roll") (ma K (ga K "Roll") "__init__")
  m_Roll_init : Meth K (ga K "Roll") "__init__" (ma K (ga K "Roll") "__init__")
  m_Roll_worths : Meth K (ga K "Roll") "worths" (ma K (ga K "Roll") "worths")
  m_Roll_len : Meth K (ga K "Roll") "__len__" (ma K (ga K "Roll") "__len__")
  m_Roll_worth : Meth K (ga K "Roll") "worth" (ma K (ga K "Roll") "worth")
  m_Roll_upto : Meth K (ga K "Roll") "upto" (ma K (ga K "Roll") "upto")
  m_Roll_total : Meth K (ga K "Roll") "total" (ma K (ga K "Roll") "total")
  m_Roll_torn : Meth K (ga K "Roll") "torn" (ma K (ga K "Roll") "torn")
  m_Roll_mirrored : Meth K (ga K "Roll") "mirrored" (ma K (ga K "Roll") "mirrored")
  m_Roll_eq : Meth K (ga K "Roll") "__eq__" (ma K (ga K "Roll") "__eq__")
  na_Roll_row : NoAttr K (ga K "Roll") "row"
  na_Roll_firsts : NoAttr K (ga K "Roll") "firsts"
  fr_super : mg "super" = none
  x_Roll : ClsX K (ga K "Roll")
  k_int_Roll : PySem.W.kitOne K (.type "int") (.ref (ga K "Roll")) = some false
  n_Roll_int : PySem.W.notFirst K (ga K "Roll") (.type "int") = true
  k_Roll_int : PySem.W.kitOne K (.ref (ga K "Roll")) (.type "int") = some false
  k_bool_Roll : PySem.W.kitOne K (.type "bool") (.ref (ga K "Roll")) = some false
  n_Roll_bool : PySem.W.notFirst K (ga K "Roll") (.type "bool") = true
  k_Roll_bool : PySem.W.kitOne K (.ref (ga K "Roll")) (.type "bool") = some false
  k_str_Roll : PySem.W.kitOne K (.type "str") (.ref (ga K "Roll")) = some false
  n_Roll_str : PySem.W.notFirst K (ga K "Roll") (.type "str") = true
  k_Roll_str : PySem.W.kitOne K (.ref (ga K "Roll")) (.type "str") = some false
  k_NoneType_Roll : PySem.W.kitOne K (.type "NoneType") (.ref (ga K "Roll")) = some false
  n_Roll_NoneType : PySem.W.notFirst K (ga K "Roll") (.type "NoneType") = true
  k_list_Roll : PySem.W.kitOne K (.type "list") (.ref (ga K "Roll")) = some false
  n_Roll_list : PySem.W.notFirst K (ga K "Roll") (.type "list") = true
  k_Roll_list : PySem.W.kitOne K (.ref (ga K "Roll")) (.type "list") = some false
  k_tuple_Roll : PySem.W.kitOne K (.type "tuple") (.ref (ga K "Roll")) = some false
  n_Roll_tuple : PySem.W.notFirst K (ga K "Roll") (.type "tuple") = true
  k_Roll_tuple : PySem.W.kitOne K (.ref (ga K "Roll")) (.type "tuple") = some false
  k_dict_Roll : PySem.W.kitOne K (.type "dict") (.ref (ga K "Roll")) = some false
  n_Roll_dict : PySem.W.notFirst K (ga K "Roll") (.type "dict") = true
  k_Roll_dict : PySem.W.kitOne K (.ref (ga K "Roll")) (.type "dict") = some false
  k_Roll_Roll : PySem.W.kitOne K (.ref (ga K "Roll")) (.ref (ga K "Roll")) = some true
  n_Roll_Roll : PySem.W.notFirst K (ga K "Roll") (.ref (ga K "Roll")) = true
  e_InvalidNumber : ErrC PR K mg (ga K "InvalidNumber") (ma K (ga K "InvalidNumber") "__init__")
  es_InvalidNumber : PySem.W.subIn K (.ref (ga K "InvalidNumber")) (.ref (ga K "InvalidNumber")) = some true
  e_InvalidList : ErrC PR K mg (ga K "InvalidList") (ma K (ga K "InvalidList") "__init__")
  es_InvalidList : PySem.W.subIn K (.ref (ga K "InvalidList")) (.ref (ga K "InvalidList")) = some true
  e_InvalidWorth : ErrC PR K mg (ga K "InvalidWorth") (ma K (ga K "InvalidWorth") "__init__")
  es_InvalidWorth : PySem.W.subIn K (.ref (ga K "InvalidWorth")) (.ref (ga K "InvalidWorth")) = some true
  fd_is_whole : FuncData
  F_is_whole : FnP K "is_whole" "is_whole" s_is_whole [] (He.fAd K ("is_whole", none)) fd_is_whole
  fd_check_number : FuncData
  F_check_number : FnP K "check_number" "check_number" s_check_number [] (He.fAd K ("check_number", none)) fd_check_number
  fd_Roll_init : FuncData
  F_Roll_init : FnP K "__init__" "Roll.__init__" s_Roll_init [] (He.fAd K ("Roll", some "__init__")) fd_Roll_init
  fd_Roll_worths : FuncData
  F_Roll_worths : FnP K "worths" "Roll.worths" s_Roll_worths [] (He.fAd K ("Roll", some "worths")) fd_Roll_worths
  fd_Roll_len : FuncData
  F_Roll_len : FnP K "__len__" "Roll.__len__" s_Roll_len [] (He.fAd K ("Roll", some "__len__")) fd_Roll_len
  fd_Roll_worth : FuncData
  F_Roll_worth : FnP K "worth" "Roll.worth" s_Roll_worth [] (He.fAd K ("Roll", some "worth")) fd_Roll_worth
  fd_Roll_upto : FuncData
  F_Roll_upto : FnP K "upto" "Roll.upto" s_Roll_upto [] (He.fAd K ("Roll", some "upto")) fd_Roll_upto
  fd_Roll_total : FuncData
  F_Roll_total : FnP K "total" "Roll.total" s_Roll_total [] (He.fAd K ("Roll", some "total")) fd_Roll_total
  fd_Roll_torn : FuncData
  F_Roll_torn : FnP K "torn" "Roll.torn" s_Roll_torn [] (He.fAd K ("Roll", some "torn")) fd_Roll_torn
  fd_Roll_mirrored : FuncData
  F_Roll_mirrored : FnP K "mirrored" "Roll.mirrored" s_Roll_mirrored [] (He.fAd K ("Roll", some "mirrored")) fd_Roll_mirrored
  fd_Roll_eq : FuncData
  F_Roll_eq : FnP K "__eq__" "Roll.__eq__" s_Roll_eq [] (He.fAd K ("Roll", some "__eq__")) fd_Roll_eq
  fd_l_mixed : FuncData
  F_l_mixed : FnP K "_law_mixed" "_law_mixed" s_l_mixed [] (He.fAd K ("_law_mixed", none)) fd_l_mixed
  fd_l_purse : FuncData
  F_l_purse : FnP K "_law_purse" "_law_purse" s_l_purse [] (He.fAd K ("_law_purse", none)) fd_l_purse
  fd_l_draw : FuncData
  F_l_draw : FnP K "_law_draw" "_law_draw" s_l_draw [] (He.fAd K ("_law_draw", none)) fd_l_draw
  fd_l_worths_drawn : FuncData
  F_l_worths_drawn : FnP K "_law_worths_drawn" "_law_worths_drawn" s_l_worths_drawn [] (He.fAd K ("_law_worths_drawn", none)) fd_l_worths_drawn
  fd_l_sum : FuncData
  F_l_sum : FnP K "_law_sum" "_law_sum" s_l_sum [] (He.fAd K ("_law_sum", none)) fd_l_sum
  fd_l_caught : FuncData
  F_l_caught : FnP K "_law_caught" "_law_caught" s_l_caught [] (He.fAd K ("_law_caught", none)) fd_l_caught
  fd_l_refused : FuncData
  F_l_refused : FnP K "_law_refused" "_law_refused" s_l_refused [] (He.fAd K ("_law_refused", none)) fd_l_refused
  fd_law : FuncData
  F_law : FnP K "law" "law" s_law [] (He.fAd K ("law", none)) fd_law
section
variable {K : PySem.W.Frag} {mg : Str → Option Value}
theorem b_is_whole (T : Txt K mg) : Binds K T.fd_is_whole ["value"] [] := T.F_is_whole.bindsN fun _ _ _ _ _ _ us hl => match us, hl with | [_], _ => rfl
theorem b_check_number (T : Txt K mg) : Binds K T.fd_check_number ["value", "least"] [] := T.F_check_number.bindsN fun _ _ _ _ _ _ us hl => match us, hl with | [_, _], _ => rfl
theorem b_Roll_init (T : Txt K mg) : Binds K T.fd_Roll_init ["self", "worths"] [] := T.F_Roll_init.bindsN fun _ _ _ _ _ _ us hl => match us, hl with | [_, _], _ => rfl
theorem b_Roll_worths (T : Txt K mg) : Binds K T.fd_Roll_worths ["self"] [] := T.F_Roll_worths.bindsN fun _ _ _ _ _ _ us hl => match us, hl with | [_], _ => rfl
theorem b_Roll_len (T : Txt K mg) : Binds K T.fd_Roll_len ["self"] [] := T.F_Roll_len.bindsN fun _ _ _ _ _ _ us hl => match us, hl with | [_], _ => rfl
theorem b_Roll_worth (T : Txt K mg) : Binds K T.fd_Roll_worth ["self", "at"] [] := T.F_Roll_worth.bindsN fun _ _ _ _ _ _ us hl => match us, hl with | [_, _], _ => rfl
theorem b_Roll_upto (T : Txt K mg) : Binds K T.fd_Roll_upto ["self", "many"] [] := T.F_Roll_upto.bindsN fun _ _ _ _ _ _ us hl => match us, hl with | [_, _], _ => rfl
theorem b_Roll_total (T : Txt K mg) : Binds K T.fd_Roll_total ["self", "start", "length"] [] := T.F_Roll_total.bindsN fun _ _ _ _ _ _ us hl => match us, hl with | [_, _, _], _ => rfl
theorem b_Roll_torn (T : Txt K mg) : Binds K T.fd_Roll_torn ["self", "many"] [] := T.F_Roll_torn.bindsN fun _ _ _ _ _ _ us hl => match us, hl with | [_, _], _ => rfl
theorem b_Roll_mirrored (T : Txt K mg) : Binds K T.fd_Roll_mirrored ["self"] [] := T.F_Roll_mirrored.bindsN fun _ _ _ _ _ _ us hl => match us, hl with | [_], _ => rfl
theorem b_Roll_eq (T : Txt K mg) : Binds K T.fd_Roll_eq ["self", "other"] [] := T.F_Roll_eq.bindsN fun _ _ _ _ _ _ us hl => match us, hl with | [_, _], _ => rfl
theorem b_l_mixed (T : Txt K mg) : Binds K T.fd_l_mixed ["_law_cell", "_law_k"] [] := T.F_l_mixed.bindsN fun _ _ _ _ _ _ us hl => match us, hl with | [_, _], _ => rfl
theorem b_l_purse (T : Txt K mg) : Binds K T.fd_l_purse ["_law_script", "_law_at"] [] := T.F_l_purse.bindsN fun _ _ _ _ _ _ us hl => match us, hl with | [_, _], _ => rfl
theorem b_l_draw (T : Txt K mg) : Binds K T.fd_l_draw ["_law_purse_here", "_law_out_of"] [] := T.F_l_draw.bindsN fun _ _ _ _ _ _ us hl => match us, hl with | [_, _], _ => rfl
theorem b_l_worths_drawn (T : Txt K mg) : Binds K T.fd_l_worths_drawn ["_law_purse_here", "_law_most", "_law_greatest"] [] := T.F_l_worths_drawn.bindsN fun _ _ _ _ _ _ us hl => match us, hl with | [_, _, _], _ => rfl
theorem b_l_sum (T : Txt K mg) : Binds K T.fd_l_sum ["_law_some", "_law_start", "_law_length"] [] := T.F_l_sum.bindsN fun _ _ _ _ _ _ us hl => match us, hl with | [_, _, _], _ => rfl
theorem b_l_caught (T : Txt K mg) : Binds K T.fd_l_caught ["_law_roll", "_law_door", "_law_one", "_law_other"] [] := T.F_l_caught.bindsN fun _ _ _ _ _ _ us hl => match us, hl with | [_, _, _, _], _ => rfl
theorem b_l_refused (T : Txt K mg) : Binds K T.fd_l_refused ["_law_roll"] [] := T.F_l_refused.bindsN fun _ _ _ _ _ _ us hl => match us, hl with | [_], _ => rfl
theorem b_law (T : Txt K mg) : Binds K T.fd_law ["_law_script"] [] := T.F_law.bindsN fun _ _ _ _ _ _ us hl => match us, hl with | [_], _ => rfl
end
def d_is_whole : He.DefD := ⟨("is_whole", none), "is_whole", "is_whole", defArgs s_is_whole, defBody s_is_whole, defScope s_is_whole, [], []⟩
def d_check_number : He.DefD := ⟨("check_number", none), "check_number", "check_number", defArgs s_check_number, defBody s_check_number, defScope s_check_number, [], []⟩
def d_Roll_init : He.DefD := ⟨("Roll", some "__init__"), "__init__", "Roll.__init__", defArgs s_Roll_init, defBody s_Roll_init, defScope s_Roll_init, [], []⟩
def d_Roll_worths : He.DefD := ⟨("Roll", some "worths"), "worths", "Roll.worths", defArgs s_Roll_worths, defBody s_Roll_worths, defScope s_Roll_worths, [], []⟩
def d_Roll_len : He.DefD := ⟨("Roll", some "__len__"), "__len__", "Roll.__len__", defArgs s_Roll_len, defBody s_Roll_len, defScope s_Roll_len, [], []⟩
def d_Roll_worth : He.DefD := ⟨("Roll", some "worth"), "worth", "Roll.worth", defArgs s_Roll_worth, defBody s_Roll_worth, defScope s_Roll_worth, [], []⟩
def d_Roll_upto : He.DefD := ⟨("Roll", some "upto"), "upto", "Roll.upto", defArgs s_Roll_upto, defBody s_Roll_upto, defScope s_Roll_upto, [], []⟩
def d_Roll_total : He.DefD := ⟨("Roll", some "total"), "total", "Roll.total", defArgs s_Roll_total, defBody s_Roll_total, defScope s_Roll_total, [], []⟩
def d_Roll_torn : He.DefD := ⟨("Roll", some "torn"), "torn", "Roll.torn", defArgs s_Roll_torn, defBody s_Roll_torn, defScope s_Roll_torn, [], []⟩
def d_Roll_mirrored : He.DefD := ⟨("Roll", some "mirrored"), "mirrored", "Roll.mirrored", defArgs s_Roll_mirrored, defBody s_Roll_mirrored, defScope s_Roll_mirrored, [], []⟩
def d_Roll_eq : He.DefD := ⟨("Roll", some "__eq__"), "__eq__", "Roll.__eq__", defArgs s_Roll_eq, defBody s_Roll_eq, defScope s_Roll_eq, [], []⟩
def d_l_mixed : He.DefD := ⟨("_law_mixed", none), "_law_mixed", "_law_mixed", defArgs s_l_mixed, defBody s_l_mixed, defScope s_l_mixed, [], []⟩
def d_l_purse : He.DefD := ⟨("_law_purse", none), "_law_purse", "_law_purse", defArgs s_l_purse, defBody s_l_purse, defScope s_l_purse, [], []⟩
def d_l_draw : He.DefD := ⟨("_law_draw", none), "_law_draw", "_law_draw", defArgs s_l_draw, defBody s_l_draw, defScope s_l_draw, [], []⟩
def d_l_worths_drawn : He.DefD := ⟨("_law_worths_drawn", none), "_law_worths_drawn", "_law_worths_drawn", defArgs s_l_worths_drawn, defBody s_l_worths_drawn, defScope s_l_worths_drawn, [], []⟩
def d_l_sum : He.DefD := ⟨("_law_sum", none), "_law_sum", "_law_sum", defArgs s_l_sum, defBody s_l_sum, defScope s_l_sum, [], []⟩
def d_l_caught : He.DefD := ⟨("_law_caught", none), "_law_caught", "_law_caught", defArgs s_l_caught, defBody s_l_caught, defScope s_l_caught, [], []⟩
def d_l_refused : He.DefD := ⟨("_law_refused", none), "_law_refused", "_law_refused", defArgs s_l_refused, defBody s_l_refused, defScope s_l_refused, [], []⟩
def d_law : He.DefD := ⟨("law", none), "law", "law", defArgs s_law, defBody s_law, defScope s_law, [], []⟩
def fn0 : List He.DefD := [d_is_whole, d_check_number, d_Roll_init, d_Roll_worths, d_Roll_len, d_Roll_worth, d_Roll_upto, d_Roll_total, d_Roll_torn, d_Roll_mirrored, d_Roll_eq, d_l_mixed, d_l_purse, d_l_draw, d_l_worths_drawn, d_l_sum, d_l_caught, d_l_refused, d_law]
def fn : List He.DefD := fn0
def fa0 : List He.Fa := [.glo "is_whole", .glo "check_number", .glo "_law_mixed", .glo "_law_purse", .glo "_law_draw", .glo "_law_worths_drawn", .glo "_law_sum", .glo "_law_caught", .glo "_law_refused", .glo "law", .glo "ClerkError", .glo "InvalidNumber", .glo "InvalidList", .glo "InvalidWorth", .glo "Roll", .free "bool", .free "int", .free "isinstance", .free "len", .free "list", .free "max", .free "min", .free "range", .free "repr", .free "sum", .free "tuple", .cls "Roll", .mkr "Roll", .meth "Roll" "__init__", .meth "Roll" "worths"]
def fa1 : List He.Fa := [.meth "Roll" "__len__", .meth "Roll" "worth", .meth "Roll" "upto", .meth "Roll" "total", .meth "Roll" "torn", .meth "Roll" "mirrored", .meth "Roll" "__eq__", .noat "Roll" "row", .noat "Roll" "firsts", .free "super"]
def fa : List He.Fa := fa0 ++ (fa1)
def cs0 : List Str := ["Roll"]
def cs : List Str := cs0
def ks0 : List Kq := [⟨.ty "int", .own "Roll", false⟩, ⟨.own "Roll", .ty "int", false⟩, ⟨.ty "bool", .own "Roll", false⟩, ⟨.own "Roll", .ty "bool", false⟩, ⟨.ty "str", .own "Roll", false⟩, ⟨.own "Roll", .ty "str", false⟩, ⟨.ty "NoneType", .own "Roll", false⟩, ⟨.ty "list", .own "Roll", false⟩, ⟨.own "Roll", .ty "list", false⟩, ⟨.ty "tuple", .own "Roll", false⟩, ⟨.own "Roll", .ty "tuple", false⟩, ⟨.ty "dict", .own "Roll", false⟩, ⟨.own "Roll", .ty "dict", false⟩, ⟨.own "Roll", .own "Roll", true⟩]
def ks : List Kq := ks0
def ns0 : List Nf := [⟨"Roll", .ty "int"⟩, ⟨"Roll", .ty "bool"⟩, ⟨"Roll", .ty "str"⟩, ⟨"Roll", .ty "NoneType"⟩, ⟨"Roll", .ty "list"⟩, ⟨"Roll", .ty "tuple"⟩, ⟨"Roll", .ty "dict"⟩, ⟨"Roll", .own "Roll"⟩]
def ns : List Nf := ns0
def loose0 : List Str := ["_wall", "is_whole", "check_number", "_law_mixed", "_law_purse", "_law_draw", "_law_worths_drawn", "_law_sum", "_law_caught", "_law_refused", "ClerkError", "InvalidNumber", "InvalidList", "InvalidWorth", "Roll"]
def loose : List Str := loose0
abbrev R : PySem.W.OpenRow := PySem.W.OpenLaw.row PySem.Challenge.rw_rollclerk_k11_totals_and_torn_rolls
def es : List ErrD := [e_InvalidNumberD, e_InvalidListD, e_InvalidWorthD]
abbrev hk : PySem.W.Hook := RC.hookE 6 fa fn cs ks ns es PR.main.file
def ob (s : PySem.W.SharedT) : RC.AlE := RC.obsEG 6 fa fn cs ks ns es PR.main.file (HandSHeadRun.getT s)
theorem ob_eq (s : PySem.W.SharedT) : ob s = hk.obs s.abs := RC.obsEG_eq (HandSHeadRun.getT_eq s)
theorem run (w : World) : HandSHeadRun.RunEq R (PySem.W.view R.prog [19]) hk ob 4000 loose w := by
  intro os
  kernel_rfl
theorem txt_of {K : PySem.W.Frag} {h : Heap} {mg : Str → Option Value} (X : K.In h) (G : h.Ns mainGlobals mg) (c : RC.SaysE fa fn cs ks ns es PR.main.file K) : Nonempty (Txt K mg) := by
  obtain ⟨fd_is_whole, F_is_whole⟩ := c.r.d.def_ 0 (d := d_is_whole) rfl
  obtain ⟨fd_check_number, F_check_number⟩ := c.r.d.def_ 1 (d := d_check_number) rfl
  obtain ⟨fd_Roll_init, F_Roll_init⟩ := c.r.d.def_ 2 (d := d_Roll_init) rfl
  obtain ⟨fd_Roll_worths, F_Roll_worths⟩ := c.r.d.def_ 3 (d := d_Roll_worths) rfl
  obtain ⟨fd_Roll_len, F_Roll_len⟩ := c.r.d.def_ 4 (d := d_Roll_len) rfl
  obtain ⟨fd_Roll_worth, F_Roll_worth⟩ := c.r.d.def_ 5 (d := d_Roll_worth) rfl
  obtain ⟨fd_Roll_upto, F_Roll_upto⟩ := c.r.d.def_ 6 (d := d_Roll_upto) rfl
  obtain ⟨fd_Roll_total, F_Roll_total⟩ := c.r.d.def_ 7 (d := d_Roll_total) rfl
  obtain ⟨fd_Roll_torn, F_Roll_torn⟩ := c.r.d.def_ 8 (d := d_Roll_torn) rfl
  obtain ⟨fd_Roll_mirrored, F_Roll_mirrored⟩ := c.r.d.def_ 9 (d := d_Roll_mirrored) rfl
  obtain ⟨fd_Roll_eq, F_Roll_eq⟩ := c.r.d.def_ 10 (d := d_Roll_eq) rfl
  obtain ⟨fd_l_mixed, F_l_mixed⟩ := c.r.d.def_ 11 (d := d_l_mixed) rfl
  obtain ⟨fd_l_purse, F_l_purse⟩ := c.r.d.def_ 12 (d := d_l_purse) rfl
  obtain ⟨fd_l_draw, F_l_draw⟩ := c.r.d.def_ 13 (d := d_l_draw) rfl
  obtain ⟨fd_l_worths_drawn, F_l_worths_drawn⟩ := c.r.d.def_ 14 (d := d_l_worths_drawn) rfl
  obtain ⟨fd_l_sum, F_l_sum⟩ := c.r.d.def_ 15 (d := d_l_sum) rfl
  obtain ⟨fd_l_caught, F_l_caught⟩ := c.r.d.def_ 16 (d := d_l_caught) rfl
  obtain ⟨fd_l_refused, F_l_refused⟩ := c.r.d.def_ 17 (d := d_l_refused) rfl
  obtain ⟨fd_law, F_law⟩ := c.r.d.def_ 18 (d := d_law) rfl
  exact ⟨{
    g_is_whole := He.glo_ok X G (c.r.d.fact 0 (f := .glo "is_whole") rfl),
    g_check_number := He.glo_ok X G (c.r.d.fact 1 (f := .glo "check_number") rfl),
    g_l_mixed := He.glo_ok X G (c.r.d.fact 2 (f := .glo "_law_mixed") rfl),
    g_l_purse := He.glo_ok X G (c.r.d.fact 3 (f := .glo "_law_purse") rfl),
    g_l_draw := He.glo_ok X G (c.r.d.fact 4 (f := .glo "_law_draw") rfl),
    g_l_worths_drawn := He.glo_ok X G (c.r.d.fact 5 (f := .glo "_law_worths_drawn") rfl),
    g_l_sum := He.glo_ok X G (c.r.d.fact 6 (f := .glo "_law_sum") rfl),
    g_l_caught := He.glo_ok X G (c.r.d.fact 7 (f := .glo "_law_caught") rfl),
    g_l_refused := He.glo_ok X G (c.r.d.fact 8 (f := .glo "_law_refused") rfl),
    g_law := He.glo_ok X G (c.r.d.fact 9 (f := .glo "law") rfl),
    g_ClerkError := He.glo_ok X G (c.r.d.fact 10 (f := .glo "ClerkError") rfl),
    g_InvalidNumber := He.glo_ok X G (c.r.d.fact 11 (f := .glo "InvalidNumber") rfl),
    g_InvalidList := He.glo_ok X G (c.r.d.fact 12 (f := .glo "InvalidList") rfl),
    g_InvalidWorth := He.glo_ok X G (c.r.d.fact 13 (f := .glo "InvalidWorth") rfl),
    g_Roll := He.glo_ok X G (c.r.d.fact 14 (f := .glo "Roll") rfl),
    fr_bool := He.free_ok X G (c.r.d.fact 15 (f := .free "bool") rfl),
    fr_int := He.free_ok X G (c.r.d.fact 16 (f := .free "int") rfl),
    fr_isinstance := He.free_ok X G (c.r.d.fact 17 (f := .free "isinstance") rfl),
    fr_len := He.free_ok X G (c.r.d.fact 18 (f := .free "len") rfl),
    fr_list := He.free_ok X G (c.r.d.fact 19 (f := .free "list") rfl),
    fr_max := He.free_ok X G (c.r.d.fact 20 (f := .free "max") rfl),
    fr_min := He.free_ok X G (c.r.d.fact 21 (f := .free "min") rfl),
    fr_range := He.free_ok X G (c.r.d.fact 22 (f := .free "range") rfl),
    fr_repr := He.free_ok X G (c.r.d.fact 23 (f := .free "repr") rfl),
    fr_sum := He.free_ok X G (c.r.d.fact 24 (f := .free "sum") rfl),
    fr_tuple := He.free_ok X G (c.r.d.fact 25 (f := .free "tuple") rfl),
    cl_Roll := He.cls_ok (c.r.d.fact 26 (f := .cls "Roll") rfl),
    mk_Roll := He.mkr_ok (c.r.d.fact 27 (f := .mkr "Roll") rfl),
    m_Roll_init := He.meth_ok (c.r.d.fact 28 (f := .meth "Roll" "__init__") rfl),
    m_Roll_worths := He.meth_ok (c.r.d.fact 29 (f := .meth "Roll" "worths") rfl),
    m_Roll_len := He.meth_ok (c.r.d.fact 30 (f := .meth "Roll" "__len__") rfl),
    m_Roll_worth := He.meth_ok (c.r.d.fact 31 (f := .meth "Roll" "worth") rfl),
    m_Roll_upto := He.meth_ok (c.r.d.fact 32 (f := .meth "Roll" "upto") rfl),
    m_Roll_total := He.meth_ok (c.r.d.fact 33 (f := .meth "Roll" "total") rfl),
    m_Roll_torn := He.meth_ok (c.r.d.fact 34 (f := .meth "Roll" "torn") rfl),
    m_Roll_mirrored := He.meth_ok (c.r.d.fact 35 (f := .meth "Roll" "mirrored") rfl),
    m_Roll_eq := He.meth_ok (c.r.d.fact 36 (f := .meth "Roll" "__eq__") rfl),
    na_Roll_row := He.noat_ok (c.r.d.fact 37 (f := .noat "Roll" "row") rfl),
    na_Roll_firsts := He.noat_ok (c.r.d.fact 38 (f := .noat "Roll" "firsts") rfl),
    fr_super := He.free_ok X G (c.r.d.fact 39 (f := .free "super") rfl),
    x_Roll := c.r.cls 0 (x := "Roll") rfl,
    k_int_Roll := c.r.kit 0 (q := ⟨.ty "int", .own "Roll", false⟩) rfl,
    n_Roll_int := c.r.nf 0 (q := ⟨"Roll", .ty "int"⟩) rfl,
    k_Roll_int := c.r.kit 1 (q := ⟨.own "Roll", .ty "int", false⟩) rfl,
    k_bool_Roll := c.r.kit 2 (q := ⟨.ty "bool", .own "Roll", false⟩) rfl,
    n_Roll_bool := c.r.nf 1 (q := ⟨"Roll", .ty "bool"⟩) rfl,
    k_Roll_bool := c.r.kit 3 (q := ⟨.own "Roll", .ty "bool", false⟩) rfl,
    k_str_Roll := c.r.kit 4 (q := ⟨.ty "str", .own "Roll", false⟩) rfl,
    n_Roll_str := c.r.nf 2 (q := ⟨"Roll", .ty "str"⟩) rfl,
    k_Roll_str := c.r.kit 5 (q := ⟨.own "Roll", .ty "str", false⟩) rfl,
    k_NoneType_Roll := c.r.kit 6 (q := ⟨.ty "NoneType", .own "Roll", false⟩) rfl,
    n_Roll_NoneType := c.r.nf 3 (q := ⟨"Roll", .ty "NoneType"⟩) rfl,
    k_list_Roll := c.r.kit 7 (q := ⟨.ty "list", .own "Roll", false⟩) rfl,
    n_Roll_list := c.r.nf 4 (q := ⟨"Roll", .ty "list"⟩) rfl,
    k_Roll_list := c.r.kit 8 (q := ⟨.own "Roll", .ty "list", false⟩) rfl,
    k_tuple_Roll := c.r.kit 9 (q := ⟨.ty "tuple", .own "Roll", false⟩) rfl,
    n_Roll_tuple := c.r.nf 5 (q := ⟨"Roll", .ty "tuple"⟩) rfl,
    k_Roll_tuple := c.r.kit 10 (q := ⟨.own "Roll", .ty "tuple", false⟩) rfl,
    k_dict_Roll := c.r.kit 11 (q := ⟨.ty "dict", .own "Roll", false⟩) rfl,
    n_Roll_dict := c.r.nf 6 (q := ⟨"Roll", .ty "dict"⟩) rfl,
    k_Roll_dict := c.r.kit 12 (q := ⟨.own "Roll", .ty "dict", false⟩) rfl,
    k_Roll_Roll := c.r.kit 13 (q := ⟨.own "Roll", .own "Roll", true⟩) rfl,
    n_Roll_Roll := c.r.nf 7 (q := ⟨"Roll", .own "Roll"⟩) rfl,
    e_InvalidNumber := err_of (e := e_InvalidNumberD) (file := PR.main.file) (He.free_ok X G (c.r.d.fact 39 (f := .free "super") rfl)) (by decide +kernel) rfl ⟨_, _, _, rfl⟩ ⟨_, _, _, _, _, _, _, _, _, _, rfl, rfl⟩ rfl (c.err 0 (e := e_InvalidNumberD) rfl).1 (c.err 0 (e := e_InvalidNumberD) rfl).2,
    es_InvalidNumber := sub_self (c.err 0 (e := e_InvalidNumberD) rfl).2,
    e_InvalidList := err_of (e := e_InvalidListD) (file := PR.main.file) (He.free_ok X G (c.r.d.fact 39 (f := .free "super") rfl)) (by decide +kernel) rfl ⟨_, _, _, rfl⟩ ⟨_, _, _, _, _, _, _, _, _, _, rfl, rfl⟩ rfl (c.err 1 (e := e_InvalidListD) rfl).1 (c.err 1 (e := e_InvalidListD) rfl).2,
    es_InvalidList := sub_self (c.err 1 (e := e_InvalidListD) rfl).2,
    e_InvalidWorth := err_of (e := e_InvalidWorthD) (file := PR.main.file) (He.free_ok X G (c.r.d.fact 39 (f := .free "super") rfl)) (by decide +kernel) rfl ⟨_, _, _, rfl⟩ ⟨_, _, _, _, _, _, _, _, _, _, rfl, rfl⟩ rfl (c.err 2 (e := e_InvalidWorthD) rfl).1 (c.err 2 (e := e_InvalidWorthD) rfl).2,
    es_InvalidWorth := sub_self (c.err 2 (e := e_InvalidWorthD) rfl).2,
    fd_is_whole := fd_is_whole,
    F_is_whole := F_is_whole,
    fd_check_number := fd_check_number,
    F_check_number := F_check_number,
    fd_Roll_init := fd_Roll_init,
    F_Roll_init := F_Roll_init,
    fd_Roll_worths := fd_Roll_worths,
    F_Roll_worths := F_Roll_worths,
    fd_Roll_len := fd_Roll_len,
    F_Roll_len := F_Roll_len,
    fd_Roll_worth := fd_Roll_worth,
    F_Roll_worth := F_Roll_worth,
    fd_Roll_upto := fd_Roll_upto,
    F_Roll_upto := F_Roll_upto,
    fd_Roll_total := fd_Roll_total,
    F_Roll_total := F_Roll_total,
    fd_Roll_torn := fd_Roll_torn,
    F_Roll_torn := F_Roll_torn,
    fd_Roll_mirrored := fd_Roll_mirrored,
    F_Roll_mirrored := F_Roll_mirrored,
    fd_Roll_eq := fd_Roll_eq,
    F_Roll_eq := F_Roll_eq,
    fd_l_mixed := fd_l_mixed,
    F_l_mixed := F_l_mixed,
    fd_l_purse := fd_l_purse,
    F_l_purse := F_l_purse,
    fd_l_draw := fd_l_draw,
    F_l_draw := F_l_draw,
    fd_l_worths_drawn := fd_l_worths_drawn,
    F_l_worths_drawn := F_l_worths_drawn,
    fd_l_sum := fd_l_sum,
    F_l_sum := F_l_sum,
    fd_l_caught := fd_l_caught,
    F_l_caught := F_l_caught,
    fd_l_refused := fd_l_refused,
    F_l_refused := F_l_refused,
    fd_law := fd_law,
    F_law := F_law }⟩
/-! ## Rolls: what an object looks like, what each method promises -/
/-! ### the mathematics -/
/-- the sum of the first i worths -/
def pre (ws : List Int) (i : Nat) : Int := (ws.take i).sum
/-- what __init__ stores as firsts -/
def firsts (ws : List Int) : List Int := (List.range (ws.length + 1)).map (pre ws)
theorem firsts_len (ws : List Int) : (firsts ws).length = ws.length + 1 := by simp [firsts]
theorem firsts_at {ws : List Int} {i : Nat} (h : i ≤ ws.length) : (firsts ws)[i]? = some (pre ws i) := by
  unfold firsts
  rw [List.getElem?_map, List.getElem?_range (by omega)]
  rfl
theorem firsts_last (ws : List Int) : (firsts ws).getLast? = some ws.sum := by
  rw [List.getLast?_eq_getElem?, firsts_len, Nat.add_sub_cancel, firsts_at (Nat.le_refl _)]
  show some ((ws.take ws.length).sum) = _
  rw [List.take_length]
/-- the sum of the first n stamps of the roll -/
def upto (ws : List Int) (n : Nat) : Int := ((n / ws.length : Nat) : Int) * ws.sum + pre ws (n % ws.length)
/-- the row torn at n -/
def tornL (ws : List Int) (n : Nat) : List Int := ws.drop (n % ws.length) ++ ws.take (n % ws.length)
theorem tornL_len (ws : List Int) (n : Nat) : (tornL ws n).length = ws.length := by
  unfold tornL
  rw [List.length_append, List.length_drop, List.length_take]
  omega
/-- a row that a roll may be made of -/
structure Row (ws : List Int) : Prop where
  ne : ws ≠ []
  pos : ∀ z ∈ ws, 1 ≤ z
  big : ∀ z ∈ ws, z < 2 ^ 200
  len : ws.length ≤ 1000
theorem Row.n0 {ws : List Int} (r : Row ws) : 0 < ws.length := List.length_pos_iff.mpr r.ne
theorem Row.torn {ws : List Int} (r : Row ws) (n : Nat) : Row (tornL ws n) where
  ne := fun e => by
    have := tornL_len ws n
    rw [e] at this
    have := r.n0
    simp at *
    omega
  pos := fun z h => by
    unfold tornL at h
    rcases List.mem_append.mp h with h | h
    · exact r.pos z (List.mem_of_mem_drop h)
    · exact r.pos z (List.mem_of_mem_take h)
  big := fun z h => by
    unfold tornL at h
    rcases List.mem_append.mp h with h | h
    · exact r.big z (List.mem_of_mem_drop h)
    · exact r.big z (List.mem_of_mem_take h)
  len := by rw [tornL_len]; exact r.len
theorem Row.rev {ws : List Int} (r : Row ws) : Row ws.reverse where
  ne := fun e => r.ne (List.reverse_eq_nil_iff.mp e)
  pos := fun z h => r.pos z (List.mem_reverse.mp h)
  big := fun z h => r.big z (List.mem_reverse.mp h)
  len := by rw [List.length_reverse]; exact r.len
theorem sum_lt {b : Int} : ∀ ws : List Int, (∀ z ∈ ws, 1 ≤ z) → (∀ z ∈ ws, z < b) → 0 ≤ ws.sum ∧ ws.sum ≤ ws.length * b
  | [], _, _ => by simp
  | z :: r, h1, h2 => by
    have ⟨a, c⟩ := sum_lt r (fun y hy => h1 y (List.mem_cons_of_mem _ hy)) fun y hy => h2 y (List.mem_cons_of_mem _ hy)
    have e1 := h1 z List.mem_cons_self
    have e2 := h2 z List.mem_cons_self
    rw [List.sum_cons, List.length_cons, Int.natCast_add, Int.add_mul]
    constructor
    · omega
    · show z + r.sum ≤ (r.length : Int) * b + ((1 : Nat) : Int) * b
      omega
theorem Row.sum0 {ws : List Int} (r : Row ws) : 1 ≤ ws.sum := by
  obtain ⟨ne, pos, _, _⟩ := r
  cases ws with
  | nil => exact absurd rfl ne
  | cons z t =>
    have := (sum_lt (b := 1 + (z :: t).foldl max 0) t (fun y hy => pos y (List.mem_cons_of_mem _ hy)))
    rw [List.sum_cons]
    have e1 := pos z List.mem_cons_self
    have e2 : 0 ≤ t.sum := by
      clear this
      have : ∀ l : List Int, (∀ y ∈ l, 1 ≤ y) → 0 ≤ l.sum := by
        intro l
        induction l with
        | nil => intro _; simp
        | cons a l ih =>
          intro h
          rw [List.sum_cons]
          have := h a List.mem_cons_self
          have := ih fun y hy => h y (List.mem_cons_of_mem _ hy)
          omega
      exact this t fun y hy => pos y (List.mem_cons_of_mem _ hy)
    omega
theorem Row.sumB {ws : List Int} (r : Row ws) : ws.sum < 2 ^ 210 := by
  have h := (sum_lt (b := 2 ^ 200) ws r.pos r.big).2
  have l := r.len
  have : (ws.length : Int) * 2 ^ 200 ≤ 1000 * 2 ^ 200 := Int.mul_le_mul_of_nonneg_right (by omega) (by decide)
  have e : (1000 : Int) * 2 ^ 200 < 2 ^ 210 := by decide
  omega
/-! ### a Roll at p -/
def rf (r f : Addr) : List (Str × V) := [("row", .ref r), ("firsts", .ref f)]
structure RollAt (K : PySem.W.Frag) (H : Hp) (p : Addr) (ws : List Int) : Prop where
  row : Row ws
  ob : ∃ dx r f, H p = some (.ins (ga K "Roll") dx (rf r f)) ∧ SqT K H r (iv ws) ∧ SqT K H f (iv (firsts ws))
theorem Same.roll {K : PySem.W.Frag} {H H' : Hp} {p : Addr} {ws : List Int} (e : Same H H') (h : RollAt K H p ws) : RollAt K H' p ws := by
  obtain ⟨r, dx, a, b, h1, h2, h3⟩ := h
  exact ⟨r, dx, a, b, e _ _ h1, Same.tup e h2, Same.tup e h3⟩
theorem rf_row (r f : Addr) : (rf r f).lookup ("row" : Str) = some (.ref r) := by
  have e : (("row" : Str) == "row") = true := by decide +kernel
  simp [rf, List.lookup, e]
theorem rf_firsts (r f : Addr) : (rf r f).lookup ("firsts" : Str) = some (.ref f) := by
  have e : (("firsts" : Str) == "row") = false := by decide +kernel
  have e2 : (("firsts" : Str) == "firsts") = true := by decide +kernel
  simp [rf, List.lookup, e, e2]
theorem rf_no (r f : Addr) {m : Str} (h1 : (m == ("row" : Str)) = false) (h2 : (m == ("firsts" : Str)) = false) : (rf r f).lookup m = none := by
  simp [rf, List.lookup, h1, h2]
theorem rf_made (r f : Addr) : putF "firsts" (.ref f) (putF "row" (.ref r) []) = rf r f := by
  show (if ("row" : Str) = "firsts" then _ else (("row" : Str), V.ref r) :: putF "firsts" (.ref f) []) = _
  rw [if_neg (by decide +kernel)]
  rfl
section
variable {P : Program} {w : World} {K : PySem.W.Frag} {mg : Str → Option Value} {base : Heap} {H : Hp} {Q : VK}
/-- roll.row, roll.firsts -/
theorem r_row (T : Txt K mg) {p : Addr} {ws : List Int} (R : RollAt K H p ws) (h : ∀ r, SqT K H r (iv ws) → Q (.ref r) H) : FldV K "row" (.ref p) H Q := by
  obtain ⟨_, dx, r, f, h1, h2, _⟩ := R
  exact ⟨p, _, dx, _, _, rfl, h1, T.cl_Roll, T.na_Roll_row, rf_row r f, h r h2⟩
theorem r_firsts (T : Txt K mg) {p : Addr} {ws : List Int} (R : RollAt K H p ws) (h : ∀ f, SqT K H f (iv (firsts ws)) → Q (.ref f) H) : FldV K "firsts" (.ref p) H Q := by
  obtain ⟨_, dx, r, f, h1, _, h3⟩ := R
  exact ⟨p, _, dx, _, _, rfl, h1, T.cl_Roll, T.na_Roll_firsts, rf_firsts r f, h f h3⟩
/-- roll.m(..) -/
theorem r_rollm {p : Addr} {ws : List Int} {m : Str} {sp : Sp} {t : (List V → Hp → Prop) → Hp → Prop} {dvs : List V} {E : XK} (R : RollAt K H p ws) (h1 : (m == ("row" : Str)) = false) (h2 : (m == ("firsts" : Str)) = false)
    (h : t (fun vs H2 => sp (.ref p :: (vs ++ dvs)) H2 Q E) H) : MethV (ga K "Roll") m sp (.ref p) t dvs H Q E := by
  obtain ⟨_, dx, r, f, e, _, _⟩ := R
  exact ⟨p, dx, _, rfl, e, rf_no r f h1 h2, h⟩
/-! ### the promises -/
def spIsWhole (_ : PySem.W.Frag) : Sp := fun vs H Q _ => ∃ n : Int, vs = [.int n] ∧ Q (.bl true) H
def spCheckNumber (_ : PySem.W.Frag) : Sp := fun vs H Q _ => ∃ n l : Int, vs = [.int n, .int l] ∧ l ≤ n ∧ Q .non H
def spRollInit (K : PySem.W.Frag) : Sp := fun vs H Q _ => ∃ (p a dx : Addr) (ws : List Int), vs = [.ref p, .ref a] ∧ H p = some (.ins (ga K "Roll") dx []) ∧ SqL K H a (iv ws) ∧ Row ws ∧
  ∀ H', (∀ b o, b ≠ p → H b = some o → H' b = some o) → RollAt K H' p ws → Q .non H'
def spWorths (K : PySem.W.Frag) : Sp := fun vs H Q _ => ∃ (p : Addr) (ws : List Int), vs = [.ref p] ∧ RollAt K H p ws ∧ ∀ l H', H l = none → Same H H' → H' l = some (.lst (iv ws)) → Q (.ref l) H'
def spLen (K : PySem.W.Frag) : Sp := fun vs H Q _ => ∃ (p : Addr) (ws : List Int), vs = [.ref p] ∧ RollAt K H p ws ∧ Q (.int ws.length) H
def spLap (K : PySem.W.Frag) : Sp := fun vs H Q _ => ∃ (p : Addr) (ws : List Int), vs = [.ref p] ∧ RollAt K H p ws ∧ Q (.int ws.sum) H
def spWorth (K : PySem.W.Frag) : Sp := fun vs H Q _ => ∃ (p : Addr) (ws : List Int) (n : Nat), vs = [.ref p, .int n] ∧ RollAt K H p ws ∧ ∀ z, ws[n % ws.length]? = some z → Q (.int z) H
def spUpto (K : PySem.W.Frag) : Sp := fun vs H Q _ => ∃ (p : Addr) (ws : List Int) (n : Nat), vs = [.ref p, .int n] ∧ RollAt K H p ws ∧ n < 2 ^ 200 ∧ Q (.int (upto ws n)) H
def spTotal (K : PySem.W.Frag) : Sp := fun vs H Q _ => ∃ (p : Addr) (ws : List Int) (n m : Nat), vs = [.ref p, .int n, .int m] ∧ RollAt K H p ws ∧ n + m < 2 ^ 200 ∧ Q (.int (upto ws (n + m) - upto ws n)) H
def spTorn (K : PySem.W.Frag) : Sp := fun vs H Q _ => ∃ (p : Addr) (ws : List Int) (n : Nat), vs = [.ref p, .int n] ∧ RollAt K H p ws ∧ ∀ q H', H q = none → Same H H' → RollAt K H' q (tornL ws n) → Q (.ref q) H'
def spMirrored (K : PySem.W.Frag) : Sp := fun vs H Q _ => ∃ (p : Addr) (ws : List Int), vs = [.ref p] ∧ RollAt K H p ws ∧ ∀ q H', H q = none → Same H H' → RollAt K H' q ws.reverse → Q (.ref q) H'
def spRollEq (K : PySem.W.Frag) : Sp := fun vs H Q _ => ∃ (p q : Addr) (ws zs : List Int), vs = [.ref p, .ref q] ∧ RollAt K H p ws ∧ RollAt K H q zs ∧ Q (.bl (decide (ws = zs))) H
def spCheckRoll (K : PySem.W.Frag) : Sp := fun vs H Q _ => ∃ (p : Addr) (ws : List Int), vs = [.ref p] ∧ RollAt K H p ws ∧ Q .non H
theorem roll_ty (T : Txt K mg) {p : Addr} {ws : List Int} (R : RollAt K H p ws) : TyX K H (.ref p) (.ref (ga K "Roll")) := by
  obtain ⟨_, dx, r, f, e, _, _⟩ := R
  exact .base (.ins e T.cl_Roll T.x_Roll.ha T.x_Roll.hn T.x_Roll.htk T.x_Roll.hm)
theorem ok_is_whole (T : Txt K mg) : FnOk P w K mg base CX0 1 (He.fAd K ("is_whole", none)) T.fd_is_whole ["value"] (spIsWhole K) := by
  refine T.F_is_whole.ok sc_is_whole (fun vs H Q E h => ?_) (fun cdv A outer s H vs Q E hr h => ⟨_, PSs.nox ((pss_one (ps_ret (pe_and (pe_callB call_isi rfl T.fr_isinstance (by decide +kernel) (pa_cons (pv 0) (pa_cons (pe_bltn (v := .ty "int") rfl T.fr_int (by decide +kernel) rfl) pa_nil))) (pe_one (pe_not (pe_callB call_isi rfl T.fr_isinstance (by decide +kernel) (pa_cons (pv 0) (pa_cons (pe_bltn (v := .ty "bool") rfl T.fr_bool (by decide +kernel) rfl) pa_nil))))))))), ?_⟩)
  · obtain ⟨_, rfl, _⟩ := h
    rfl
  · try dsimp only [L2.cxOf, L2.Cx.nox, L2.Cx.wish]
    obtain ⟨n, rfl, h⟩ := h
    walk_at "go"
    refine r_isi (.ty _) (.base (.int n)) (kit_ty (b := "int") (r := true) (by decide +kernel)) ?_
    walk_at "go"
    refine r_isi (.ty _) (.base (.int n)) (kit_ty (b := "bool") (r := false) (by decide +kernel)) ?_
    walk_at "go"
    exact h
theorem ok_check_number (T : Txt K mg) : FnOk P w K mg base CX0 2 (He.fAd K ("check_number", none)) T.fd_check_number ["value", "least"] (spCheckNumber K) := by
  refine T.F_check_number.ok sc_check_number (fun vs H Q E h => ?_) (fun cdv A outer s H vs Q E hr h => ⟨_, PSs.nox ((pss_one (ps_if (PW.pt (pw_or (pt_not (pt_val (pe_call (ok_is_whole T) (hr.mono (by decide)) rfl T.g_is_whole T.F_is_whole.kp (b_is_whole T) .nil pass0 (pa_cons (pv 0) pa_nil)))) (pw_or1 (pt_cmpR op_lt (pv 0) (pv 1) (nomark _))))) (pss_one ps_never) pss_nil))), ?_⟩)
  · obtain ⟨_, _, rfl, _⟩ := h
    rfl
  · try dsimp only [L2.cxOf, L2.Cx.nox, L2.Cx.wish]
    obtain ⟨n, l, rfl, hl, h⟩ := h
    walk_at "go"
    refine ⟨n, rfl, ?_⟩
    walk_at "go"
    refine if_f (decide_eq_false (by omega)) ?_
    walk_at "go"
    exact h
theorem pre_next {ws : List Int} {i : Nat} {z : Int} (h : ws[i]? = some z) : pre ws (i + 1) = pre ws i + z := sum_take h
theorem init_list {ws : List Int} {i : Nat} {z : Int} (h : ws[i]? = some z) : iv ((List.range (i + 1)).map (pre ws)) ++ [.int (pre ws i + z)] = iv ((List.range (i + 1 + 1)).map (pre ws)) := by
  rw [List.range_succ (n := i + 1), List.map_append]
  show _ = List.map V.int (List.map (pre ws) (List.range (i + 1)) ++ [pre ws (i + 1)])
  rw [List.map_append, pre_next h]
  rfl
theorem iv_at {ns : List Int} {i : Nat} {x : V} (h : (iv ns)[i]? = some x) : ∃ z, ns[i]? = some z ∧ x = .int z := by
  rw [List.getElem?_map] at h
  cases e : ns[i]? with
  | none => rw [e] at h; cases h
  | some z => rw [e] at h; exact ⟨z, rfl, (Option.some.inj h).symm⟩
theorem ok_Roll_init (T : Txt K mg) : FnOk P w K mg base CX0 2 (He.fAd K ("Roll", some "__init__")) T.fd_Roll_init ["self", "worths"] (spRollInit K) := by
  refine T.F_Roll_init.ok sc_Roll_init (fun vs H Q E h => ?_) (fun cdv A outer s H vs Q E hr h => ⟨_, PSs.nox ((pss_cons (ps_if (PW.pt (pw_or (pt_not (pt_val (pe_callB call_isi rfl T.fr_isinstance (by decide +kernel) (pa_cons (pv 1) (pa_cons (pe_bltn (v := .ty "list") rfl T.fr_list (by decide +kernel) rfl) pa_nil))))) (pw_or1 (pt_cmpR (op_eqD hr.units) (pv 1) (pe_lst pa_nil) (nomark _))))) (pss_one ps_never) pss_nil)
      (pss_cons (ps_for PassesOwn.never rfl (pi_list (pv 1)) (pg_name (i := 2) sc_Roll_init.nd rfl (by first | exact .inl rfl | exact .inr rfl))
      (pss_one (ps_if (PW.pt (pw_or (pt_not (pt_val (pe_call (ok_is_whole T) (hr.mono (by decide)) rfl T.g_is_whole T.F_is_whole.kp (b_is_whole T) .nil pass0 (pa_cons (pv 2) pa_nil)))) (pw_or1 (pt_cmpR op_lt (pv 2) pe_int (nomark _))))) (pss_one ps_never) pss_nil)))
      (pss_cons (ps_fld (pv 0) (pe_callTy RC.call_tupS rfl T.fr_tuple (by decide +kernel) (pa_cons (pv 1) pa_nil)) rfl)
      (pss_cons (ps_set (i := 3) sc_Roll_init.nd rfl (by first | exact .inl rfl | exact .inr rfl) (pe_lst (pa_cons pe_int pa_nil)))
      (pss_cons (ps_for PassesOwn.never rfl (pi_list (pv 1)) (pg_name (i := 2) sc_Roll_init.nd rfl (by first | exact .inl rfl | exact .inr rfl))
      (pss_one (ps_expr (pe_bm PySem.F.plainAttrs_list PySem.F.slot_list_append PySem.F.type_list_append mt_append (pv 3) (pa_cons (pe_op op_add (pe_ix ix_list (pv 3) (pe_un un_neg pe_int) (fun _ _ => rfl)) (pv 2)) pa_nil)))))
      (pss_one (ps_fld (pv 0) (pe_callTy RC.call_tupS rfl T.fr_tuple (by decide +kernel) (pa_cons (pv 3) pa_nil)) rfl)))))))), ?_⟩)
  · obtain ⟨_, _, _, _, rfl, _⟩ := h
    rfl
  · try dsimp only [L2.cxOf, L2.Cx.nox, L2.Cx.wish]
    obtain ⟨p, a, dx, ws, rfl, hp, hx, R, k⟩ := h
    walk_at "go"
    refine r_isi (.ty _) (ty_list hx) (kit_ty (b := "list") (r := true) (by decide +kernel)) ?_
    walk_at "go"
    refine r_mk (by decide) fun e H1 ne s1 he => ?_
    have hx1 := Same.lst s1 hx
    refine r_eqI (ns := ws) (ms := []) hx1 (sq_of he) ?_
    rw [decide_eq_false R.ne]
    walk_at "go"
    refine r_ilist' hx1 (for_list (K := K) (a := a) (xs := iv ws) (fun i σ H' => ∃ v2, σ = [some (.ref p), some (.ref a), v2, none] ∧ H' = H1) ⟨none, rfl, rfl⟩ (fun i σ H' _ ⟨_, _, e⟩ => by rw [e]; exact hx1) ?_ ?_)
    · rintro i x σ H' hi ⟨v2, rfl, rfl⟩
      obtain ⟨z, hz, rfl⟩ := iv_at hi
      have z1 := R.pos z (List.mem_of_getElem? hz)
      walk_at "go"
      refine ⟨z, rfl, ?_⟩
      walk_at "go"
      refine if_f (decide_eq_false (by omega)) ?_
      walk_at "go"
      exact ⟨some (.int z), rfl, rfl⟩
    rintro σ H' ⟨v2, rfl, rfl⟩
    -- self.row = tuple(worths)
    walk_at "go"
    refine r_tupL hx1 fun r H2 nr s2 er => ?_
    have hp2 := s2 _ _ (s1 _ _ hp)
    walk_at "go"
    refine r_sfldV hp2 T.cl_Roll T.na_Roll_row (by decide) fun H3 b3 hp3 => ?_
    have hx3 : SqL K H3 a (iv ws) := b3.lst hp2 rfl (Same.lst s2 hx1)
    have er3 : SqT K H3 r (iv ws) := b3.tup hp2 rfl (st_of er)
    -- firsts = [0]
    walk_at "go"
    refine r_mk (by decide) fun f H4 nf s4 ef => ?_
    walk_at "go"
    have hx4 := Same.lst s4 hx3
    refine r_ilist' hx4 (for_list (K := K) (a := a) (xs := iv ws) (fun i σ H' => ∃ v2, σ = [some (.ref p), some (.ref a), v2, some (.ref f)] ∧ Same H3 H' ∧ H' f = some (.lst (iv ((List.range (i + 1)).map (pre ws))))) ⟨_, rfl, s4, ef⟩ (fun i σ H' _ ⟨_, _, e, _⟩ => Same.lst e hx3) ?_ ?_)
    · rintro i x σ H' hi ⟨v2, rfl, s5, e5⟩
      obtain ⟨z, hz, rfl⟩ := iv_at hi
      have hil : i < ws.length := (List.getElem?_eq_some_iff.mp hz).1
      have hl := R.len
      walk_at "go"
      refine ⟨ty_l e5, ?_⟩
      walk_at "go"
      refine r_ixl (v := .int (pre ws i)) (sq_of e5) (at_ints_last ?_) ?_
      · rw [List.getLast?_eq_getElem?, List.length_map, List.length_range, Nat.add_sub_cancel, List.getElem?_map, List.getElem?_range (by omega)]
        rfl
      walk_at "go"
      refine r_app e5 ?_ fun H6 b6 e6 => ?_
      · rw [List.length_map, List.length_map, List.length_range]
        exact small1000 (by omega)
      walk_at "go"
      exact ⟨_, rfl, But.same s5 nf b6, by rw [e6, init_list hz]⟩
    rintro σ H5 ⟨v2, rfl, s5, e5⟩
    rw [List.length_map] at e5
    -- self.firsts = tuple(firsts)
    walk_at "go"
    refine r_tupL (sq_of e5) fun g H6 ng s6 eg => ?_
    have hp6 := s6 _ _ (s5 _ _ hp3)
    walk_at "go"
    refine r_sfldV hp6 T.cl_Roll T.na_Roll_firsts (by show 1 < 1000; decide) fun H7 b7 hp7 => ?_
    refine k H7 ?_ ⟨R, dx, r, g, ?_, ?_, ?_⟩
    · exact ((But.of (s1.trans s2)).trans b3).trans ((But.of (s5.trans s6)).trans b7)
    · rw [hp7, rf_made]
    · exact b7.tup hp6 rfl (Same.tup s6 (Same.tup s5 er3))
    · exact b7.tup hp6 rfl (st_of eg)
theorem ok_Roll_worths (T : Txt K mg) : FnOk P w K mg base CX0 1 (He.fAd K ("Roll", some "worths")) T.fd_Roll_worths ["self"] (spWorths K) := by
  refine T.F_Roll_worths.ok sc_Roll_worths (fun vs H Q E h => ?_) (fun cdv A outer s H vs Q E hr h => ⟨_, PSs.nox ((pss_one (ps_ret (pe_callTy RC.call_listS rfl T.fr_list (by decide +kernel) (pa_cons (pe_fld (pv 0) rfl) pa_nil))))), ?_⟩)
  · obtain ⟨_, _, rfl, _⟩ := h
    rfl
  · try dsimp only [L2.cxOf, L2.Cx.nox, L2.Cx.wish]
    obtain ⟨p, ws, rfl, R, k⟩ := h
    walk_at "go"
    refine r_row T R fun r er => ?_
    walk_at "go"
    exact r_list (.inr er) fun l H1 nl s1 el => k l H1 nl s1 el
theorem ok_Roll_len (T : Txt K mg) : FnOk P w K mg base CX0 1 (He.fAd K ("Roll", some "__len__")) T.fd_Roll_len ["self"] (spLen K) := by
  refine T.F_Roll_len.ok sc_Roll_len (fun vs H Q E h => ?_) (fun cdv A outer s H vs Q E hr h => ⟨_, PSs.nox ((pss_one (ps_ret (pe_callB RC.call_lenS rfl T.fr_len (by decide +kernel) (pa_cons (pe_fld (pv 0) rfl) pa_nil))))), ?_⟩)
  · obtain ⟨_, _, rfl, _⟩ := h
    rfl
  · try dsimp only [L2.cxOf, L2.Cx.nox, L2.Cx.wish]
    obtain ⟨p, ws, rfl, R, k⟩ := h
    walk_at "go"
    refine r_row T R fun r er => ?_
    walk_at "go"
    exact r_len (.inr er) (by rw [List.length_map]) k
-- Roll.lap: not in this law's text
theorem ok_Roll_worth (T : Txt K mg) : FnOk P w K mg base CX0 3 (He.fAd K ("Roll", some "worth")) T.fd_Roll_worth ["self", "at"] (spWorth K) := by
  refine T.F_Roll_worth.ok sc_Roll_worth (fun vs H Q E h => ?_) (fun cdv A outer s H vs Q E hr h => ⟨_, PSs.nox ((pss_cons (ps_expr (pe_call (ok_check_number T) (hr.mono (by decide)) rfl T.g_check_number T.F_check_number.kp (b_check_number T) .nil pass0 (pa_cons (pv 1) (pa_cons pe_int pa_nil))))
      (pss_one (ps_ret (pe_ix ix_tup (pe_fld (pv 0) rfl) (pe_op op_mod (pv 1) (pe_callB RC.call_lenS rfl T.fr_len (by decide +kernel) (pa_cons (pe_fld (pv 0) rfl) pa_nil))) (fun _ _ => rfl)))))), ?_⟩)
  · obtain ⟨_, _, _, rfl, _⟩ := h
    rfl
  · try dsimp only [L2.cxOf, L2.Cx.nox, L2.Cx.wish]
    obtain ⟨p, ws, n, rfl, R, k⟩ := h
    walk_at "go"
    refine ⟨n, 0, rfl, by omega, ?_⟩
    walk_at "go"
    refine r_row T R fun r er => ?_
    walk_at "go"
    refine r_row T R fun r2 er2 => ?_
    walk_at "go"
    refine r_len (n := (ws.length : Int)) (.inr er2) (by rw [List.length_map]) ?_
    have n0 := R.row.n0
    refine r_I (by omega) ?_
    obtain ⟨z, hz⟩ : ∃ z, ws[n % ws.length]? = some z := ⟨_, List.getElem?_eq_getElem (Nat.mod_lt _ n0)⟩
    exact r_ixt er (at_ints hz) (k z hz)
theorem upto_b {ws : List Int} (R : Row ws) {n : Nat} (h : n < 2 ^ 200) : (((n : Int) / (ws.length : Int))).natAbs < 2 ^ 200 := by
  have n0 := R.n0
  have e : ((n : Int) / (ws.length : Int)) = ((n / ws.length : Nat) : Int) := rfl
  rw [e, Int.natAbs_natCast]
  exact Nat.lt_of_le_of_lt (Nat.div_le_self _ _) h
theorem ok_Roll_upto (T : Txt K mg) : FnOk P w K mg base CX0 1 (He.fAd K ("Roll", some "upto")) T.fd_Roll_upto ["self", "many"] (spUpto K) := by
  refine T.F_Roll_upto.ok sc_Roll_upto (fun vs H Q E h => ?_) (fun cdv A outer s H vs Q E hr h => ⟨_, PSs.nox ((pss_one (ps_ret (pe_op op_add (pe_op op_mulW (pe_op op_fdivW (pv 1) (pe_callB RC.call_lenS rfl T.fr_len (by decide +kernel) (pa_cons (pe_fld (pv 0) rfl) pa_nil))) (pe_ix ix_tup (pe_fld (pv 0) rfl) (pe_un un_neg pe_int) (fun _ _ => rfl))) (pe_ix ix_tup (pe_fld (pv 0) rfl) (pe_op op_mod (pv 1) (pe_callB RC.call_lenS rfl T.fr_len (by decide +kernel) (pa_cons (pe_fld (pv 0) rfl) pa_nil))) (fun _ _ => rfl)))))), ?_⟩)
  · obtain ⟨_, _, _, rfl, _⟩ := h
    rfl
  · try dsimp only [L2.cxOf, L2.Cx.nox, L2.Cx.wish]
    obtain ⟨p, ws, n, rfl, R, hn, k⟩ := h
    have n0 := R.row.n0
    have l1 := R.row.len
    have q1 := R.row.sum0
    have q2 := R.row.sumB
    walk_at "go"
    refine r_row T R fun r er => ?_
    walk_at "go"
    refine r_len (n := (ws.length : Int)) (.inr er) (by rw [List.length_map]) ?_
    refine r_I (wide_div (b := 20) (by omega) (by omega) (by decide) (by decide)) ?_
    walk_at "go"
    refine r_firsts T R fun f ef => ?_
    walk_at "go"
    refine r_ixt ef (at_ints_last (firsts_last ws)) ?_
    refine r_I (wide_mul (a := 200) (b := 210) (upto_b R.row hn) (by omega) (by decide) (by decide) (by decide)) ?_
    walk_at "go"
    refine r_firsts T R fun f2 ef2 => ?_
    walk_at "go"
    refine r_row T R fun r2 er2 => ?_
    walk_at "go"
    refine r_len (n := (ws.length : Int)) (.inr er2) (by rw [List.length_map]) ?_
    refine r_I (by omega) ?_
    refine r_ixt ef2 (at_ints (j := n % ws.length) (firsts_at (Nat.le_of_lt (Nat.mod_lt _ n0)))) ?_
    walk_at "go"
    exact k
theorem ok_Roll_total (T : Txt K mg) : FnOk P w K mg base CX0 3 (He.fAd K ("Roll", some "total")) T.fd_Roll_total ["self", "start", "length"] (spTotal K) := by
  refine T.F_Roll_total.ok sc_Roll_total (fun vs H Q E h => ?_) (fun cdv A outer s H vs Q E hr h => ⟨_, PSs.nox ((pss_cons (ps_expr (pe_call (ok_check_number T) (hr.mono (by decide)) rfl T.g_check_number T.F_check_number.kp (b_check_number T) .nil pass0 (pa_cons (pv 1) (pa_cons pe_int pa_nil))))
      (pss_cons (ps_expr (pe_call (ok_check_number T) (hr.mono (by decide)) rfl T.g_check_number T.F_check_number.kp (b_check_number T) .nil pass0 (pa_cons (pv 2) (pa_cons pe_int pa_nil))))
      (pss_one (ps_ret (pe_op op_sub (pe_meth (pv 0) T.cl_Roll T.m_Roll_upto (ok_Roll_upto T) (hr.mono (by decide)) (b_Roll_upto T) .nil pass0 (pa_cons (pe_op op_add (pv 1) (pv 2)) pa_nil)) (pe_meth (pv 0) T.cl_Roll T.m_Roll_upto (ok_Roll_upto T) (hr.mono (by decide)) (b_Roll_upto T) .nil pass0 (pa_cons (pv 1) pa_nil)))))))), ?_⟩)
  · obtain ⟨_, _, _, _, rfl, _⟩ := h
    rfl
  · try dsimp only [L2.cxOf, L2.Cx.nox, L2.Cx.wish]
    obtain ⟨p, ws, n, m, rfl, R, hn, k⟩ := h
    walk_at "go"
    refine ⟨n, 0, rfl, by omega, ?_⟩
    walk_at "go"
    refine ⟨m, 0, rfl, by omega, ?_⟩
    walk_at "go"
    refine r_rollm R (by decide +kernel) (by decide +kernel) ?_
    walk_at "go"
    refine ⟨p, ws, n + m, rfl, R, hn, ?_⟩
    walk_at "go"
    refine r_rollm R (by decide +kernel) (by decide +kernel) ?_
    walk_at "go"
    refine ⟨p, ws, n, rfl, R, by omega, ?_⟩
    walk_at "go"
    exact k
theorem iv_inj {a b : List Int} (h : iv a = iv b) : a = b := (List.map_inj_right (fun _ _ e => V.int.inj e)).mp h
theorem cut_from (ws : List Int) (c : Nat) (h : c ≤ ws.length) : cutV (iv ws) (some (c : Int)) none = iv (ws.drop c) := by
  unfold cutV
  rw [HT.sIx_nat, HT.sIx_none, List.length_map, Nat.min_eq_left h, List.take_of_length_le (by rw [List.length_drop, List.length_map]; exact Nat.le_refl _), ← List.map_drop]
theorem cut_to (ws : List Int) (c : Nat) (h : c ≤ ws.length) : cutV (iv ws) none (some (c : Int)) = iv (ws.take c) := by
  unfold cutV
  rw [HT.sIx_nat, HT.sIx_none, List.length_map, Nat.min_eq_left h, Nat.sub_zero, List.drop_zero, ← List.map_take]
/-- t[lo:hi] of a tuple of ints, whatever object it is -/
theorem r_slt {a : Addr} {xs : List V} {lo hi : Option Int} (h : SqT K H a xs) (q : ∀ b H1, Same H H1 → SqT K H1 b (cutV xs lo hi) → Q (.ref b) H1) : rSlA K (.ref a) lo hi H Q := by
  refine ⟨a, xs, rfl, h, fun e => ?_, fun _ => r_new fun p H1 _ s1 e1 => q p H1 s1 (st_of e1)⟩
  refine q a H (Same.refl H) ?_
  have e2 : cutV xs lo hi = xs := by
    unfold cutV
    rw [e.1, e.2]
    simp
  rw [e2]
  exact h
theorem r_catt {a b : Addr} {xs ys : List V} (h1 : SqT K H a xs) (h2 : SqT K H b ys) (hz : xs.length + ys.length ≤ sizeLine) (q : ∀ c H1, Same H H1 → SqT K H1 c (xs ++ ys) → Q (.ref c) H1) : rCatA K (.ref a) (.ref b) H Q := by
  refine ⟨a, b, xs, ys, rfl, rfl, h1, h2, hz, fun e => ?_, fun _ e => ?_, fun _ _ => r_new fun p H1 _ s1 e1 => q p H1 s1 (st_of e1)⟩
  · refine q b H (Same.refl H) ?_
    rw [e, List.nil_append]
    exact h2
  · refine q a H (Same.refl H) ?_
    rw [e, List.append_nil]
    exact h1
def RevTV (K : PySem.W.Frag) (x : V) (H : Hp) (Q : VK) : Prop := ∃ a xs, x = .ref a ∧ SqT K H a xs ∧ ∀ p, H p = none → Q (.ref p) (upd H p (.tup xs.reverse))
theorem r_revt {te : TE} {σ : L2.St} (h : te σ H fun x H1 => RevTV K x H1 Q) : tRevT K te σ H Q := h
theorem r_revtV {a : Addr} {xs : List V} (h : SqT K H a xs) (q : ∀ l H1, H l = none → Same H H1 → H1 l = some (.tup xs.reverse) → Q (.ref l) H1) : RevTV K (.ref a) H Q := ⟨a, xs, rfl, h, r_new q⟩
theorem ok_Roll_torn (T : Txt K mg) : FnOk P w K mg base CX0 4 (He.fAd K ("Roll", some "torn")) T.fd_Roll_torn ["self", "many"] (spTorn K) := by
  refine T.F_Roll_torn.ok sc_Roll_torn (fun vs H Q E h => ?_) (fun cdv A outer s H vs Q E hr h => ⟨_, PSs.nox ((pss_cons (ps_expr (pe_call (ok_check_number T) (hr.mono (by decide)) rfl T.g_check_number T.F_check_number.kp (b_check_number T) .nil pass0 (pa_cons (pv 1) (pa_cons pe_int pa_nil))))
      (pss_cons (ps_set (i := 2) sc_Roll_torn.nd rfl (by first | exact .inl rfl | exact .inr rfl) (pe_op op_mod (pv 1) (pe_callB RC.call_lenS rfl T.fr_len (by decide +kernel) (pa_cons (pe_fld (pv 0) rfl) pa_nil))))
      (pss_one (ps_ret (pe_make T.mk_Roll (ok_Roll_init T) (hr.mono (by decide)) rfl T.g_Roll (b_Roll_init T) .nil pass0 (pa_cons (pe_callTy RC.call_listS rfl T.fr_list (by decide +kernel) (pa_cons (pe_op op_catA (pe_slice sl_tupA (pe_fld (pv 0) rfl) (po_some (pv 2)) po_none) (pe_slice sl_tupA (pe_fld (pv 0) rfl) po_none (po_some (pv 2)))) pa_nil)) pa_nil))))))), ?_⟩)
  · obtain ⟨_, _, _, rfl, _⟩ := h
    rfl
  · try dsimp only [L2.cxOf, L2.Cx.nox, L2.Cx.wish]
    obtain ⟨p, ws, n, rfl, R, k⟩ := h
    have n0 := R.row.n0
    have l1 := R.row.len
    walk_at "go"
    refine ⟨n, 0, rfl, by omega, ?_⟩
    walk_at "go"
    refine r_row T R fun r er => ?_
    walk_at "go"
    refine r_len (n := (ws.length : Int)) (.inr er) (by rw [List.length_map]) ?_
    refine r_I (by omega) ?_
    have c1 : n % ws.length ≤ ws.length := Nat.le_of_lt (Nat.mod_lt _ n0)
    walk_at "go"
    refine r_row T R fun r1 er1 => ?_
    walk_at "go"
    refine r_slt er1 fun b H1 s1 eb => ?_
    have R1 := Same.roll s1 R
    walk_at "go"
    refine r_row T R1 fun r2 er2 => ?_
    walk_at "go"
    refine r_slt er2 fun c H2 s2 ec => ?_
    have eb2 := Same.tup s2 eb
    have e1 := cut_from ws (n % ws.length) c1
    have e2 := cut_to ws (n % ws.length) c1
    refine r_catt (xs := iv (ws.drop (n % ws.length))) (ys := iv (ws.take (n % ws.length))) (by rw [← e1]; exact eb2) (by rw [← e2]; exact ec) ?_ fun d H3 s3 ed => ?_
    · rw [List.length_map, List.length_map, List.length_drop, List.length_take]
      exact small2 (by omega)
    walk_at "go"
    refine r_list (.inr ed) fun l H4 n4 s4 el => ?_
    walk_at "go"
    refine r_makeV fun q dx H5 n5 s5 e5 => ?_
    refine ⟨q, l, dx, tornL ws n, rfl, e5, sq_of ?_, R.row.torn n, fun H6 b6 R6 => ⟨rfl, ?_⟩⟩
    · rw [s5 _ _ el]
      unfold tornL
      rw [← List.map_append]
    · have sA : Same H H4 := s1.trans (s2.trans (s3.trans s4))
      exact k q H6 (sA.free n5) (But.same (sA.trans s5) (sA.free n5) b6) R6
theorem ok_Roll_mirrored (T : Txt K mg) : FnOk P w K mg base CX0 4 (He.fAd K ("Roll", some "mirrored")) T.fd_Roll_mirrored ["self"] (spMirrored K) := by
  refine T.F_Roll_mirrored.ok sc_Roll_mirrored (fun vs H Q E h => ?_) (fun cdv A outer s H vs Q E hr h => ⟨_, PSs.nox ((pss_one (ps_ret (pe_make T.mk_Roll (ok_Roll_init T) (hr.mono (by decide)) rfl T.g_Roll (b_Roll_init T) .nil pass0 (pa_cons (pe_callTy RC.call_listS rfl T.fr_list (by decide +kernel) (pa_cons (RC.pe_revT (pe_fld (pv 0) rfl)) pa_nil)) pa_nil))))), ?_⟩)
  · obtain ⟨_, _, rfl, _⟩ := h
    rfl
  · try dsimp only [L2.cxOf, L2.Cx.nox, L2.Cx.wish]
    obtain ⟨p, ws, rfl, R, k⟩ := h
    walk_at "go"
    refine r_revt ?_
    walk_at "go"
    refine r_row T R fun r er => ?_
    refine r_revtV er fun c H1 n1 s1 e1 => ?_
    walk_at "go"
    refine r_list (.inr (st_of e1)) fun l H4 n4 s4 el => ?_
    walk_at "go"
    refine r_makeV fun q dx H5 n5 s5 e5 => ?_
    refine ⟨q, l, dx, ws.reverse, rfl, e5, sq_of ?_, R.row.rev, fun H6 b6 R6 => ⟨rfl, ?_⟩⟩
    · rw [s5 _ _ el, ← List.map_reverse]
    · have sA : Same H H4 := s1.trans s4
      exact k q H6 (sA.free n5) (But.same (sA.trans s5) (sA.free n5) b6) R6
theorem ok_Roll_eq (T : Txt K mg) : FnOk P w K mg base CX0 1 (He.fAd K ("Roll", some "__eq__")) T.fd_Roll_eq ["self", "other"] (spRollEq K) := by
  refine T.F_Roll_eq.ok sc_Roll_eq (fun vs H Q E h => ?_) (fun cdv A outer s H vs Q E hr h => ⟨_, PSs.nox ((pss_one (ps_ret (pe_and (pe_callB call_isi rfl T.fr_isinstance (by decide +kernel) (pa_cons (pv 1) (pa_cons (pe_glob (v := .ref (He.ga K "Roll")) rfl T.g_Roll rfl) pa_nil))) (pe_one (pe_cmpR (op_eqD hr.units) (pe_fld (pv 0) rfl) (pe_fld (pv 1) rfl) (nomark _))))))), ?_⟩)
  · obtain ⟨_, _, _, _, rfl, _⟩ := h
    rfl
  · try dsimp only [L2.cxOf, L2.Cx.nox, L2.Cx.wish]
    obtain ⟨p, q, ws, zs, rfl, R, S, k⟩ := h
    walk_at "go"
    refine r_isi (.own _) (roll_ty T S) T.k_Roll_Roll ?_
    walk_at "go"
    refine r_row T R fun r er => ?_
    walk_at "go"
    refine r_row T S fun r2 er2 => ?_
    exact r_eqT er er2 k
-- check_roll: not in this law's text
end

/-! ## What the laws draw: purses of digits -/
/-- a purse at p: digits, a seed, a count of at most m -/
def Pu (H : Hp) (p : Addr) (m : Nat) : Prop := ∃ A B C : Int, H p = some (.lst [.int A, .int B, .int C]) ∧ (0 ≤ A ∧ A < 2 ^ 2000) ∧ (0 ≤ B ∧ B < 2147483647) ∧ 0 ≤ C ∧ C ≤ m
theorem Pu.but {H H' : Hp} {p q : Addr} {m : Nat} (h : Pu H p m) (b : But q H H') (n : p ≠ q) : Pu H' p m := by
  obtain ⟨A, B, C, e, r⟩ := h
  exact ⟨A, B, C, b _ _ n e, r⟩
theorem Pu.same {H H' : Hp} {p : Addr} {m : Nat} (h : Pu H p m) (s : Same H H') : Pu H' p m := by
  obtain ⟨A, B, C, e, r⟩ := h
  exact ⟨A, B, C, s _ _ e, r⟩
theorem Pu.le {H : Hp} {p : Addr} {m m' : Nat} (h : Pu H p m) (l : m ≤ m') : Pu H p m' := by
  obtain ⟨A, B, C, e, a, b, c, d⟩ := h
  exact ⟨A, B, C, e, a, b, c, by omega⟩
theorem Pu.ne {H : Hp} {p l : Addr} {m : Nat} (h : Pu H p m) (n : H l = none) : p ≠ l := by
  obtain ⟨A, B, C, e, _⟩ := h
  exact ne_of_none e n
/-- what is new is written: what stood is as it was, but at p -/
theorem But.past {p l : Addr} {H H1 H2 : Hp} (a : But p H H1) (n : H l = none) (b : But l H1 H2) : But p H H2 := fun c o nc h => b c o (ne_of_none h n) (a c o nc h)
theorem But.then {p : Addr} {H H1 H2 : Hp} (a : But p H H1) (b : Same H1 H2) : But p H H2 := fun c o n h => b c o (a c o n h)
theorem But.free {p l : Addr} {H H1 : Hp} (a : But p H H1) (h : H1 l = none) (e : l ≠ p) : H l = none := by
  cases q : H l with
  | none => rfl
  | some o =>
    rw [a l o e q] at h
    cases h
theorem cutV_iv (ns : List Int) (lo hi : Option Int) : ∃ ms : List Int, cutV (iv ns) lo hi = iv ms := by
  refine ⟨(ns.drop (HT.sIx ns.length 0 lo)).take (HT.sIx ns.length ns.length hi - HT.sIx ns.length 0 lo), ?_⟩
  unfold cutV
  rw [List.length_map, ← List.map_drop, ← List.map_take]
section
variable {P : Program} {w : World} {K : PySem.W.Frag} {mg : Str → Option Value} {base : Heap} {H : Hp} {Q : VK}
def spMixed (_ : PySem.W.Frag) : Sp := fun vs H Q _ => ∃ a b : Int, vs = [.int a, .int b] ∧ (0 ≤ a ∧ a < 2147483647) ∧ (0 ≤ b ∧ b < 2 ^ 60) ∧ ∀ z, 0 ≤ z → z < 2147483587 → Q (.int z) H
def spPurse (K : PySem.W.Frag) : Sp := fun vs H Q _ => ∃ (a : Addr) (ns : List Int) (k : Nat), vs = [.ref a, .int k] ∧ SqL K H a (iv ns) ∧ k ≤ 1000 ∧ ∀ p H', H p = none → Same H H' → Pu H' p 1000000 → Q (.ref p) H'
def spDraw (_ : PySem.W.Frag) : Sp := fun vs H Q _ => ∃ (p : Addr) (m : Nat) (n : Int), vs = [.ref p, .int n] ∧ Pu H p m ∧ m ≤ 1000000000 ∧ (1 ≤ n ∧ n < 2 ^ 110) ∧ ∀ z H', But p H H' → Pu H' p (m + 5) → 0 ≤ z → z < n → Q (.int z) H'
def spDrawn (K : PySem.W.Frag) : Sp := fun vs H Q _ => ∃ (p : Addr) (m k : Nat) (g : Int), vs = [.ref p, .int k, .int g] ∧ Pu H p m ∧ m ≤ 100000000 ∧ (1 ≤ k ∧ k ≤ 100) ∧ (1 ≤ g ∧ g < 2 ^ 110) ∧
  ∀ l ws H', H l = none → But p H H' → Pu H' p (m + 1000) → H' l = some (.lst (iv ws)) → 1 ≤ ws.length → ws.length ≤ k → (∀ z ∈ ws, 1 ≤ z ∧ z ≤ g) → Q (.ref l) H'
theorem ok_l_mixed (T : Txt K mg) : FnOk P w K mg base CX0 1 (He.fAd K ("_law_mixed", none)) T.fd_l_mixed ["_law_cell", "_law_k"] (spMixed K) := by
  refine T.F_l_mixed.ok sc_l_mixed (fun vs H Q E h => ?_) (fun cdv A outer s H vs Q E hr h => ⟨_, PSs.nox ((pss_cons (ps_set (i := 2) sc_l_mixed.nd rfl (by first | exact .inl rfl | exact .inr rfl) (pe_op op_mod (pe_op op_add (pe_op op_add (pe_op op_add (pe_op op_mul (pv 0) pe_int) (pe_op op_mulW (pe_op op_mul pe_int (pv 1)) (pv 1))) (pv 1)) pe_int) pe_int))
      (pss_cons (ps_set (i := 2) sc_l_mixed.nd rfl (by first | exact .inl rfl | exact .inr rfl) (pe_op op_mod (pe_op op_add (pe_op op_mulW (pv 2) (pv 2)) pe_int) pe_int))
      (pss_one (ps_ret (pe_op op_mod (pe_op op_mul (pv 2) pe_int) pe_int)))))), ?_⟩)
  · obtain ⟨_, _, rfl, _⟩ := h
    rfl
  · try dsimp only [L2.cxOf, L2.Cx.nox, L2.Cx.wish]
    obtain ⟨a, b, rfl, ha, hb, k⟩ := h
    walk_at "go"
    refine r_I (.inr ⟨by decide, by decide⟩) ?_
    walk_at "go"
    refine r_I (.inl ⟨by decide, by decide⟩) ?_
    walk_at "go"
    refine r_I (wide_mul (a := 80) (b := 60) (by omega) (by omega) (by decide) (by decide) (by decide)) ?_
    walk_at "go"
    refine r_I (by decide) ?_
    walk_at "go"
    generalize hx : (a * 1103515245 + 7919 * b * b + b + 1) % 2147483647 = x
    have x0 : 0 ≤ x := by rw [← hx]; exact Int.emod_nonneg _ (by decide)
    have x1 : x < 2147483647 := by rw [← hx]; exact Int.emod_lt_of_pos _ (by decide)
    refine r_I (wide_mul (a := 32) (b := 32) (by omega) (by omega) (by decide) (by decide) (by decide)) ?_
    walk_at "go"
    refine r_I (by decide) ?_
    walk_at "go"
    refine r_I (.inr ⟨by decide, by decide⟩) ?_
    walk_at "go"
    refine r_I (by decide) ?_
    exact k _ (Int.emod_nonneg _ (by decide)) (Int.emod_lt_of_pos _ (by decide))
theorem pow_b : ((10 ^ (60 : Int).toNat : Int) ^ (10 : Int).toNat) < 2 ^ 2000 := by decide +kernel
theorem pow_p : (0 : Int) < ((10 ^ (60 : Int).toNat : Int) ^ (10 : Int).toNat) := by decide +kernel
theorem ok_l_purse (T : Txt K mg) : FnOk P w K mg base CX0 1 (He.fAd K ("_law_purse", none)) T.fd_l_purse ["_law_script", "_law_at"] (spPurse K) := by
  refine T.F_l_purse.ok sc_l_purse (fun vs H Q E h => ?_) (fun cdv A outer s H vs Q E hr h => ⟨_, PSs.nox ((pss_cons (ps_set (i := 2) sc_l_purse.nd rfl (by first | exact .inl rfl | exact .inr rfl) (pe_callB (cr_sum rfl) rfl T.fr_sum (by decide +kernel) (pa_cons (pe_slice sl_list (pv 0) (po_some (pv 1)) (po_some (pe_op op_add (pv 1) pe_int))) pa_nil)))
      (pss_one (ps_ret (pe_lst (pa_cons (pe_op op_mod (pe_callB (RC.call_max2S rfl) rfl T.fr_max (by decide +kernel) (pa_cons (pe_op op_sub (pv 2) (pe_op op_pow pe_int pe_int)) (pa_cons pe_int pa_nil))) (pe_op RC.op_powW (pe_op op_pow pe_int pe_int) pe_int)) (pa_cons (pe_op op_mod (pv 2) pe_int) (pa_cons (pe_op op_mul pe_int (pv 1)) pa_nil)))))))), ?_⟩)
  · obtain ⟨_, _, _, rfl, _⟩ := h
    rfl
  · try dsimp only [L2.cxOf, L2.Cx.nox, L2.Cx.wish]
    obtain ⟨a, ns, j, rfl, hx, hj, k⟩ := h
    obtain ⟨ms, hms⟩ := cutV_iv ns (some (j : Int)) (some ((j : Int) + 1))
    walk_at "go"
    refine r_sll hx fun l H1 n1 s1 e1 => ?_
    rw [hms] at e1
    walk_at "go"
    refine r_sum (sq_of e1) ?_
    walk_at "go"
    refine r_I ⟨by decide, by decide, by decide⟩ ?_
    walk_at "go"
    refine r_I ⟨by decide, by decide, by decide⟩ ?_
    walk_at "go"
    refine r_I ⟨by decide, by decide +kernel⟩ ?_
    refine r_I pow_p ?_
    have a0 := Int.emod_nonneg (if 0 > ms.sum - 10 ^ (18 : Int).toNat then 0 else ms.sum - 10 ^ (18 : Int).toNat) (Int.ne_of_gt pow_p)
    have a1 := Int.lt_trans (Int.emod_lt_of_pos (if 0 > ms.sum - 10 ^ (18 : Int).toNat then 0 else ms.sum - 10 ^ (18 : Int).toNat) pow_p) pow_b
    generalize (if 0 > ms.sum - 10 ^ (18 : Int).toNat then 0 else ms.sum - 10 ^ (18 : Int).toNat) % ((10 ^ (60 : Int).toNat : Int) ^ (10 : Int).toNat) = x at a0 a1 ⊢
    walk_at "go"
    refine r_I (by decide) ?_
    walk_at "go"
    refine r_I (.inl ⟨by decide, by decide⟩) ?_
    walk_at "go"
    refine r_mk (by show 3 ≤ sizeLine; decide) fun q H2 n2 s2 e2 => ?_
    exact k q H2 (s1.free n2) (s1.trans s2) ⟨x, _, _, e2, ⟨a0, a1⟩, ⟨Int.emod_nonneg _ (by decide), Int.emod_lt_of_pos _ (by decide)⟩, by omega, by omega⟩
theorem turns {n : Int} (h : 1 ≤ n ∧ n < 2 ^ 110) : 1 + ((Builtin.Int.intBits n : Nat) : Int) / 30 = ((1 + Builtin.Int.intBits n / 30 : Nat) : Int) ∧ 1 + Builtin.Int.intBits n / 30 ≤ 4 := by
  have hb : Builtin.Int.intBits n ≤ 110 := intBits_le (by omega)
  omega
theorem ok_l_draw (T : Txt K mg) : FnOk P w K mg base CX0 2 (He.fAd K ("_law_draw", none)) T.fd_l_draw ["_law_purse_here", "_law_out_of"] (spDraw K) := by
  refine T.F_l_draw.ok sc_l_draw (fun vs H Q E h => ?_) (fun cdv A outer s H vs Q E hr h => ⟨_, PSs.nox ((pss_cons (ps_if (pt_cmpR op_gt (pe_ix ix_list (pv 0) pe_int (fun _ _ => rfl)) pe_int (nomark _)) (pss_cons (ps_set (i := 2) sc_l_draw.nd rfl (by first | exact .inl rfl | exact .inr rfl) (pe_op op_mod (pe_ix ix_list (pv 0) pe_int (fun _ _ => rfl)) (pv 1)))
      (pss_cons (ps_asg (pe_op op_fdivW (pe_ix ix_list (pv 0) pe_int (fun _ _ => rfl)) (pv 1)) (pg_sub (pv 0) pe_int set_list))
      (pss_one (ps_ret (pv 2))))) pss_nil)
      (pss_cons (ps_set (i := 3) sc_l_draw.nd rfl (by first | exact .inl rfl | exact .inr rfl) pe_int)
      (pss_cons (ps_for PassesOwn.never rfl (pi_range1 rfl T.fr_range (pa_cons (pe_op op_add pe_int (pe_op op_fdiv (pe_bits (pv 1)) pe_int)) pa_nil)) (pg_name (i := 4) sc_l_draw.nd rfl (by first | exact .inl rfl | exact .inr rfl))
      (pss_cons (ps_asg (pe_op op_add (pe_ix ix_list (pv 0) pe_int (fun _ _ => rfl)) pe_int) (pg_sub (pv 0) pe_int set_list))
      (pss_one (ps_set (i := 3) sc_l_draw.nd rfl (by first | exact .inl rfl | exact .inr rfl) (pe_op op_add (pe_op op_mul (pv 3) pe_int) (pe_call (ok_l_mixed T) (hr.mono (by decide)) rfl T.g_l_mixed T.F_l_mixed.kp (b_l_mixed T) .nil pass0 (pa_cons (pe_ix ix_list (pv 0) pe_int (fun _ _ => rfl)) (pa_cons (pe_ix ix_list (pv 0) pe_int (fun _ _ => rfl)) pa_nil))))))))
      (pss_one (ps_ret (pe_op op_mod (pv 3) (pv 1)))))))), ?_⟩)
  · obtain ⟨_, _, _, rfl, _⟩ := h
    rfl
  · try dsimp only [L2.cxOf, L2.Cx.nox, L2.Cx.wish]
    obtain ⟨p, m, n, rfl, ⟨A, B, C, e, ⟨hA0, hA1⟩, ⟨hB0, hB1⟩, hC0, hC1⟩, hm, ⟨hn0, hn1⟩, k⟩ := h
    have nb : n.natAbs < 2 ^ 110 := by omega
    walk_at "go"
    refine r_ixl (v := .int A) (sq_of e) rfl ?_
    walk_at "go"
    refine if_d (fun pos => ?_) fun z => ?_
    · walk_at "go"
      refine r_ixl (v := .int A) (sq_of e) rfl ?_
      walk_at "go"
      refine r_I (by omega) ?_
      walk_at "go"
      refine r_ixl (v := .int A) (sq_of e) rfl ?_
      walk_at "go"
      refine r_I (wide_div (b := 110) (by omega) nb (by decide) (by decide)) ?_
      walk_at "go"
      refine r_setl e (j := 0) rfl fun H1 b1 e1 => ?_
      walk_at "go"
      refine k _ H1 b1 ⟨A / n, B, C, e1, ⟨Int.ediv_nonneg hA0 (by omega), Int.lt_of_le_of_lt (Int.ediv_le_self _ hA0) hA1⟩, ⟨hB0, hB1⟩, hC0, by omega⟩ (Int.emod_nonneg _ (by omega)) (Int.emod_lt_of_pos _ (by omega))
    walk_at "go"
    refine r_I ⟨by decide, by decide⟩ ?_
    walk_at "go"
    obtain ⟨t1, t2⟩ := turns ⟨hn0, hn1⟩
    refine r_rng1' t1 (by omega) (for_range (fun i σ H' => ∃ (x : Int) (v4 : Option V), σ = [some (.ref p), some (.int n), none, some (.int x), v4] ∧ But p H H' ∧ H' p = some (.lst [.int A, .int B, .int (C + i)])) ⟨0, none, rfl, But.refl _ _, by rw [e]; simp⟩ ?_ ?_)
    · rintro i σ H' hi ⟨x, v4, rfl, b, e'⟩
      walk_at "go"
      refine r_ixl (v := .int (C + i)) (sq_of e') rfl ?_
      walk_at "go"
      refine r_setl e' (j := 2) rfl fun H1 b1 e1 => ?_
      walk_at "go"
      refine r_I (.inr ⟨by decide, by decide⟩) ?_
      walk_at "go"
      refine r_ixl (v := .int B) (sq_of e1) rfl ?_
      walk_at "go"
      refine r_ixl (v := .int (C + i + 1)) (sq_of e1) rfl ?_
      walk_at "go"
      refine ⟨B, _, rfl, ⟨hB0, hB1⟩, by omega, fun z _ _ => ?_⟩
      walk_at "go"
      exact ⟨_, _, rfl, b.trans b1, by rw [e1]; simp [Int.add_assoc]⟩
    rintro σ H' ⟨x, v4, rfl, b, e'⟩
    walk_at "go"
    refine r_I (by omega) ?_
    exact k _ H' b ⟨A, B, _, e', ⟨hA0, hA1⟩, ⟨hB0, hB1⟩, by omega, by omega⟩ (Int.emod_nonneg _ (by omega)) (Int.emod_lt_of_pos _ (by omega))
theorem ok_l_worths_drawn (T : Txt K mg) : FnOk P w K mg base CX0 3 (He.fAd K ("_law_worths_drawn", none)) T.fd_l_worths_drawn ["_law_purse_here", "_law_most", "_law_greatest"] (spDrawn K) := by
  refine T.F_l_worths_drawn.ok sc_l_worths_drawn (fun vs H Q E h => ?_) (fun cdv A outer s H vs Q E hr h => ⟨_, PSs.nox ((pss_cons (ps_set (i := 3) sc_l_worths_drawn.nd rfl (by first | exact .inl rfl | exact .inr rfl) (pe_lst pa_nil))
      (pss_cons (ps_for PassesOwn.never rfl (pi_range1 rfl T.fr_range (pa_cons (pe_op op_add pe_int (pe_call (ok_l_draw T) (hr.mono (by decide)) rfl T.g_l_draw T.F_l_draw.kp (b_l_draw T) .nil pass0 (pa_cons (pv 0) (pa_cons (pv 1) pa_nil)))) pa_nil)) (pg_name (i := 4) sc_l_worths_drawn.nd rfl (by first | exact .inl rfl | exact .inr rfl))
      (pss_one (ps_expr (pe_bm PySem.F.plainAttrs_list PySem.F.slot_list_append PySem.F.type_list_append mt_append (pv 3) (pa_cons (pe_op op_add pe_int (pe_call (ok_l_draw T) (hr.mono (by decide)) rfl T.g_l_draw T.F_l_draw.kp (b_l_draw T) .nil pass0 (pa_cons (pv 0) (pa_cons (pv 2) pa_nil)))) pa_nil)))))
      (pss_one (ps_ret (pv 3)))))), ?_⟩)
  · obtain ⟨_, _, _, _, rfl, _⟩ := h
    rfl
  · try dsimp only [L2.cxOf, L2.Cx.nox, L2.Cx.wish]
    obtain ⟨p, m, kk, g, rfl, hp, hm, ⟨hk0, hk1⟩, hg, k⟩ := h
    walk_at "go"
    refine r_mk (by decide) fun l H1 nl s1 el => ?_
    walk_at "go"
    have hp1 := hp.same s1
    have pl : p ≠ l := hp.ne nl
    refine ⟨p, m, kk, rfl, hp1, by omega, by omega, fun z H2 b2 hp2 z0 z1 => ?_⟩
    have el2 := b2 _ _ pl.symm el
    walk_at "go"
    refine r_rng1' (n := (1 + z).toNat) (by omega) (by omega) (for_range (fun i σ H' => ∃ (v4 : Option V) (ws : List Int), σ = [some (.ref p), some (.int kk), some (.int g), some (.ref l), v4] ∧ But p H H' ∧ Pu H' p (m + 5 + 5 * i) ∧ H' l = some (.lst (iv ws)) ∧ ws.length = i ∧ ∀ z ∈ ws, 1 ≤ z ∧ z ≤ g) ⟨none, [], rfl, (But.of s1).trans b2, hp2, el2, rfl, fun _ h => absurd h List.not_mem_nil⟩ ?_ ?_)
    · rintro i σ H' hi ⟨v4, ws, rfl, b, hp', el', hl, hw⟩
      walk_at "go"
      refine ⟨ty_l el', ?_⟩
      walk_at "go"
      refine ⟨p, _, g, rfl, hp', by omega, hg, fun y H3 b3 hp3 y0 y1 => ?_⟩
      have el3 := b3 _ _ pl.symm el'
      walk_at "go"
      refine r_app el3 (small1 (by rw [List.length_map]; omega)) fun H4 b4 el4 => ?_
      walk_at "go"
      refine ⟨_, ws ++ [1 + y], rfl, ?_, ?_, by rw [el4]; simp, by rw [List.length_append, hl]; rfl, fun z hz => ?_⟩
      · exact (b.trans b3).past nl b4
      · exact (hp3.but b4 pl).le (by omega)
      · rcases List.mem_append.mp hz with hz | hz
        · exact hw z hz
        · rw [List.mem_singleton.mp hz]
          omega
    rintro σ H' ⟨v4, ws, rfl, b, hp', el', hl, hw⟩
    walk_at "go"
    exact k l ws H' nl b (hp'.le (by omega)) el' (by omega) (by omega) hw
end

/-! ### rolls compared; len(roll) -/
section
variable {K : PySem.W.Frag} {mg : Str → Option Value} {H : Hp} {Q : VK}
theorem op_eqR {X : Cx} (T : Txt X.K X.mg) (hr : Room 2 X.A) : OpR X (compareOp .Eq) (rEqO X.K (ga X.K "Roll") (spRollEq X.K) fun _ _ _ => False) := op_eqOwn T.m_Roll_eq (ok_Roll_eq T) (hr.mono (by decide)) (b_Roll_eq T) pass0
theorem op_neR {X : Cx} (T : Txt X.K X.mg) (hr : Room 2 X.A) : OpR X (compareOp .NotEq) (rNeO X.K (ga X.K "Roll") (spRollEq X.K) fun _ _ _ => False) := op_neOwn T.m_Roll_eq T.x_Roll.ne T.x_Roll.hm (ok_Roll_eq T) (hr.mono (by decide)) (b_Roll_eq T) pass0
theorem r_eqR (T : Txt K mg) {p q : Addr} {ws zs : List Int} {E : XK} (R : RollAt K H p ws) (S : RollAt K H q zs) (h : Q (.bl (decide (ws = zs))) H) : rEqO K (ga K "Roll") (spRollEq K) E (.ref p) (.ref q) H Q := by
  obtain ⟨_, dx, r, f, e, _, _⟩ := id R
  exact ⟨p, dx, _, rfl, e, ⟨_, roll_ty T S, T.n_Roll_Roll⟩, p, q, ws, zs, rfl, R, S, _, rfl, h⟩
theorem r_neR (T : Txt K mg) {p q : Addr} {ws zs : List Int} {E : XK} (R : RollAt K H p ws) (S : RollAt K H q zs) (h : Q (.bl (!decide (ws = zs))) H) : rNeO K (ga K "Roll") (spRollEq K) E (.ref p) (.ref q) H Q := by
  obtain ⟨_, dx, r, f, e, _, _⟩ := id R
  exact ⟨p, dx, _, rfl, e, ⟨_, roll_ty T S, T.n_Roll_Roll⟩, p, q, ws, zs, rfl, R, S, _, rfl, h⟩
theorem call_lenO {X : Cx} (T : Txt X.K X.mg) (hr : Room 2 X.A) : CallR X (.builtin "len") (rLenO (ga X.K "Roll") (spLen X.K) fun _ _ _ => False) := call_lenOwn T.m_Roll_len (ok_Roll_len T) (hr.mono (by decide)) (b_Roll_len T) pass0
theorem r_lenR {p : Addr} {ws : List Int} {E : XK} (R : RollAt K H p ws) (h : Q (.int ws.length) H) : rLenO (ga K "Roll") (spLen K) E [.ref p] H Q := by
  obtain ⟨_, dx, r, f, e, _, _⟩ := id R
  have l := R.row.len
  exact ⟨p, dx, _, rfl, e, p, ws, rfl, R, _, rfl, ⟨by omega, by omega⟩, h⟩
end

/-! ## The plain law of laps: sums of stamps over a roll that repeats -/
theorem mod0 {x L : Nat} (h : x < L) : x % L = x := Nat.mod_eq_of_lt h
theorem mod1 {x L : Nat} (h1 : L ≤ x) (h2 : x < L + L) : x % L = x - L := by
  rw [Nat.mod_eq_sub_mod h1, Nat.mod_eq_of_lt (by omega)]
/-- the n-th stamp of the roll -/
def st (ws : List Int) (n : Nat) : Int := ws[n % ws.length]?.getD 0
/-- the sum of the first n of f -/
def up (f : Nat → Int) : Nat → Int
  | 0 => 0
  | n + 1 => up f n + f n
theorem up_add (f : Nat → Int) (n : Nat) : ∀ m, up f (n + m) = up f n + up (fun k => f (n + k)) m
  | 0 => by simp [up]
  | m + 1 => by
    show up f (n + m) + f (n + m) = up f n + (up (fun k => f (n + k)) m + f (n + m))
    rw [up_add f n m, Int.add_assoc]
theorem up_congr {f g : Nat → Int} : ∀ {n : Nat}, (∀ k, k < n → f k = g k) → up f n = up g n
  | 0, _ => rfl
  | n + 1, h => by
    show up f n + f n = up g n + g n
    rw [up_congr (n := n) (fun k hk => h k (by omega)), h n (by omega)]
theorem up_head (f : Nat → Int) : ∀ n, up f (n + 1) = f 0 + up (fun k => f (k + 1)) n
  | 0 => by simp [up]
  | n + 1 => by
    show up f (n + 1) + f (n + 1) = f 0 + (up (fun k => f (k + 1)) n + f (n + 1))
    rw [up_head f n, Int.add_assoc]
theorem up_rev {f g : Nat → Int} : ∀ {n : Nat}, (∀ k, k < n → f k = g (n - 1 - k)) → up f n = up g n
  | 0, _ => rfl
  | n + 1, h => by
    rw [up_head f n]
    show f 0 + up (fun k => f (k + 1)) n = up g n + g n
    rw [up_rev (f := fun k => f (k + 1)) (g := g) (n := n) (fun k hk => by
      show f (k + 1) = _
      rw [h (k + 1) (by omega)]
      congr 1
      omega), h 0 (by omega), Int.add_comm]
    congr 2
theorem upto_zero (ws : List Int) : upto ws 0 = 0 := by
  unfold upto pre
  simp
theorem sum_take_all {ws : List Int} {i : Nat} (h : i + 1 = ws.length) {z : Int} (hz : ws[i]? = some z) : pre ws i + z = ws.sum := by
  have := pre_next hz
  rw [← this]
  unfold pre
  rw [h, List.take_length]
theorem upto_succ {ws : List Int} (n0 : 0 < ws.length) (n : Nat) : upto ws (n + 1) = upto ws n + st ws n := by
  have lt := Nat.mod_lt n n0
  obtain ⟨z, hz⟩ : ∃ z, ws[n % ws.length]? = some z := ⟨_, List.getElem?_eq_getElem lt⟩
  have es : st ws n = z := by
    unfold st
    rw [hz]
    rfl
  rw [es]
  have dm := Nat.div_add_mod n ws.length
  unfold upto
  by_cases h : n % ws.length + 1 < ws.length
  · have e1 : (n + 1) / ws.length = n / ws.length := by
      rw [Nat.div_eq_of_lt_le]
      · rw [Nat.mul_comm]
        omega
      · rw [Nat.succ_mul, Nat.mul_comm]
        omega
    have e2 : (n + 1) % ws.length = n % ws.length + 1 := by
      have := Nat.div_add_mod (n + 1) ws.length
      rw [e1] at this
      omega
    rw [e1, e2, pre_next hz, Int.add_assoc]
  · have e : n % ws.length + 1 = ws.length := by omega
    have e1 : (n + 1) / ws.length = n / ws.length + 1 := by
      rw [Nat.div_eq_of_lt_le]
      · rw [Nat.succ_mul, Nat.mul_comm]
        omega
      · rw [Nat.succ_mul, Nat.succ_mul, Nat.mul_comm]
        omega
    have e2 : (n + 1) % ws.length = 0 := by
      have := Nat.div_add_mod (n + 1) ws.length
      rw [e1, Nat.mul_add] at this
      omega
    rw [e1, e2, ← sum_take_all e hz]
    unfold pre
    rw [List.take_zero, List.sum_nil, Int.natCast_add, Int.add_mul]
    simp only [Int.natCast_one, Int.one_mul, Int.add_zero]
    omega
theorem upto_up {ws : List Int} (n0 : 0 < ws.length) : ∀ n, upto ws n = up (st ws) n
  | 0 => upto_zero ws
  | n + 1 => by rw [upto_succ n0, upto_up n0 n]; rfl
/-- the sum of m stamps from the n-th -/
def win (ws : List Int) (n m : Nat) : Int := upto ws (n + m) - upto ws n
theorem win_up {ws : List Int} (n0 : 0 < ws.length) (n m : Nat) : win ws n m = up (fun k => st ws (n + k)) m := by
  unfold win
  rw [upto_up n0, upto_up n0, up_add]
  omega
theorem win_add (ws : List Int) (n m k : Nat) : win ws n m + win ws (n + m) k = win ws n (m + k) := by
  unfold win
  rw [Nat.add_assoc]
  omega
theorem win_lap {ws : List Int} (n0 : 0 < ws.length) (n m : Nat) : win ws n (m + ws.length) = win ws n m + ws.sum := by
  have e : upto ws (n + (m + ws.length)) = upto ws (n + m) + ws.sum := by
    rw [← Nat.add_assoc]
    unfold upto
    rw [Nat.add_mod_right, Nat.add_div_right _ n0]
    show (((n + m) / ws.length + 1 : Nat) : Int) * ws.sum + _ = _
    rw [Int.natCast_add, Int.add_mul, Int.natCast_one, Int.one_mul]
    omega
  unfold win
  rw [e]
  omega
theorem torn_at {ws : List Int} (n : Nat) {i : Nat} (h : i < ws.length) : (tornL ws n)[i]? = ws[(n + i) % ws.length]? := by
  have n0 : 0 < ws.length := by omega
  have c := Nat.mod_lt n n0
  have e : (n + i) % ws.length = (n % ws.length + i) % ws.length := by rw [Nat.mod_add_mod]
  rw [e]
  unfold tornL
  generalize n % ws.length = q at c
  by_cases hi : i < ws.length - q
  · rw [List.getElem?_append_left (by rw [List.length_drop]; exact hi), List.getElem?_drop, mod0 (x := q + i) (by omega)]
  · rw [List.getElem?_append_right (by rw [List.length_drop]; omega), List.length_drop, List.getElem?_take_of_lt (by omega), mod1 (x := q + i) (by omega) (by omega)]
    congr 1
    omega
theorem st_torn {ws : List Int} (n0 : 0 < ws.length) (n k : Nat) : st (tornL ws n) k = st ws (n + k) := by
  unfold st
  rw [tornL_len, torn_at n (Nat.mod_lt _ n0), Nat.add_mod_mod]
theorem win_torn {ws : List Int} (n0 : 0 < ws.length) (s n m : Nat) : win (tornL ws s) n m = win ws (s + n) m := by
  rw [win_up (by rw [tornL_len]; exact n0), win_up n0]
  refine up_congr fun k _ => ?_
  show st (tornL ws s) (n + k) = st ws (s + n + k)
  rw [st_torn n0, Nat.add_assoc]
theorem torn_torn {ws : List Int} (s t : Nat) : tornL (tornL ws s) t = tornL ws (s + t) := by
  apply List.ext_getElem?
  intro i
  by_cases h : i < ws.length
  · have n0 : 0 < ws.length := by omega
    rw [torn_at t (by rw [tornL_len]; exact h), tornL_len, torn_at s (Nat.mod_lt _ n0), torn_at _ h, Nat.add_mod_mod, Nat.add_assoc]
  · rw [List.getElem?_eq_none (by rw [tornL_len, tornL_len]; omega), List.getElem?_eq_none (by rw [tornL_len]; omega)]
theorem torn_rev {ws : List Int} (s : Nat) : (tornL ws s).reverse = tornL ws.reverse (ws.length - s % ws.length) := by
  apply List.ext_getElem?
  intro i
  by_cases h : i < ws.length
  · have n0 : 0 < ws.length := by omega
    have c := Nat.mod_lt s n0
    rw [List.getElem?_reverse (by rw [tornL_len]; exact h), tornL_len, torn_at _ (by omega), torn_at _ (by rw [List.length_reverse]; exact h), List.length_reverse, List.getElem?_reverse (Nat.mod_lt _ n0)]
    have e : (s + (ws.length - 1 - i)) % ws.length = (s % ws.length + (ws.length - 1 - i)) % ws.length := by rw [Nat.mod_add_mod]
    rw [e]
    congr 1
    generalize s % ws.length = q at c
    by_cases hi : i < q
    · rw [mod1 (x := q + (ws.length - 1 - i)) (by omega) (by omega), mod0 (x := ws.length - q + i) (by omega)]
      omega
    · rw [mod0 (x := q + (ws.length - 1 - i)) (by omega), mod1 (x := ws.length - q + i) (by omega) (by omega)]
      omega
  · rw [List.getElem?_eq_none (by rw [List.length_reverse, tornL_len]; omega), List.getElem?_eq_none (by rw [tornL_len, List.length_reverse]; omega)]
theorem st_rev {ws : List Int} (n0 : 0 < ws.length) (k : Nat) : st ws.reverse k = st ws (ws.length - 1 - k % ws.length) := by
  have c := Nat.mod_lt k n0
  unfold st
  rw [List.length_reverse, List.getElem?_reverse c, mod0 (x := ws.length - 1 - k % ws.length) (by omega)]
theorem win_back {ws : List Int} (n0 : 0 < ws.length) {low t : Nat} (hl : low < ws.length) (ht : t < 50) : win ws.reverse (ws.length - low) t = win ws ((low + 50 * ws.length - t) % ws.length) t := by
  rw [win_up (by rw [List.length_reverse]; exact n0), win_up n0]
  refine up_rev fun k hk => ?_
  show st ws.reverse (ws.length - low + k) = st ws ((low + 50 * ws.length - t) % ws.length + (t - 1 - k))
  rw [st_rev n0]
  have hb : 50 ≤ 50 * ws.length := by omega
  have e1 : st ws ((low + 50 * ws.length - t) % ws.length + (t - 1 - k)) = st ws (low + 50 * ws.length - 1 - k) := by
    unfold st
    rw [Nat.mod_add_mod]
    congr 3
    omega
  rw [e1]
  have c := Nat.mod_lt (ws.length - low + k) n0
  have dm := Nat.div_add_mod (ws.length - low + k) ws.length
  -- the quotient q: L q + r = L - low + k
  have hq : (ws.length - low + k) / ws.length ≤ 51 := by
    rw [Nat.div_le_iff_le_mul_add_pred n0]
    omega
  unfold st
  congr 2
  have key : low + 50 * ws.length - 1 - k = (ws.length - 1 - (ws.length - low + k) % ws.length) + (50 - (ws.length - low + k) / ws.length) * ws.length ∨ (ws.length - low + k) / ws.length = 51 := by
    by_cases h51 : (ws.length - low + k) / ws.length = 51
    · exact .inr h51
    · left
      have h50 : (ws.length - low + k) / ws.length ≤ 50 := by omega
      generalize (ws.length - low + k) / ws.length = q at dm h50
      generalize (ws.length - low + k) % ws.length = r at dm c ⊢
      rw [Nat.sub_mul]
      have : ws.length * q = q * ws.length := Nat.mul_comm _ _
      have : q * ws.length ≤ 50 * ws.length := Nat.mul_le_mul_right _ h50
      omega
  rcases key with e | e
  · rw [e, Nat.add_mul_mod_self_right]
  · rw [e] at dm
    omega

/-! ## Steps that the laws share -/
-- a roll's total(n, m); R its RollAt
-- torn(n): the new roll at q, its heap Hn, its facts R2
section
variable {K : PySem.W.Frag} {H : Hp} {Q : VK}
theorem pick2 {a b z : Int} {P : Int → Prop} (h0 : 0 ≤ z) (h : z < 2) (pa : P a) (pb : P b) : ∃ g, atI [V.int a, V.int b] z = some (V.int g) ∧ P g := by
  have : z = 0 ∨ z = 1 := by omega
  rcases this with rfl | rfl
  · exact ⟨a, rfl, pa⟩
  · exact ⟨b, rfl, pb⟩
theorem pick3 {a b c z : Int} {P : Int → Prop} (h0 : 0 ≤ z) (h : z < 3) (pa : P a) (pb : P b) (pc : P c) : ∃ g, atI [V.int a, V.int b, V.int c] z = some (V.int g) ∧ P g := by
  have : z = 0 ∨ z = 1 ∨ z = 2 := by omega
  rcases this with rfl | rfl | rfl
  · exact ⟨a, rfl, pa⟩
  · exact ⟨b, rfl, pb⟩
  · exact ⟨c, rfl, pc⟩
theorem But.tupL {p a : Addr} {H H' : Hp} {l xs : List V} (b : But p H H') (hp : H p = some (.lst l)) (h : SqT K H a xs) : SqT K H' a xs := by
  rcases h with (h | ⟨ob, h⟩) | h
  · exact .inl (.inl (b _ _ (ne_of h hp fun e => by cases e) h))
  · exact .inl (.inr ⟨ob, b _ _ (ne_of h hp fun e => by cases e) h⟩)
  · exact .inr h
theorem RollAt.but {p q : Addr} {H H' : Hp} {ws : List Int} {m : Nat} (R : RollAt K H q ws) (hp : Pu H p m) (b : But p H H') : RollAt K H' q ws := by
  obtain ⟨A, B, C, e, _⟩ := hp
  obtain ⟨r, dx, x, y, h1, h2, h3⟩ := R
  exact ⟨r, dx, x, y, b _ _ (ne_of h1 e fun e => by cases e) h1, b.tupL e h2, b.tupL e h3⟩
/-- a drawing -/
theorem r_draw {p : Addr} {m : Nat} {n : Int} {E : XK} (hp : Pu H p m) (hm : m ≤ 1000000000) (hn : 1 ≤ n ∧ n < 2 ^ 110) (k : ∀ (z : Nat) H', But p H H' → Pu H' p (m + 5) → (z : Int) < n → Q (.int z) H') : spDraw K [.ref p, .int n] H Q E :=
  ⟨p, m, n, rfl, hp, hm, hn, fun z H' b hp' z0 z1 => by
    obtain ⟨j, rfl⟩ := Int.eq_ofNat_of_zero_le z0
    exact k j H' b hp' z1⟩
theorem ne_f {x y : Int} (h : x = y) : (!decide (V.int x = V.int y)) = false := by
  rw [h, decide_eq_true rfl]
  rfl
theorem nl_f {x y : List Int} (h : x = y) : (!decide (x = y)) = false := by
  rw [h, decide_eq_true rfl]
  rfl
end
-- a drawing: of n, what stands for z; the purse's facts hp

-- [a, 10 ** 29][draw of 2], drawn of

/-! ## Values that are no whole numbers from l on; what raises -/
section
variable {w : World} {K : PySem.W.Frag} {mg : Str → Option Value} {base : Heap} {H : Hp} {Q : VK} {P : Program}
/-- is_whole(v) is b -/
def WholeIs (K : PySem.W.Frag) (H : Hp) (v : V) (b : Bool) : Prop := ∃ t b1 b2, TyX K H v t ∧ PySem.W.kitOne K t (.type "int") = some b1 ∧ PySem.W.kitOne K t (.type "bool") = some b2 ∧ b = (b1 && !b2)
/-- v is refused as a number from l on -/
def BadNum (K : PySem.W.Frag) (H : Hp) (v : V) (l : Int) : Prop := WholeIs K H v false ∨ ∃ n, v = .int n ∧ n < l
/-- the way out: the error of class x with v -/
def Out (K : PySem.W.Frag) (x : Str) (H : Hp) (E : XK) (v : V) : Prop := ∀ d, H d = none → E (.ref (ga K x)) (some d) (upd H d (.xd [(valS, v)]))
theorem whole_int (n : Int) : WholeIs K H (.int n) true := ⟨_, true, false, .base (.int n), kit_ty (by decide +kernel), kit_ty (by decide +kernel), rfl⟩
def spIsWholeV (K : PySem.W.Frag) : Sp := fun vs H Q _ => ∃ v b, vs = [v] ∧ WholeIs K H v b ∧ Q (.bl b) H
theorem okv_is_whole (T : Txt K mg) : FnOk P w K mg base CX0 1 (He.fAd K ("is_whole", none)) T.fd_is_whole ["value"] (spIsWholeV K) := by
  refine T.F_is_whole.ok sc_is_whole (fun vs H Q E h => ?_) (fun cdv A outer s H vs Q E hr h => ⟨_, PSs.nox ((pss_one (ps_ret (pe_and (pe_callB call_isi rfl T.fr_isinstance (by decide +kernel) (pa_cons (pv 0) (pa_cons (pe_bltn (v := .ty "int") rfl T.fr_int (by decide +kernel) rfl) pa_nil))) (pe_one (pe_not (pe_callB call_isi rfl T.fr_isinstance (by decide +kernel) (pa_cons (pv 0) (pa_cons (pe_bltn (v := .ty "bool") rfl T.fr_bool (by decide +kernel) rfl) pa_nil))))))))), ?_⟩)
  · obtain ⟨_, _, rfl, _⟩ := h
    rfl
  · try dsimp only [L2.cxOf, L2.Cx.nox, L2.Cx.wish]
    obtain ⟨v, b, rfl, ⟨t, b1, b2, ty, h1, h2, rfl⟩, k⟩ := h
    walk_at "go"
    refine r_isi (.ty _) ty h1 ?_
    walk_at "go"
    cases b1 with
    | false => exact if_f rfl k
    | true =>
      refine if_t rfl ?_
      walk_at "go"
      refine r_isi (.ty _) ty h2 ?_
      walk_at "go"
      exact k
def spCheckX (K : PySem.W.Frag) : Sp := fun vs H Q E => ∃ (v : V) (l : Int), vs = [v, .int l] ∧ ((∃ n, v = .int n ∧ l ≤ n ∧ Q .non H) ∨ (BadNum K H v l ∧ Out K "InvalidNumber" H E v))
theorem r_raiseE {C : Addr} {W : WX} {ta : TA} {D : Ends} {σ : L2.St} {H : Hp} (h : ta σ H fun vs H1 => ∃ v, vs = [v] ∧ ∀ d, H1 d = none → W (.ref C) (some d) σ (upd H1 d (.xd [(valS, v)]))) : tRaiseE C W ta D σ H := h
theorem okx_check_number (T : Txt K mg) : FnOk PR w K mg base (L2.CX PR w) 2 (He.fAd K ("check_number", none)) T.fd_check_number ["value", "least"] (spCheckX K) := by
  refine T.F_check_number.ok sc_check_number (fun vs H Q E h => ?_) (fun cdv A outer s H vs Q E hr h => ⟨_, (pss_one (ps_if (PW.pt (pw_or (pt_not (pt_val (pe_call (okv_is_whole T) (hr.mono (by decide)) rfl T.g_is_whole T.F_is_whole.kp (b_is_whole T) .nil pass0 (pa_cons (pv 0) pa_nil)))) (pw_or1 (pt_cmpR op_lt (pv 0) (pv 1) (nomark _))))) (pss_one (ps_raiseE rfl T.e_InvalidNumber T.g_InvalidNumber hr (takes_of rfl rfl rfl rfl) (pa_cons (pv 0) pa_nil))) pss_nil)), ?_⟩)
  · obtain ⟨_, _, rfl, _⟩ := h
    rfl
  · try dsimp only [L2.cxOf, L2.Cx.nox, L2.Cx.wish]
    obtain ⟨v, l, rfl, h⟩ := h
    walk_at "go"
    rcases h with ⟨n, rfl, hl, k⟩ | ⟨hb, o⟩
    · refine ⟨_, _, rfl, whole_int n, ?_⟩
      walk_at "go"
      refine if_f (decide_eq_false (by omega)) ?_
      walk_at "go"
      exact k
    rcases hb with hw | ⟨n, rfl, hn⟩
    · refine ⟨v, false, rfl, hw, ?_⟩
      walk_at "go"
      refine r_raiseE ?_
      walk_at "go"
      exact ⟨_, rfl, o⟩
    · refine ⟨_, _, rfl, whole_int n, ?_⟩
      walk_at "go"
      refine if_t (decide_eq_true (by omega)) ?_
      refine r_raiseE ?_
      walk_at "go"
      exact ⟨_, rfl, o⟩
def spTotalX (K : PySem.W.Frag) : Sp := fun vs H Q E => ∃ (p : Addr) (ws : List Int) (v1 v2 : V), vs = [.ref p, v1, v2] ∧ RollAt K H p ws ∧ ((BadNum K H v1 0 ∧ Out K "InvalidNumber" H E v1) ∨ ∃ n : Nat, v1 = .int n ∧ ((BadNum K H v2 0 ∧ Out K "InvalidNumber" H E v2) ∨ ∃ m : Nat, v2 = .int m ∧ n + m < 2 ^ 200 ∧ ∀ z, Q (.int z) H))
theorem okx_Roll_total (T : Txt K mg) : FnOk PR w K mg base (L2.CX PR w) 3 (He.fAd K ("Roll", some "total")) T.fd_Roll_total ["self", "start", "length"] (spTotalX K) := by
  refine T.F_Roll_total.ok sc_Roll_total (fun vs H Q E h => ?_) (fun cdv A outer s H vs Q E hr h => ⟨_, (pss_cons (ps_expr (pe_call (okx_check_number T) (hr.mono (by decide)) rfl T.g_check_number T.F_check_number.kp (b_check_number T) .nil (passes_call (takes_of rfl rfl rfl rfl) fun _ _ _ _ h => h) (pa_cons (pv 1) (pa_cons pe_int pa_nil))))
      (pss_cons (ps_expr (pe_call (okx_check_number T) (hr.mono (by decide)) rfl T.g_check_number T.F_check_number.kp (b_check_number T) .nil (passes_call (takes_of rfl rfl rfl rfl) fun _ _ _ _ h => h) (pa_cons (pv 2) (pa_cons pe_int pa_nil))))
      (pss_one (ps_ret (pe_op op_sub (pe_meth (pv 0) T.cl_Roll T.m_Roll_upto (ok_Roll_upto T) (hr.mono (by decide)) (b_Roll_upto T) .nil pass0 (pa_cons (pe_op op_add (pv 1) (pv 2)) pa_nil)) (pe_meth (pv 0) T.cl_Roll T.m_Roll_upto (ok_Roll_upto T) (hr.mono (by decide)) (b_Roll_upto T) .nil pass0 (pa_cons (pv 1) pa_nil))))))), ?_⟩)
  · obtain ⟨_, _, _, _, rfl, _⟩ := h
    rfl
  · try dsimp only [L2.cxOf, L2.Cx.nox, L2.Cx.wish]
    obtain ⟨p, ws, v1, v2, rfl, R, h⟩ := h
    walk_at "go"
    rcases h with ⟨hb, o⟩ | ⟨n, rfl, h⟩
    · exact ⟨v1, 0, rfl, .inr ⟨hb, o⟩⟩
    refine ⟨_, 0, rfl, .inl ⟨n, rfl, by omega, ?_⟩⟩
    walk_at "go"
    rcases h with ⟨hb, o⟩ | ⟨m, rfl, hn, k⟩
    · exact ⟨v2, 0, rfl, .inr ⟨hb, o⟩⟩
    refine ⟨_, 0, rfl, .inl ⟨m, rfl, by omega, ?_⟩⟩
    walk_at "go"
    refine r_rollm R (by decide +kernel) (by decide +kernel) ?_
    walk_at "go"
    refine ⟨p, ws, n + m, rfl, R, hn, ?_⟩
    walk_at "go"
    refine r_rollm R (by decide +kernel) (by decide +kernel) ?_
    walk_at "go"
    refine ⟨p, ws, n, rfl, R, by omega, ?_⟩
    walk_at "go"
    exact k _
def spTornX (K : PySem.W.Frag) : Sp := fun vs H Q E => ∃ (p : Addr) (ws : List Int) (v : V), vs = [.ref p, v] ∧ RollAt K H p ws ∧ ((BadNum K H v 0 ∧ Out K "InvalidNumber" H E v) ∨ ∃ n : Nat, v = .int n ∧ ∀ q H', Same H H' → Q (.ref q) H')
theorem okx_Roll_torn (T : Txt K mg) : FnOk PR w K mg base (L2.CX PR w) 4 (He.fAd K ("Roll", some "torn")) T.fd_Roll_torn ["self", "many"] (spTornX K) := by
  refine T.F_Roll_torn.ok sc_Roll_torn (fun vs H Q E h => ?_) (fun cdv A outer s H vs Q E hr h => ⟨_, (pss_cons (ps_expr (pe_call (okx_check_number T) (hr.mono (by decide)) rfl T.g_check_number T.F_check_number.kp (b_check_number T) .nil (passes_call (takes_of rfl rfl rfl rfl) fun _ _ _ _ h => h) (pa_cons (pv 1) (pa_cons pe_int pa_nil))))
      (pss_cons (ps_set (i := 2) sc_Roll_torn.nd rfl (by first | exact .inl rfl | exact .inr rfl) (pe_op op_mod (pv 1) (pe_callB RC.call_lenS rfl T.fr_len (by decide +kernel) (pa_cons (pe_fld (pv 0) rfl) pa_nil))))
      (pss_one (ps_ret (pe_make T.mk_Roll (ok_Roll_init T) (hr.mono (by decide)) rfl T.g_Roll (b_Roll_init T) .nil pass0 (pa_cons (pe_callTy RC.call_listS rfl T.fr_list (by decide +kernel) (pa_cons (pe_op op_catA (pe_slice sl_tupA (pe_fld (pv 0) rfl) (po_some (pv 2)) po_none) (pe_slice sl_tupA (pe_fld (pv 0) rfl) po_none (po_some (pv 2)))) pa_nil)) pa_nil)))))), ?_⟩)
  · obtain ⟨_, _, _, rfl, _⟩ := h
    rfl
  · try dsimp only [L2.cxOf, L2.Cx.nox, L2.Cx.wish]
    obtain ⟨p, ws, v, rfl, R, h⟩ := h
    have n0 := R.row.n0
    have l1 := R.row.len
    walk_at "go"
    rcases h with ⟨hb, o⟩ | ⟨n, rfl, k⟩
    · exact ⟨v, 0, rfl, .inr ⟨hb, o⟩⟩
    refine ⟨_, 0, rfl, .inl ⟨n, rfl, by omega, ?_⟩⟩
    walk_at "go"
    refine r_row T R fun r er => ?_
    walk_at "go"
    refine r_len (n := (ws.length : Int)) (.inr er) (by rw [List.length_map]) ?_
    refine r_I (by omega) ?_
    have c1 : n % ws.length ≤ ws.length := Nat.le_of_lt (Nat.mod_lt _ n0)
    walk_at "go"
    refine r_row T R fun r1 er1 => ?_
    walk_at "go"
    refine r_slt er1 fun b H1 s1 eb => ?_
    have R1 := Same.roll s1 R
    walk_at "go"
    refine r_row T R1 fun r2 er2 => ?_
    walk_at "go"
    refine r_slt er2 fun c H2 s2 ec => ?_
    have eb2 := Same.tup s2 eb
    have e1 := cut_from ws (n % ws.length) c1
    have e2 := cut_to ws (n % ws.length) c1
    refine r_catt (xs := iv (ws.drop (n % ws.length))) (ys := iv (ws.take (n % ws.length))) (by rw [← e1]; exact eb2) (by rw [← e2]; exact ec) ?_ fun d H3 s3 ed => ?_
    · rw [List.length_map, List.length_map, List.length_drop, List.length_take]
      exact small2 (by omega)
    walk_at "go"
    refine r_list (.inr ed) fun l H4 n4 s4 el => ?_
    walk_at "go"
    refine r_makeV fun q dx H5 n5 s5 e5 => ?_
    refine ⟨q, l, dx, tornL ws n, rfl, e5, sq_of ?_, R.row.torn n, fun H6 b6 R6 => ⟨rfl, ?_⟩⟩
    · rw [s5 _ _ el]
      unfold tornL
      rw [← List.map_append]
    · have sA : Same H H4 := s1.trans (s2.trans (s3.trans s4))
      exact k q H6 (But.same (sA.trans s5) (sA.free n5) b6)
/-! ### values to be refused, as the laws have them -/
/-- v is refused from 0 on, its repr is t -/
structure OddV (K : PySem.W.Frag) (H : Hp) (v : V) (t : Str) : Prop where
  bad : BadNum K H v 0
  show_ : ShowV K H v t
theorem whole_non : WholeIs K H .non false := ⟨_, false, false, .base .non, kit_ty (by decide +kernel), kit_ty (by decide +kernel), rfl⟩
theorem whole_bl (b : Bool) : WholeIs K H (.bl b) false := ⟨_, true, true, .base (.bl b), kit_ty (by decide +kernel), kit_ty (by decide +kernel), rfl⟩
theorem whole_str (x : Str) : WholeIs K H (.str x) false := ⟨_, false, false, .base (.str x), kit_ty (by decide +kernel), kit_ty (by decide +kernel), rfl⟩
theorem whole_lst {a : Addr} {xs : List V} (h : SqL K H a xs) : WholeIs K H (.ref a) false := ⟨_, false, false, ty_list h, kit_ty (by decide +kernel), kit_ty (by decide +kernel), rfl⟩
theorem whole_tup {a : Addr} {xs : List V} (h : H a = some (.tup xs)) : WholeIs K H (.ref a) false := ⟨_, false, false, ty_tup h, kit_ty (by decide +kernel), kit_ty (by decide +kernel), rfl⟩
theorem whole_dic {a : Addr} {kvs : List (Key × V)} (h : H a = some (.dK kvs)) : WholeIs K H (.ref a) false := ⟨_, false, false, .base (.dK h), kit_ty (by decide +kernel), kit_ty (by decide +kernel), rfl⟩
end

/-! ## The law's own sums of strips -/
section
variable {P : Program} {w : World} {K : PySem.W.Frag} {mg : Str → Option Value} {base : Heap} {H : Hp} {Q : VK}
theorem win_laps {ws : List Int} (n0 : 0 < ws.length) (n r : Nat) : ∀ q, win ws n (r + ws.length * q) = win ws n r + q * ws.sum
  | 0 => by simp
  | q + 1 => by
    rw [Nat.mul_add, Nat.mul_one, ← Nat.add_assoc, win_lap n0, win_laps n0 n r q, Int.natCast_add, Int.add_mul]
    simp only [Int.natCast_one, Int.one_mul]
    omega
theorem st_at {ws : List Int} (n0 : 0 < ws.length) (k : Nat) : ws[k % ws.length]? = some (st ws k) := by
  unfold st
  rw [List.getElem?_eq_getElem (Nat.mod_lt _ n0)]
  rfl
def spSum (K : PySem.W.Frag) : Sp := fun vs H Q _ => ∃ (a : Addr) (ws : List Int) (n m : Nat), vs = [.ref a, .int n, .int m] ∧ SqL K H a (iv ws) ∧ Row ws ∧ n < 2 ^ 110 ∧ m < 2 ^ 110 ∧ Q (.int (win ws n m)) H
theorem ok_l_sum (T : Txt K mg) : FnOk P w K mg base CX0 1 (He.fAd K ("_law_sum", none)) T.fd_l_sum ["_law_some", "_law_start", "_law_length"] (spSum K) := by
  refine T.F_l_sum.ok sc_l_sum (fun vs H Q E h => ?_) (fun cdv A outer s H vs Q E hr h => ⟨_, PSs.nox ((pss_cons (ps_par (i := 3) (j := 4) rfl sc_l_sum.nd rfl rfl (by decide) rfl rfl (pa_cons (pe_op op_fdivW (pv 2) (pe_callB RC.call_lenS rfl T.fr_len (by decide +kernel) (pa_cons (pv 0) pa_nil))) (pa_cons (pe_op op_mod (pv 2) (pe_callB RC.call_lenS rfl T.fr_len (by decide +kernel) (pa_cons (pv 0) pa_nil))) pa_nil)) rfl)
      (pss_cons (ps_set (i := 5) sc_l_sum.nd rfl (by first | exact .inl rfl | exact .inr rfl) (pe_op op_mulW (pv 3) (pe_callB (cr_sum rfl) rfl T.fr_sum (by decide +kernel) (pa_cons (pv 0) pa_nil))))
      (pss_cons (ps_for PassesOwn.never rfl (RC.pi_rangeL rfl T.fr_range (pa_cons (pv 1) (pa_cons (pe_op op_add (pv 1) (pv 4)) pa_nil))) (pg_name (i := 6) sc_l_sum.nd rfl (by first | exact .inl rfl | exact .inr rfl))
      (pss_one (ps_set (i := 5) sc_l_sum.nd rfl (by first | exact .inl rfl | exact .inr rfl) (pe_op op_add (pv 5) (pe_ix ix_list (pv 0) (pe_op op_mod (pv 6) (pe_callB RC.call_lenS rfl T.fr_len (by decide +kernel) (pa_cons (pv 0) pa_nil))) (fun _ _ => rfl))))))
      (pss_one (ps_ret (pv 5))))))), ?_⟩)
  · obtain ⟨_, _, _, _, rfl, _⟩ := h
    rfl
  · try dsimp only [L2.cxOf, L2.Cx.nox, L2.Cx.wish]
    obtain ⟨a, ws, n, m, rfl, hx, R, hn, hm, k⟩ := h
    have n0 := R.n0
    have l1 := R.len
    have q2 := R.sumB
    have q1 := R.sum0
    walk_at "go"
    refine r_len (n := (ws.length : Int)) (.inl hx) (by rw [List.length_map]) ?_
    refine r_I (wide_div (b := 20) (by omega) (by omega) (by decide) (by decide)) ?_
    walk_at "go"
    refine r_len (n := (ws.length : Int)) (.inl hx) (by rw [List.length_map]) ?_
    refine r_I (by omega) ?_
    walk_at "go"
    refine r_sum hx ?_
    have hd : ((m : Int) / (ws.length : Int)).natAbs < 2 ^ 110 := by
      have e : (m : Int) / (ws.length : Int) = ((m / ws.length : Nat) : Int) := rfl
      rw [e, Int.natAbs_natCast]
      exact Nat.lt_of_le_of_lt (Nat.div_le_self _ _) hm
    refine r_I (wide_mul (a := 110) (b := 210) hd (by omega) (by decide) (by decide) (by decide)) ?_
    walk_at "go"
    have em : (m : Int) % (ws.length : Int) = ((m % ws.length : Nat) : Int) := rfl
    refine r_rngL ?_
    walk_at "go"
    refine r_rngL' (n := m % ws.length) (by rw [em]; omega) (for_range (fun i σ H' => ∃ v6, σ = [some (.ref a), some (.int n), some (.int m), some (.int ((m : Int) / (ws.length : Int))), some (.int ((m : Int) % (ws.length : Int))), some (.int ((m : Int) / (ws.length : Int) * ws.sum + up (fun k => st ws (n + k)) i)), v6] ∧ H' = H) ⟨none, by rw [show up (fun k => st ws (n + k)) 0 = 0 from rfl, Int.add_zero]; rfl, rfl⟩ ?_ ?_)
    · rintro i σ H' hi ⟨v6, rfl, rfl⟩
      walk_at "go"
      refine r_len (n := (ws.length : Int)) (.inl hx) (by rw [List.length_map]) ?_
      refine r_I (by omega) ?_
      refine r_ixl hx (at_ints (j := (n + i) % ws.length) (st_at n0 (n + i))) ?_
      walk_at "go"
      refine ⟨some (.int ((n : Int) + (i : Nat))), ?_, rfl⟩
      rw [Int.add_assoc]
      rfl
    rintro σ H' ⟨v6, rfl, rfl⟩
    walk_at "go"
    have e : win ws n m = (m : Int) / (ws.length : Int) * ws.sum + up (fun k => st ws (n + k)) (m % ws.length) := by
      have z := win_laps n0 n (m % ws.length) (m / ws.length)
      rw [Nat.mod_add_div] at z
      rw [z, win_up n0, Int.add_comm]
      rfl
    rw [← e]
    exact k
end

-- behind a refusal that was caught: its value's repr
section
variable {P : Program} {w : World} {K : PySem.W.Frag} {mg : Str → Option Value} {base : Heap} {H : Hp} {Q : VK}
def spCaught (K : PySem.W.Frag) : Sp := fun vs H Q _ => ∃ (p : Addr) (ws : List Int) (dr : Int) (v1 v2 : V), vs = [.ref p, .int dr, v1, v2] ∧ RollAt K H p ws ∧
  ((∃ v t, ShowV K H v t ∧ ((dr = 0 ∧ ((v = v1 ∧ BadNum K H v1 0) ∨ ∃ n : Nat, v1 = .int n ∧ v = v2 ∧ BadNum K H v2 0)) ∨ (dr ≠ 0 ∧ v = v1 ∧ BadNum K H v1 0)) ∧ ∀ H', Same H H' → Q (.str t) H') ∨
    (((dr = 0 ∧ ∃ n m : Nat, v1 = .int n ∧ v2 = .int m ∧ n + m < 2 ^ 200) ∨ (dr ≠ 0 ∧ ∃ n : Nat, v1 = .int n)) ∧ ∀ H', Same H H' → Q .non H'))
theorem ShowV.same {H' : Hp} (s : Same H H') {v : V} {t : Str} (h : ShowV K H v t) : ShowV K H' v t := by
  cases h with
  | data h1 h2 h3 h4 h5 => exact .data (Same.dp s h1) h2 h3 h4 h5
  | edict e => exact .edict (s _ _ e)
theorem r_methW {C : Addr} {m : Str} {sp : Sp} {W : WX} {ta : TE} {tA : TA} {σ : L2.St} (h : ta σ H fun x H1 => MethV C m sp x (fun P H => tA σ H P) [] H1 Q (WE W σ)) : tMethW C m sp W ta tA σ H Q := h
theorem r_isN {x : V} {R : V → V → Prop} (h : Q (.bl (decide (x = .non))) H) : (fun x y H Q => y = V.non ∧ Q (.bl (decide (x = .non))) H : R2) x .non H Q := ⟨rfl, h⟩
theorem ok_l_caught (T : Txt K mg) : FnOkG PR w K mg base CX0 5 (He.fAd K ("_law_caught", none)) T.fd_l_caught ["_law_roll", "_law_door", "_law_one", "_law_other"] (spCaught K) := by
  refine okG T.F_l_caught sc_l_caught (fun vs H Q E h => ?_) (fun cdv A outer s H vs Q E hg hr h => ⟨_, PSs.nox ((pss_cons (ps_set (i := 4) sc_l_caught.nd rfl (by first | exact .inl rfl | exact .inr rfl) pe_non)
      (pss_cons (RC.ps_keep (i := 5) (j := 4) rfl rfl rfl sc_l_caught.nd rfl rfl (by decide) rfl rfl ⟨rfl, by decide, .inl T.g_InvalidNumber⟩ (by decide) (by decide) rfl (fun W pn xe tk _ => (pss_one (ps_if (pt_cmpR op_eq (pv 1) pe_int (nomark _)) (pss_one (ps_expr (RC.pe_methW (pv 0) T.cl_Roll T.m_Roll_total (okx_Roll_total T) (hr.mono (by decide)) (b_Roll_total T) tk (pa_cons (pv 2) (pa_cons (pv 3) pa_nil))))) (pss_one (ps_expr (RC.pe_methW (pv 0) T.cl_Roll T.m_Roll_torn (okx_Roll_torn T) (hr.mono (by decide)) (b_Roll_torn T) tk (pa_cons (pv 2) pa_nil))))))))
      (pss_one (ps_ret (pe_ifExp (pt_cmpR op_isN (pv 4) pe_non (nomark _)) pe_non (pe_callB (RC.call_reprX hg (hr.mono (by decide))) rfl T.fr_repr (by decide +kernel) (pa_cons (RC.pe_fldE (pv 4)) pa_nil)))))))), ?_⟩)
  · obtain ⟨_, _, _, _, _, rfl, _⟩ := h
    rfl
  · try dsimp only [L2.cxOf, L2.Cx.nox, L2.Cx.wish]
    obtain ⟨p, ws, dr, v1, v2, rfl, R, h⟩ := h
    walk_at "go"
    by_cases hdr : dr = 0
    · subst hdr
      refine if_t rfl ?_
      walk_at "go"
      refine r_methW ?_
      walk_at "go"
      refine r_rollm R (by decide +kernel) (by decide +kernel) ?_
      walk_at "go"
      rcases h with ⟨v, t, sh, c, k⟩ | ⟨c, k⟩
      · rcases c with ⟨_, c⟩ | ⟨z, _⟩
        · rcases c with ⟨rfl, hb⟩ | ⟨n, rfl, rfl, hb⟩
          · refine ⟨p, ws, v, v2, rfl, R, .inl ⟨hb, fun d hd => ⟨RC.exm_self T.e_InvalidNumber T.es_InvalidNumber, fun a ha => ?_⟩⟩⟩
            have s2 := (same_new hd).trans (same_new ha (o := ErrO (Value.ref (ga K "InvalidNumber")) (some d) a))
            dsimp only
            walk_at "go"
            refine ⟨rfl, ?_⟩
            walk_at "go"
            refine if_f (decide_eq_false fun z => by cases z) ?_
            walk_at "go"
            refine r_fldE ?_
            walk_at "go"
            refine ⟨a, _, _, d, _, rfl, upd_same, T.e_InvalidNumber, by rw [upd_ne (ne_of_none upd_same ha)]; exact upd_same, ?_⟩
            walk_at "go"
            exact ⟨_, _, rfl, ShowV.same s2 sh, k _ s2⟩
          · refine ⟨p, ws, .int n, v, rfl, R, .inr ⟨n, rfl, .inl ⟨hb, fun d hd => ⟨RC.exm_self T.e_InvalidNumber T.es_InvalidNumber, fun a ha => ?_⟩⟩⟩⟩
            have s2 := (same_new hd).trans (same_new ha (o := ErrO (Value.ref (ga K "InvalidNumber")) (some d) a))
            dsimp only
            walk_at "go"
            refine ⟨rfl, ?_⟩
            walk_at "go"
            refine if_f (decide_eq_false fun z => by cases z) ?_
            walk_at "go"
            refine r_fldE ?_
            walk_at "go"
            refine ⟨a, _, _, d, _, rfl, upd_same, T.e_InvalidNumber, by rw [upd_ne (ne_of_none upd_same ha)]; exact upd_same, ?_⟩
            walk_at "go"
            exact ⟨_, _, rfl, ShowV.same s2 sh, k _ s2⟩
        · exact absurd rfl z
      · rcases c with ⟨_, n, m, rfl, rfl, hnm⟩ | ⟨z, _⟩
        · refine ⟨p, ws, .int n, .int m, rfl, R, .inr ⟨n, rfl, .inr ⟨m, rfl, hnm, fun z => ?_⟩⟩⟩
          walk_at "go"
          refine ⟨rfl, ?_⟩
          walk_at "go"
          refine if_t rfl ?_
          walk_at "go"
          exact k _ (Same.refl _)
        · exact absurd rfl z
    refine if_f (decide_eq_false fun z => hdr (V.int.inj z)) ?_
    walk_at "go"
    refine r_methW ?_
    walk_at "go"
    refine r_rollm R (by decide +kernel) (by decide +kernel) ?_
    walk_at "go"
    rcases h with ⟨v, t, sh, c, k⟩ | ⟨c, k⟩
    · rcases c with ⟨z, _⟩ | ⟨_, rfl, hb⟩
      · exact absurd z hdr
      · refine ⟨p, ws, v, rfl, R, .inl ⟨hb, fun d hd => ⟨RC.exm_self T.e_InvalidNumber T.es_InvalidNumber, fun a ha => ?_⟩⟩⟩
        have s2 := (same_new hd).trans (same_new ha (o := ErrO (Value.ref (ga K "InvalidNumber")) (some d) a))
        dsimp only
        walk_at "go"
        refine ⟨rfl, ?_⟩
        walk_at "go"
        refine if_f (decide_eq_false fun z => by cases z) ?_
        walk_at "go"
        refine r_fldE ?_
        walk_at "go"
        refine ⟨a, _, _, d, _, rfl, upd_same, T.e_InvalidNumber, by rw [upd_ne (ne_of_none upd_same ha)]; exact upd_same, ?_⟩
        walk_at "go"
        exact ⟨_, _, rfl, ShowV.same s2 sh, k _ s2⟩
    · rcases c with ⟨z, _⟩ | ⟨_, n, rfl⟩
      · exact absurd z hdr
      · refine ⟨p, ws, .int n, rfl, R, .inr ⟨n, rfl, fun q H' s' => ?_⟩⟩
        walk_at "go"
        refine ⟨rfl, ?_⟩
        walk_at "go"
        refine if_t rfl ?_
        walk_at "go"
        exact k _ s'
def spRefused (K : PySem.W.Frag) : Sp := fun vs H Q _ => ∃ (p : Addr) (ws : List Int), vs = [.ref p] ∧ RollAt K H p ws ∧ ∀ H', Same H H' → Q (.bl true) H'
theorem TyX.same {H' : Hp} (s : Same H H') {v : V} {t : Value} (h : TyX K H v t) : TyX K H' v t := by
  cases h with
  | base h =>
    cases h with
    | non => exact .base .non
    | bl x => exact .base (.bl x)
    | int i => exact .base (.int i)
    | str x => exact .base (.str x)
    | flt x => exact .base (.flt x)
    | lst e => exact .base (.lst (s _ _ e))
    | frz e => exact .base (.frz (s _ _ e))
    | tup e => exact .base (.tup (s _ _ e))
    | dK e => exact .base (.dK (s _ _ e))
    | dT e => exact .base (.dT (s _ _ e))
    | ins e c h1 h2 h3 h4 => exact .base (.ins (s _ _ e) c h1 h2 h3 h4)
  | byt b => exact .byt b
  | set e => exact .set (s _ _ e)
  | kList e c => exact .kList e c
  | kTuple e c => exact .kTuple e c
  | kDict e c => exact .kDict e c
  | fTuple e => exact .fTuple (s _ _ e)
  | fDict e => exact .fDict (s _ _ e)
theorem BadNum.same {H' : Hp} (s : Same H H') {v : V} {l : Int} (h : BadNum K H v l) : BadNum K H' v l := by
  rcases h with ⟨t, b1, b2, ty, r⟩ | h
  · exact .inl ⟨t, b1, b2, TyX.same s ty, r⟩
  · exact .inr h
theorem OddV.same {H' : Hp} (s : Same H H') {v : V} {t : Str} (h : OddV K H v t) : OddV K H' v t := ⟨h.bad.same s, h.show_.same s⟩
theorem odd_non : OddV K H .non "None" := ⟨.inl whole_non, .data (d := .none) .non (by simp [PyData.showable]) (by simp [PyData.canLay0]) (by simp [PyData.depth]) (by decide +kernel)⟩
theorem odd_bl (b : Bool) : ∃ t, OddV K H (.bl b) t := ⟨_, .inl (whole_bl b), .data (d := .bool b) (.bl b) (by simp [PyData.showable]) (by simp [PyData.canLay0]) (by simp [PyData.depth]) (by cases b <;> decide +kernel)⟩
theorem odd_int {i : Int} (h : i < 0) (hs : decide (i.natAbs.log2 < 1920) = true) (hl : (PyData.shown (.int i)).length ≤ sizeLine) : ∃ t, OddV K H (.int i) t := ⟨_, .inr ⟨i, rfl, h⟩, .data (d := .int i) (.int i) (by simpa [PyData.showable] using hs) (by simp [PyData.canLay0]) (by simp [PyData.depth]) hl⟩
theorem odd_str {x : Str} (ho : PyData.canLay0 (.str x) = true) (hl : (PyData.shown (.str x)).length ≤ sizeLine) : ∃ t, OddV K H (.str x) t := ⟨_, .inl (whole_str x), .data (d := .str x) (.str x) (by simp [PyData.showable]) ho (by simp [PyData.depth]) hl⟩
theorem odd_lst {a : Addr} {ns : List Int} (h : SqL K H a (iv ns)) (hs : (dI ns).showable = true) (hl : (dI ns).shown.length ≤ sizeLine) : ∃ t, OddV K H (.ref a) t := ⟨_, .inl (whole_lst h), .data (dp_ints h) hs (by simp [PyData.canLay0, lay_ints]) (by simp [PyData.depth, dep_ints]) hl⟩
theorem odd_tup {a : Addr} {ns : List Int} (h : H a = some (.tup (iv ns))) (hs : (tI ns).showable = true) (hl : (tI ns).shown.length ≤ sizeLine) : ∃ t, OddV K H (.ref a) t := ⟨_, .inl (whole_tup h), .data (dp_tints (st_of h)) hs (by simp [PyData.canLay0, lay_ints]) (by simp [PyData.depth, dep_ints]) hl⟩
theorem odd_dic {a : Addr} (h : H a = some (.dK [])) : ∃ t, OddV K H (.ref a) t := ⟨_, .inl (whole_dic h), .edict h⟩
theorem r_dnew {σ : L2.St} (h : ∀ p H1, H p = none → Same H H1 → H1 p = some (.dK []) → Q (.ref p) H1) : tDNewK σ H Q := r_new h
theorem ns_f {x y : Str} (h : x = y) : (!decide (V.str x = V.str y)) = false := by
  rw [h, decide_eq_true rfl]
  rfl
theorem ok_l_refused (T : Txt K mg) : FnOkG PR w K mg base CX0 6 (He.fAd K ("_law_refused", none)) T.fd_l_refused ["_law_roll"] (spRefused K) := by
  refine okG T.F_l_refused sc_l_refused (fun vs H Q E h => ?_) (fun cdv A outer s H vs Q E hg hr h => ⟨_, PSs.nox ((pss_cons (ps_for PassesOwn.never rfl (pi_list (pe_lst (pa_cons pe_non (pa_cons (pe_un un_neg pe_int) (pa_cons pe_bl (pa_cons pe_str (pa_cons (pe_lst (pa_cons pe_int pa_nil)) (pa_cons (pe_tup (pa_cons pe_int pa_nil)) (pa_cons pe_dnewK (pa_cons (pe_un un_neg (pe_op op_pow pe_int pe_int)) pa_nil)))))))))) (pg_name (i := 1) sc_l_refused.nd rfl (by first | exact .inl rfl | exact .inr rfl))
      (pss_cons (ps_for PassesOwn.never rfl (pi_list (pe_lst (pa_cons (pe_tup (pa_cons (pv 1) (pa_cons pe_non pa_nil))) (pa_cons (pe_tup (pa_cons (pv 1) (pa_cons pe_int pa_nil))) (pa_cons (pe_tup (pa_cons pe_int (pa_cons (pv 1) pa_nil))) pa_nil))))) (pg_tup rfl (pgs_cons (pg_name (i := 2) sc_l_refused.nd rfl (by first | exact .inl rfl | exact .inr rfl)) (pgs_cons (pg_name (i := 3) sc_l_refused.nd rfl (by first | exact .inl rfl | exact .inr rfl)) pgs_nil)))
      (pss_one (ps_if (pt_cmpR op_ne (RC.pe_callG (ok_l_caught T) hg (hr.mono (by decide)) rfl T.g_l_caught T.F_l_caught.kp (b_l_caught T) .nil pass0 (pa_cons (pv 0) (pa_cons pe_int (pa_cons (pv 2) (pa_cons (pv 3) pa_nil))))) (pe_callB (RC.call_reprX hg (hr.mono (by decide))) rfl T.fr_repr (by decide +kernel) (pa_cons (pv 1) pa_nil)) (nomark _)) (pss_one (ps_ret pe_bl)) pss_nil)))
      (pss_one (ps_if (pt_cmpR op_ne (RC.pe_callG (ok_l_caught T) hg (hr.mono (by decide)) rfl T.g_l_caught T.F_l_caught.kp (b_l_caught T) .nil pass0 (pa_cons (pv 0) (pa_cons pe_int (pa_cons (pv 1) (pa_cons pe_non pa_nil))))) (pe_callB (RC.call_reprX hg (hr.mono (by decide))) rfl T.fr_repr (by decide +kernel) (pa_cons (pv 1) pa_nil)) (nomark _)) (pss_one (ps_ret pe_bl)) pss_nil))))
      (pss_one (ps_ret (pe_and (pe_cmpR op_isN (RC.pe_callG (ok_l_caught T) hg (hr.mono (by decide)) rfl T.g_l_caught T.F_l_caught.kp (b_l_caught T) .nil pass0 (pa_cons (pv 0) (pa_cons pe_int (pa_cons pe_int (pa_cons pe_int pa_nil))))) pe_non (nomark _)) (pe_one (pe_cmpR op_isN (RC.pe_callG (ok_l_caught T) hg (hr.mono (by decide)) rfl T.g_l_caught T.F_l_caught.kp (b_l_caught T) .nil pass0 (pa_cons (pv 0) (pa_cons pe_int (pa_cons pe_int (pa_cons pe_non pa_nil))))) pe_non (nomark _)))))))), ?_⟩)
  · obtain ⟨_, _, rfl, _⟩ := h
    rfl
  · try dsimp only [L2.cxOf, L2.Cx.nox, L2.Cx.wish]
    obtain ⟨p, ws, rfl, R, k⟩ := h
    walk_at "go"
    refine r_mk (by show 1 ≤ sizeLine; decide) fun l1 H1 n1 s1 e1 => ?_
    walk_at "go"
    refine r_mk (by show 1 ≤ sizeLine; decide) fun t1 H2 n2 s2 e2 => ?_
    walk_at "go"
    refine r_dnew fun d1 H3 n3 s3 e3 => ?_
    walk_at "go"
    refine r_I ⟨by decide, by decide, by decide⟩ ?_
    walk_at "go"
    refine r_mk (by show 8 ≤ sizeLine; decide) fun L H4 n4 s4 e4 => ?_
    have sAll : Same H H4 := s1.trans (s2.trans (s3.trans s4))
    have odd : ∀ x ∈ [V.non, V.int (-1), V.bl true, V.str "0", V.ref l1, V.ref t1, V.ref d1, V.int (-10 ^ (20 : Int).toNat)], ∃ t, OddV K H4 x t := fun x hx => by
      simp only [List.mem_cons, List.not_mem_nil, or_false] at hx
      rcases hx with rfl | rfl | rfl | rfl | rfl | rfl | rfl | rfl
      · exact ⟨_, odd_non⟩
      · exact odd_int (by decide) (by decide +kernel) (by decide +kernel)
      · exact odd_bl true
      · exact odd_str (by decide +kernel) (by decide +kernel)
      · exact odd_lst (ns := [0]) (sq_of (s4 _ _ (s3 _ _ (s2 _ _ e1)))) (by decide +kernel) (by decide +kernel)
      · exact odd_tup (ns := [0]) (s4 _ _ (s3 _ _ e2)) (by decide +kernel) (by decide +kernel)
      · exact odd_dic (s4 _ _ e3)
      · exact odd_int (by decide) (by decide +kernel) (by decide +kernel)
    refine r_ilist' (sq_of e4) (for_list (K := K) (a := L) (fun i σ H' => ∃ v1 v2 v3, σ = [some (.ref p), v1, v2, v3] ∧ Same H4 H') ⟨_, _, _, rfl, Same.refl _⟩ (fun i σ H' _ ⟨_, _, _, _, e⟩ => sq_of (e _ _ e4)) ?_ ?_)
    · rintro i x σ H5 hi ⟨v1, v2, v3, rfl, s5⟩
      obtain ⟨t, O4⟩ := odd x (List.mem_of_getElem? hi)
      have O := O4.same s5
      have R5 := Same.roll (sAll.trans s5) R
      walk_at "go"
      refine r_mk (by show 2 ≤ sizeLine; decide) fun ta H6 n6 s6 e6 => ?_
      walk_at "go"
      refine r_mk (by show 2 ≤ sizeLine; decide) fun tb H7 n7 s7 e7 => ?_
      walk_at "go"
      refine r_mk (by show 2 ≤ sizeLine; decide) fun tc H8 n8 s8 e8 => ?_
      walk_at "go"
      refine r_mk (by show 3 ≤ sizeLine; decide) fun M H9 n9 s9 e9 => ?_
      have s59 : Same H5 H9 := s6.trans (s7.trans (s8.trans s9))
      have three : ∀ y ∈ [V.ref ta, V.ref tb, V.ref tc], ∃ u a b, y = .ref u ∧ H9 u = some (.tup [a, b]) ∧ (a = x ∨ ∃ n : Nat, a = .int n ∧ b = x) := fun y hy => by
        simp only [List.mem_cons, List.not_mem_nil, or_false] at hy
        rcases hy with rfl | rfl | rfl
        · exact ⟨ta, _, _, rfl, s9 _ _ (s8 _ _ (s7 _ _ e6)), .inl rfl⟩
        · exact ⟨tb, _, _, rfl, s9 _ _ (s8 _ _ e7), .inl rfl⟩
        · exact ⟨tc, _, _, rfl, s9 _ _ e8, .inr ⟨0, rfl, rfl⟩⟩
      refine r_ilist' (sq_of e9) (for_list (K := K) (a := M) (fun j σ H' => ∃ v2 v3, σ = [some (.ref p), some x, v2, v3] ∧ Same H9 H') ⟨_, _, rfl, Same.refl _⟩ (fun i σ H' _ ⟨_, _, _, e⟩ => sq_of (e _ _ e9)) ?_ ?_)
      · rintro j y σ H10 hj ⟨v2, v3, rfl, s10⟩
        obtain ⟨u, a, b, rfl, eu, c⟩ := three y (List.mem_of_getElem? hj)
        have sx := s59.trans s10
        refine r_gtup (st_of (s10 _ _ eu)) rfl ?_
        walk_at "go"
        have cc : (a = x ∧ BadNum K H10 a 0) ∨ ∃ n : Nat, a = .int n ∧ b = x ∧ BadNum K H10 b 0 := by
          rcases c with rfl | ⟨n, rfl, rfl⟩
          · exact .inl ⟨rfl, O.bad.same sx⟩
          · exact .inr ⟨n, rfl, rfl, O.bad.same sx⟩
        refine ⟨p, ws, 0, a, b, rfl, Same.roll sx R5, .inl ⟨x, t, O.show_.same sx, .inl ⟨rfl, ?_⟩, fun H11 s11 => ?_⟩⟩
        · rcases cc with ⟨e, z⟩ | ⟨n, e, e', z⟩
          · exact .inl ⟨e.symm, z⟩
          · exact .inr ⟨n, e, e'.symm, z⟩
        walk_at "go"
        refine ⟨_, _, rfl, O.show_.same (sx.trans s11), ?_⟩
        walk_at "go"
        refine if_f (ns_f rfl) ?_
        walk_at "go"
        exact ⟨_, _, rfl, s10.trans s11⟩
      rintro σ H10 ⟨v2, v3, rfl, s10⟩
      have sx := s59.trans s10
      walk_at "go"
      refine ⟨p, ws, 1, x, .non, rfl, Same.roll sx R5, .inl ⟨x, t, O.show_.same sx, .inr ⟨by decide, rfl, O.bad.same sx⟩, fun H11 s11 => ?_⟩⟩
      walk_at "go"
      refine ⟨_, _, rfl, O.show_.same (sx.trans s11), ?_⟩
      walk_at "go"
      refine if_f (ns_f rfl) ?_
      walk_at "go"
      exact ⟨_, _, _, rfl, s5.trans (sx.trans s11)⟩
    rintro σ H5 ⟨v1, v2, v3, rfl, s5⟩
    have R5 := Same.roll (sAll.trans s5) R
    walk_at "go"
    refine ⟨p, ws, 0, .int 0, .int 0, rfl, R5, .inr ⟨.inl ⟨rfl, 0, 0, rfl, rfl, by decide⟩, fun H6 s6 => ?_⟩⟩
    walk_at "go"
    refine ⟨rfl, ?_⟩
    walk_at "go"
    refine if_t rfl ?_
    walk_at "go"
    refine ⟨p, ws, 1, .int 0, .non, rfl, Same.roll s6 R5, .inr ⟨.inr ⟨by decide, 0, rfl⟩, fun H7 s7 => ?_⟩⟩
    walk_at "go"
    refine ⟨rfl, ?_⟩
    exact k _ (sAll.trans (s5.trans (s6.trans s7)))
def spLaw (K : PySem.W.Frag) : Sp := fun vs H Q _ => ∃ (a : Addr) (ns : List Int), vs = [.ref a] ∧ SqL K H a (iv ns) ∧ ns.length ≤ 63 ∧ ∀ H', Q (.bl true) H'
theorem up_st {ws : List Int} (n0 : 0 < ws.length) (n : Nat) : win ws 0 n = up (st ws) n := by
  unfold win
  rw [upto_zero, upto_up n0, Nat.zero_add]
  omega
theorem win_one {ws : List Int} (n0 : 0 < ws.length) (n : Nat) : win ws n 1 = st ws n := by
  rw [win_up n0]
  simp [up]
theorem torn_len {ws : List Int} : tornL ws ws.length = ws := by
  unfold tornL
  simp
theorem torn_0 {ws : List Int} : tornL ws 0 = ws := by
  unfold tornL
  simp
-- [a, b, 10 ** 30][draw of 3], drawn of
theorem ok_law (T : Txt K mg) : FnOkG PR w K mg base CX0 7 (He.fAd K ("law", none)) T.fd_law ["_law_script"] (spLaw K) := by
  refine okG T.F_law sc_law (fun vs H Q E h => ?_) (fun cdv A outer s H vs Q E hg hr h => ⟨_, PSs.nox ((pss_cons (ps_for PassesOwn.never rfl (pi_range1 rfl T.fr_range (pa_cons pe_int pa_nil)) (pg_name (i := 1) sc_law.nd rfl (by first | exact .inl rfl | exact .inr rfl))
      (pss_cons (ps_set (i := 2) sc_law.nd rfl (by first | exact .inl rfl | exact .inr rfl) (pe_call (ok_l_purse T) (hr.mono (by decide)) rfl T.g_l_purse T.F_l_purse.kp (b_l_purse T) .nil pass0 (pa_cons (pv 0) (pa_cons (pv 1) pa_nil))))
      (pss_cons (ps_set (i := 3) sc_law.nd rfl (by first | exact .inl rfl | exact .inr rfl) (pe_call (ok_l_worths_drawn T) (hr.mono (by decide)) rfl T.g_l_worths_drawn T.F_l_worths_drawn.kp (b_l_worths_drawn T) .nil pass0 (pa_cons (pv 2) (pa_cons pe_int (pa_cons (pe_ix ix_list (pe_lst (pa_cons pe_int (pa_cons pe_int pa_nil))) (pe_call (ok_l_draw T) (hr.mono (by decide)) rfl T.g_l_draw T.F_l_draw.kp (b_l_draw T) .nil pass0 (pa_cons (pv 2) (pa_cons pe_int pa_nil))) (fun _ _ => rfl)) pa_nil)))))
      (pss_cons (ps_set (i := 4) sc_law.nd rfl (by first | exact .inl rfl | exact .inr rfl) (pe_make T.mk_Roll (ok_Roll_init T) (hr.mono (by decide)) rfl T.g_Roll (b_Roll_init T) .nil pass0 (pa_cons (pv 3) pa_nil)))
      (pss_cons (ps_for PassesOwn.never rfl (pi_range1 rfl T.fr_range (pa_cons pe_int pa_nil)) (pg_name (i := 5) sc_law.nd rfl (by first | exact .inl rfl | exact .inr rfl))
      (pss_cons (ps_set (i := 6) sc_law.nd rfl (by first | exact .inl rfl | exact .inr rfl) (pe_call (ok_l_draw T) (hr.mono (by decide)) rfl T.g_l_draw T.F_l_draw.kp (b_l_draw T) .nil pass0 (pa_cons (pv 2) (pa_cons (pe_ix ix_list (pe_lst (pa_cons pe_int (pa_cons pe_int (pa_cons (pe_op op_pow pe_int pe_int) pa_nil)))) (pe_call (ok_l_draw T) (hr.mono (by decide)) rfl T.g_l_draw T.F_l_draw.kp (b_l_draw T) .nil pass0 (pa_cons (pv 2) (pa_cons pe_int pa_nil))) (fun _ _ => rfl)) pa_nil))))
      (pss_cons (ps_set (i := 7) sc_law.nd rfl (by first | exact .inl rfl | exact .inr rfl) (pe_call (ok_l_draw T) (hr.mono (by decide)) rfl T.g_l_draw T.F_l_draw.kp (b_l_draw T) .nil pass0 (pa_cons (pv 2) (pa_cons (pe_ix ix_list (pe_lst (pa_cons pe_int (pa_cons pe_int (pa_cons (pe_op op_pow pe_int pe_int) pa_nil)))) (pe_call (ok_l_draw T) (hr.mono (by decide)) rfl T.g_l_draw T.F_l_draw.kp (b_l_draw T) .nil pass0 (pa_cons (pv 2) (pa_cons pe_int pa_nil))) (fun _ _ => rfl)) pa_nil))))
      (pss_cons (ps_if (pt_cmpR op_ne (pe_meth (pv 4) T.cl_Roll T.m_Roll_total (ok_Roll_total T) (hr.mono (by decide)) (b_Roll_total T) .nil pass0 (pa_cons (pv 6) (pa_cons (pv 7) pa_nil))) (pe_call (ok_l_sum T) (hr.mono (by decide)) rfl T.g_l_sum T.F_l_sum.kp (b_l_sum T) .nil pass0 (pa_cons (pv 3) (pa_cons (pv 6) (pa_cons (pv 7) pa_nil)))) (nomark _)) (pss_one (ps_ret pe_bl)) pss_nil)
      (pss_cons (ps_set (i := 8) sc_law.nd rfl (by first | exact .inl rfl | exact .inr rfl) (pe_op op_mod (pe_callTy RC.call_intS rfl T.fr_int (by decide +kernel) (pa_cons (pv 6) pa_nil)) (pe_callB RC.call_lenS rfl T.fr_len (by decide +kernel) (pa_cons (pv 3) pa_nil))))
      (pss_cons (ps_set (i := 9) sc_law.nd rfl (by first | exact .inl rfl | exact .inr rfl) (pe_meth (pv 4) T.cl_Roll T.m_Roll_torn (ok_Roll_torn T) (hr.mono (by decide)) (b_Roll_torn T) .nil pass0 (pa_cons (pv 6) pa_nil)))
      (pss_one (ps_if (PW.pt (pw_or (pt_cmpR (op_neD hr.units) (pe_meth0 (pv 9) T.cl_Roll T.m_Roll_worths (ok_Roll_worths T) (hr.mono (by decide)) (b_Roll_worths T) .nil pass0) (pe_op op_cat (pe_slice sl_list (pv 3) (po_some (pv 8)) po_none) (pe_slice sl_list (pv 3) po_none (po_some (pv 8)))) (nomark _)) (pw_or1 (pt_cmpR op_ne (pe_meth (pv 9) T.cl_Roll T.m_Roll_worth (ok_Roll_worth T) (hr.mono (by decide)) (b_Roll_worth T) .nil pass0 (pa_cons pe_int pa_nil)) (pe_meth (pv 4) T.cl_Roll T.m_Roll_worth (ok_Roll_worth T) (hr.mono (by decide)) (b_Roll_worth T) .nil pass0 (pa_cons (pe_op op_add (pv 6) pe_int) pa_nil)) (nomark _))))) (pss_one (ps_ret pe_bl)) pss_nil))))))))
      (pss_cons (ps_set (i := 10) sc_law.nd rfl (by first | exact .inl rfl | exact .inr rfl) pe_int)
      (pss_cons (ps_for PassesOwn.never rfl (pi_range1 rfl T.fr_range (pa_cons pe_int pa_nil)) (pg_name (i := 11) sc_law.nd rfl (by first | exact .inl rfl | exact .inr rfl))
      (pss_cons (ps_if (PW.pt (pw_or (pt_cmpR op_ne (pe_meth (pv 4) T.cl_Roll T.m_Roll_total (ok_Roll_total T) (hr.mono (by decide)) (b_Roll_total T) .nil pass0 (pa_cons pe_int (pa_cons (pv 11) pa_nil))) (pv 10) (nomark _)) (pw_or1 (pt_cmpR op_ne (pe_meth (pv 4) T.cl_Roll T.m_Roll_total (ok_Roll_total T) (hr.mono (by decide)) (b_Roll_total T) .nil pass0 (pa_cons (pv 11) (pa_cons pe_int pa_nil))) (pe_meth (pv 4) T.cl_Roll T.m_Roll_worth (ok_Roll_worth T) (hr.mono (by decide)) (b_Roll_worth T) .nil pass0 (pa_cons (pv 11) pa_nil)) (nomark _))))) (pss_one (ps_ret pe_bl)) pss_nil)
      (pss_one (ps_set (i := 10) sc_law.nd rfl (by first | exact .inl rfl | exact .inr rfl) (pe_op op_add (pv 10) (pe_ix ix_list (pv 3) (pe_op op_mod (pe_callTy RC.call_intS rfl T.fr_int (by decide +kernel) (pa_cons (pv 11) pa_nil)) (pe_callB RC.call_lenS rfl T.fr_len (by decide +kernel) (pa_cons (pv 3) pa_nil))) (fun _ _ => rfl)))))))
      (pss_cons (ps_if (PW.pt (pw_or (pt_cmpR (op_neD hr.units) (pe_meth0 (pe_meth0 (pv 4) T.cl_Roll T.m_Roll_mirrored (ok_Roll_mirrored T) (hr.mono (by decide)) (b_Roll_mirrored T) .nil pass0) T.cl_Roll T.m_Roll_worths (ok_Roll_worths T) (hr.mono (by decide)) (b_Roll_worths T) .nil pass0) (pe_revL (pv 3)) (nomark _)) (pw_or (pt_cmpR (RC.op_neR T (hr.mono (by decide))) (pe_meth0 (pe_meth0 (pv 4) T.cl_Roll T.m_Roll_mirrored (ok_Roll_mirrored T) (hr.mono (by decide)) (b_Roll_mirrored T) .nil pass0) T.cl_Roll T.m_Roll_mirrored (ok_Roll_mirrored T) (hr.mono (by decide)) (b_Roll_mirrored T) .nil pass0) (pv 4) (nomark _)) (pw_or1 (pt_cmpR (op_neD hr.units) (pe_meth0 (pv 4) T.cl_Roll T.m_Roll_worths (ok_Roll_worths T) (hr.mono (by decide)) (b_Roll_worths T) .nil pass0) (pv 3) (nomark _)))))) (pss_one (ps_ret pe_bl)) pss_nil)
      (pss_one (ps_if (PW.pt (pw_or (pt_cmpR (RC.op_neR T (hr.mono (by decide))) (pe_meth (pv 4) T.cl_Roll T.m_Roll_torn (ok_Roll_torn T) (hr.mono (by decide)) (b_Roll_torn T) .nil pass0 (pa_cons (pe_callB RC.call_lenS rfl T.fr_len (by decide +kernel) (pa_cons (pv 3) pa_nil)) pa_nil)) (pv 4) (nomark _)) (pw_or (pt_cmpR (RC.op_neR T (hr.mono (by decide))) (pe_meth (pv 4) T.cl_Roll T.m_Roll_torn (ok_Roll_torn T) (hr.mono (by decide)) (b_Roll_torn T) .nil pass0 (pa_cons pe_int pa_nil)) (pv 4) (nomark _)) (pw_or1 (pt_not (pt_val (RC.pe_callG (ok_l_refused T) hg (hr.mono (by decide)) rfl T.g_l_refused T.F_l_refused.kp (b_l_refused T) .nil pass0 (pa_cons (pv 4) pa_nil)))))))) (pss_one (ps_ret pe_bl)) pss_nil))))))))))
      (pss_one (ps_ret pe_bl)))), ?_⟩)
  · obtain ⟨_, _, rfl, _⟩ := h
    rfl
  · try dsimp only [L2.cxOf, L2.Cx.nox, L2.Cx.wish]
    obtain ⟨a, ns, rfl, hx, hns, k⟩ := h
    walk_at "go"
    refine r_rng1' (n := 4) rfl (by decide) (for_range (fun i σ H' => ∃ v1 v2 v3 v4 v5 v6 v7 v8 v9 v10 v11, σ = [some (.ref a), v1, v2, v3, v4, v5, v6, v7, v8, v9, v10, v11] ∧ Same H H') ⟨_, _, _, _, _, _, _, _, _, _, _, rfl, Same.refl _⟩ ?_ ?_)
    · rintro i σ H0 hi ⟨v1, v2, v3, v4, v5, v6, v7, v8, v9, v10, v11, rfl, sH⟩
      rw [Int.zero_add]
      walk_at "go"
      refine ⟨a, ns, i, rfl, Same.lst sH hx, by omega, fun p H1 np s1 hp => ?_⟩
      walk_at "go"
      refine r_mk (by show 2 ≤ sizeLine; decide) fun _ H2 n2 s2 e2 => ?_
      walk_at "go"
      refine r_draw (hp.same s2) (by omega) (by decide) fun z _ s3 hp3 zl => ?_
      walk_at "go"
      obtain ⟨g, eg, hg⟩ := pick2 (a := 9) (b := 80) (P := fun g => 1 ≤ g ∧ g < 2 ^ 110) (Int.natCast_nonneg z) zl (by decide) (by decide)
      refine r_ixl (sq_of (s3 _ _ (hp.ne n2).symm e2)) eg ?_
      walk_at "go"
      refine ⟨p, _, 12, g, rfl, hp3, by decide, by decide, hg, fun l ws H4 n4 b4 hp4 el l1 l2 hw => ?_⟩
      have rw0 : Row ws := ⟨fun e => (by rw [e] at l1; simp at l1), fun z hz => (hw z hz).1, fun z hz => (by have := (hw z hz).2; omega), by omega⟩
      have n0 := rw0.n0
      have l9 := rw0.len
      walk_at "go"
      refine r_makeV fun rr dx H5 n5 s5 e5 => ?_
      refine ⟨rr, l, dx, ws, rfl, e5, sq_of (s5 _ _ el), rw0, fun H6 b6 R6 => ⟨rfl, ?_⟩⟩
      have s46 : Same H4 H6 := But.same s5 n5 b6
      walk_at "go"
      have lp : l ≠ p := (hp3.ne n4).symm
      have sH6 : Same H H6 := (But.same (sH.trans (s1.trans s2)) (sH.free np) (s3.trans b4)).trans s46
      have pn : H p = none := sH.free np
      refine r_rng1' (n := 8) rfl (by decide) (for_range (fun i σ H' => ∃ v1 v5 v6 v7 v8 v9 v10 v11, σ = [some (.ref a), v1, some (.ref p), some (.ref l), some (.ref rr), v5, v6, v7, v8, v9, v10, v11] ∧ Same H H' ∧ Pu H' p (1000000 + 5 + 1000 + 30 * i) ∧ RollAt K H' rr ws ∧ H' l = some (.lst (iv ws))) ⟨_, _, _, _, _, _, _, _, rfl, sH6, hp4.same s46, R6, s46 _ _ el⟩ ?_ ?_)
      · rintro j σ Hc hj ⟨v1, v5, v6, v7, v8, v9, v10, v11, rfl, sc, hc, R, lc⟩
        walk_at "go"
        refine r_I ⟨by decide, by decide, by decide⟩ ?_
        walk_at "go"
        refine r_mk (by show 3 ≤ sizeLine; decide) fun _ _ nA sA eA => ?_
        walk_at "go"
        refine r_draw (hc.same sA) (by omega) (by decide) fun yA _ tA hqA ylA => ?_
        walk_at "go"
        obtain ⟨gA, egA, hgA⟩ := pick3 (a := 3) (b := 40) (c := 10 ^ (30 : Int).toNat) (P := fun g => 1 ≤ g ∧ g < 2 ^ 110) (Int.natCast_nonneg yA) ylA (by decide) (by decide) (by decide)
        refine r_ixl (sq_of (tA _ _ ((hc.ne nA).symm) eA)) egA ?_
        walk_at "go"
        refine r_draw hqA (by omega) (by omega) fun s _ uA hA zA => ?_
        walk_at "go"
        refine r_I ⟨by decide, by decide, by decide⟩ ?_
        walk_at "go"
        refine r_mk (by show 3 ≤ sizeLine; decide) fun _ _ nD sD eD => ?_
        walk_at "go"
        refine r_draw (hA.same sD) (by omega) (by decide) fun yD _ tD hqD ylD => ?_
        walk_at "go"
        obtain ⟨gD, egD, hgD⟩ := pick3 (a := 3) (b := 40) (c := 10 ^ (30 : Int).toNat) (P := fun g => 1 ≤ g ∧ g < 2 ^ 110) (Int.natCast_nonneg yD) ylD (by decide) (by decide) (by decide)
        refine r_ixl (sq_of (tD _ _ ((hA.ne nD).symm) eD)) egD ?_
        walk_at "go"
        refine r_draw hqD (by omega) (by omega) fun o _ uD hD zD => ?_
        walk_at "go"
        have bA := ((But.of sA (p := p)).trans tA).trans uA
        have bD := ((But.of sD (p := p)).trans tD).trans uD
        have R4 := (R.but hc bA).but hA bD
        have bb := bA.trans bD
        have sc4 := But.same sc pn bb
        have lc4 := bb _ _ lp lc
        refine r_rollm R4 (by decide +kernel) (by decide +kernel) ?_
        walk_at "go"
        refine ⟨_, _, s, o, rfl, R4, by omega, ?_⟩
        walk_at "go"
        refine ⟨l, ws, s, o, rfl, sq_of lc4, rw0, by omega, by omega, ?_⟩
        walk_at "go"
        refine if_f (ne_f rfl) ?_
        walk_at "go"
        refine r_len (n := (ws.length : Int)) (.inl (sq_of lc4)) (by rw [List.length_map]) ?_
        refine r_I (by omega) ?_
        walk_at "go"
        have sl := Nat.mod_lt s n0
        have esm : (s : Int) % (ws.length : Int) = ((s % ws.length : Nat) : Int) := rfl
        refine r_rollm R4 (by decide +kernel) (by decide +kernel) ?_
        walk_at "go"
        refine ⟨_, _, s, rfl, R4, fun q _ _ s5 Rq => ?_⟩
        walk_at "go"
        refine r_rollm Rq (by decide +kernel) (by decide +kernel) ?_
        refine ⟨_, _, rfl, Rq, fun _ _ _ s6 e6 => ?_⟩
        walk_at "go"
        have lc6 := s6 _ _ (s5 _ _ lc4)
        rw [esm]
        refine r_sll (sq_of lc6) fun c1 H7 n7 s7 e7 => ?_
        walk_at "go"
        refine r_sll (sq_of (s7 _ _ lc6)) fun c2 H8 n8 s8 e8 => ?_
        rw [cut_from ws (s % ws.length) (by omega)] at e7
        rw [cut_to ws (s % ws.length) (by omega)] at e8
        refine r_cat (s8 _ _ e7) e8 (small2 (by rw [List.length_map, List.length_map, List.length_drop, List.length_take]; omega)) fun c3 H9 n9 s9 e9 => ?_
        have s69 := s7.trans (s8.trans s9)
        refine r_neI (ns := tornL ws s) (ms := tornL ws s) (sq_of (s69 _ _ e6)) (sq_of (by rw [e9]; unfold tornL; rw [← List.map_append])) ?_
        walk_at "go"
        refine if_f (nl_f rfl) ?_
        walk_at "go"
        have Rq9 := Same.roll (s6.trans s69) Rq
        have R9 := Same.roll (s5.trans (s6.trans s69)) R4
        refine r_rollm Rq9 (by decide +kernel) (by decide +kernel) ?_
        walk_at "go"
        refine ⟨_, _, 5, rfl, Rq9, fun z1 hz1 => ?_⟩
        walk_at "go"
        refine r_rollm R9 (by decide +kernel) (by decide +kernel) ?_
        walk_at "go"
        refine ⟨_, _, (s + 5), rfl, R9, fun z2 hz2 => ?_⟩
        walk_at "go"
        have ez : z1 = z2 := by
          rw [tornL_len, torn_at s (Nat.mod_lt _ n0), Nat.add_mod_mod] at hz1
          exact Option.some.inj (hz1.symm.trans hz2)
        refine if_f (ne_f ez) ?_
        walk_at "go"
        have sall := s5.trans (s6.trans s69)
        exact ⟨_, _, _, _, _, _, _, _, rfl, sc4.trans sall, (hD.same sall).le (by omega), R9, sall _ _ lc4⟩
      rintro σ Hc ⟨v1, v5, v6, v7, v8, v9, v10, v11, rfl, sc, hc, R, lc⟩
      walk_at "go"
      refine r_rng1' (n := 30) rfl (by decide) (for_range (fun i σ H' => ∃ v11, σ = [some (.ref a), v1, some (.ref p), some (.ref l), some (.ref rr), v5, v6, v7, v8, v9, some (.int (up (st ws) i)), v11] ∧ H' = Hc) ⟨_, rfl, rfl⟩ ?_ ?_)
      · rintro j σ Hj hj ⟨v11, rfl, rfl⟩
        rw [Int.zero_add]
        walk_at "go"
        refine r_rollm R (by decide +kernel) (by decide +kernel) ?_
        walk_at "go"
        refine ⟨_, _, 0, j, rfl, R, by omega, ?_⟩
        walk_at "go"
        refine if_f (ne_f (up_st n0 j)) ?_
        walk_at "go"
        refine r_rollm R (by decide +kernel) (by decide +kernel) ?_
        walk_at "go"
        refine ⟨_, _, j, 1, rfl, R, by omega, ?_⟩
        walk_at "go"
        refine r_rollm R (by decide +kernel) (by decide +kernel) ?_
        walk_at "go"
        refine ⟨_, _, j, rfl, R, fun z2 hz2 => ?_⟩
        walk_at "go"
        refine if_f (ne_f ((win_one n0 j).trans (Option.some.inj ((st_at n0 j).symm.trans hz2)))) ?_
        walk_at "go"
        refine r_len (n := (ws.length : Int)) (.inl (sq_of lc)) (by rw [List.length_map]) ?_
        refine r_I (by omega) ?_
        refine r_ixl (sq_of lc) (at_ints (j := j % ws.length) (st_at n0 j)) ?_
        walk_at "go"
        exact ⟨_, rfl, rfl⟩
      rintro σ Hj ⟨v11', rfl, rfl⟩
      walk_at "go"
      refine r_rollm R (by decide +kernel) (by decide +kernel) ?_
      refine ⟨_, _, rfl, R, fun q1 _ _ s7 Rm => ?_⟩
      walk_at "go"
      refine r_rollm Rm (by decide +kernel) (by decide +kernel) ?_
      refine ⟨_, _, rfl, Rm, fun _ _ _ s8 e8 => ?_⟩
      walk_at "go"
      have l8 := s8 _ _ (s7 _ _ lc)
      refine r_revV (sq_of l8) fun c H9 n9 s9 e9 => ?_
      refine r_neI (ns := ws.reverse) (ms := ws.reverse) (sq_of (s9 _ _ e8)) (sq_of (by rw [e9, ← List.map_reverse])) ?_
      walk_at "go"
      refine if_f (nl_f rfl) ?_
      walk_at "go"
      have s79 := s7.trans (s8.trans s9)
      have R9 := Same.roll s79 R
      refine r_rollm R9 (by decide +kernel) (by decide +kernel) ?_
      refine ⟨_, _, rfl, R9, fun q2 _ _ s10 Rn => ?_⟩
      walk_at "go"
      refine r_rollm Rn (by decide +kernel) (by decide +kernel) ?_
      refine ⟨_, _, rfl, Rn, fun q3 _ _ s11 Rp => ?_⟩
      walk_at "go"
      refine r_neR T Rp (Same.roll (s10.trans s11) R9) ?_
      walk_at "go"
      refine if_f (nl_f (List.reverse_reverse ws)) ?_
      walk_at "go"
      have s71 := s79.trans (s10.trans s11)
      refine r_rollm (Same.roll s71 R) (by decide +kernel) (by decide +kernel) ?_
      refine ⟨_, _, rfl, (Same.roll s71 R), fun _ _ _ s12 e12 => ?_⟩
      walk_at "go"
      refine r_neI (sq_of e12) (sq_of (s12 _ _ (s71 _ _ lc))) ?_
      walk_at "go"
      refine if_f (nl_f rfl) ?_
      walk_at "go"
      have s72 := s71.trans s12
      have R12 := Same.roll s72 R
      refine r_rollm R12 (by decide +kernel) (by decide +kernel) ?_
      walk_at "go"
      refine r_len (n := (ws.length : Int)) (.inl (sq_of (s72 _ _ lc))) (by rw [List.length_map]) ?_
      refine ⟨_, _, ws.length, rfl, R12, fun q4 _ _ s13 Rt => ?_⟩
      walk_at "go"
      refine r_neR T Rt (Same.roll s13 R12) ?_
      walk_at "go"
      refine if_f (nl_f torn_len) ?_
      walk_at "go"
      have R13 := Same.roll s13 R12
      refine r_rollm R13 (by decide +kernel) (by decide +kernel) ?_
      walk_at "go"
      refine ⟨_, _, 0, rfl, R13, fun q5 _ _ s14 Ru => ?_⟩
      walk_at "go"
      refine r_neR T Ru (Same.roll s14 R13) ?_
      walk_at "go"
      refine if_f (nl_f torn_0) ?_
      walk_at "go"
      refine ⟨rr, ws, rfl, Same.roll s14 R13, fun H15 s15 => ?_⟩
      walk_at "go"
      exact ⟨_, _, _, _, _, _, _, _, _, _, _, rfl, sc.trans (s72.trans (s13.trans (s14.trans s15)))⟩
    rintro σ H' ⟨v1, v2, v3, v4, v5, v6, v7, v8, v9, v10, v11, rfl, sH⟩
    walk_at "go"
    exact k H'
end

end RC


open PySem PySem.W PySem.Calls PyProof.Rows
theorem PySem.Challenge.cw_rollclerk_k11_totals_and_torn_rolls_holds : PySem.Challenge.rw_rollclerk_k11_totals_and_torn_rolls.Holds := by
  w_on; o_law
  refine HandSHeadRun.head_any (r := RC.R) (q := view RC.R.prog [19]) (H := RC.hk) (ob := RC.ob) (M := 4000) (loose := RC.loose) (d := HandSHeadRun.topDef RC.R.prog 19) (kwd := []) RC.ob_eq
    (by kernel_rfl) (fun s => by kernel_rfl) RC.run (by kernel_rfl) (by kernel_rfl) (by kernel_rfl) (by rfl) (by first | assumption | decide +kernel) (by decide +kernel) ⟨rfl, rfl, rfl, rfl, rfl, by decide +kernel⟩ ?hw ?hc
  case hw => w_witness2
  case hc =>
    refine RC.walk_ofG (l := PySem.Challenge.rw_rollclerk_k11_totals_and_torn_rolls) (n := 63) (k := 7) (x := "_law_script") rfl (by decide) (by kernel_rfl) ⟨rfl, by decide, by decide⟩ ?F
    intro w mg fa h Y G hmg0
    obtain ⟨K, KX, c⟩ := Y
    have hmg : mg ("law" : PySem.Str) = some (.ref fa) := by
      have e : (HandSHeadRun.topDef RC.R.prog 19).name = ("law" : PySem.Str) := by kernel_rfl
      rw [← e]
      exact hmg0
    obtain ⟨T⟩ := RC.txt_of KX G c
    have e := hmg.symm.trans T.g_law
    cases e
    have b := L2.FunD.bindsA (ps := ["_law_script"]) T.F_law fun _ _ _ _ _ _ us hl => match us, hl with | [_], _ => rfl
    exact ⟨K, T.fd_law, RC.spLaw K, KX, fun s v => b s [v] rfl, fun H a ns hl _ hS => ⟨a, ns, rfl, hS, hl, fun _ => rfl⟩, fun base _ _ => RC.ok_law T⟩
