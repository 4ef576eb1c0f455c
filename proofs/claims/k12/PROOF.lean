import PyProof.Rows.All
import Wide.All
import OpenK.AllK
import Wide.FinOn
import KE.KStateDown
import HandS.ForMost
import HandS.More
import HandS.Exc
import HandS.ExcOwn
import HandS.TryOnly
import HandS.WordsExc
import HandS.Defaults
import HandS.Wide
import HandS.WideBits
import HandS.Style
import HandS.IsInst
import HandS.Star
import HandS.OwnEq
import HandS.SortInts
import HandS.Evl
import HandS.TupAny
import KE.DataMinMax
import KE.SortData
import KE.DataCmp
import HandS.Head0
import HandS.Head1
import HandS.Head2
import HandS.HeadEnd
import HandS.HeadHook1
import HandS.HeadHook2
import PySem.Challenge.RW_rollclerk_k12_whole_rolls_and_laps
set_option Elab.async false
set_option linter.all false
set_option maxRecDepth 100000
set_option maxHeartbeats 4000000
/-! ## The steps of a reading, one lemma a construct; heaps that grow -/
namespace RC
open PySem PySem.Spec PyProof.Rows L2

/-! ### heaps -/
theorem small1 {n : Nat} (h : n ≤ 100000) : n < sizeLine := Nat.lt_of_le_of_lt h (by decide)
theorem small2 {n : Nat} (h : n ≤ 100000) : n ≤ sizeLine := Nat.le_trans h (by decide)
theorem same_new {H : Hp} {p : Addr} {o : HO} (h : H p = none) : Same H (upd H p o) := fun b x e => by
  rw [upd_ne (ne_of_none e h)]
  exact e
/-- something new at p: the heap behind it by a name -/
theorem r_new {H : Hp} {o : HO} {Q : VK} (h : ∀ p H1, H p = none → Same H H1 → H1 p = some o → Q (.ref p) H1) : ∀ p, H p = none → Q (.ref p) (upd H p o) := fun p hp => h p _ hp (same_new hp) upd_same
theorem Same.rd {H H' : Hp} (e : Same H H') {a : Addr} {u : HO} (h : Rd H a u) : Rd H' a u := by
  rcases h with h | ⟨o, h⟩
  · exact .inl (e _ _ h)
  · exact .inr ⟨o, e _ _ h⟩
theorem Same.tup {K : PySem.W.Frag} {H H' : Hp} {a : Addr} {xs : List V} (e : Same H H') (h : SqT K H a xs) : SqT K H' a xs := by
  rcases h with h | h
  · exact .inl (Same.rd e h)
  · exact .inr h
theorem Same.lst {K : PySem.W.Frag} {H H' : Hp} {a : Addr} {xs : List V} (e : Same H H') (h : SqL K H a xs) : SqL K H' a xs := by
  rcases h with h | h
  · exact .inl (Same.rd e h)
  · exact .inr h
mutual
theorem Same.dp {K : PySem.W.Frag} {H H' : Hp} (e : Same H H') : ∀ {v : V} {d : PyData}, Dp K H v d → Dp K H' v d
  | _, _, .non => .non
  | _, _, .bl b => .bl b
  | _, _, .int i => .int i
  | _, _, .str x => .str x
  | _, _, .lst h a => .lst (Same.lst e h) (Same.dpa e a)
  | _, _, .tup h a => .tup (Same.tup e h) (Same.dpa e a)
theorem Same.dpa {K : PySem.W.Frag} {H H' : Hp} (e : Same H H') : ∀ {v : List V} {d : List PyData}, DpAll K H v d → DpAll K H' v d
  | _, _, .nil => .nil
  | _, _, .cons h t => .cons (Same.dp e h) (Same.dpa e t)
end
/-- G is a part of H that leaves p out -/
def Cut (p : Addr) (H G : Hp) : Prop := ∀ a o, G a = some o → a ≠ p ∧ H a = some o
theorem Cut.same {p : Addr} {H G : Hp} (c : Cut p H G) : Same G H := fun a o h => (c a o h).2
theorem Cut.of {p : Addr} {H G : Hp} (e : Same G H) (h : G p = none) : Cut p H G := fun a o q => ⟨ne_of_none q h, e a o q⟩
theorem Cut.upd {p : Addr} {H G : Hp} {o : HO} (c : Cut p H G) : Cut p (upd H p o) G := fun a u h => by
  obtain ⟨n, q⟩ := c a u h
  exact ⟨n, by rw [upd_ne n]; exact q⟩
theorem Cut.grow {p : Addr} {H H' G : Hp} (c : Cut p H G) (e : Same H H') : Cut p H' G := fun a o h => ⟨(c a o h).1, e a o (c a o h).2⟩
/-- the largest such part -/
def rest (H : Hp) (p : Addr) : Hp := fun a => if a = p then none else H a
theorem rest_cut (H : Hp) (p : Addr) : Cut p H (rest H p) := fun a o h => by
  unfold rest at h
  by_cases e : a = p
  · rw [if_pos e] at h
    cases h
  · rw [if_neg e] at h
    exact ⟨e, h⟩
theorem rest_ne {H : Hp} {p a : Addr} (e : a ≠ p) : rest H p a = H a := if_neg e
theorem rest_same {H : Hp} {p : Addr} : rest H p p = none := if_pos rfl
theorem same_rest {G H : Hp} {p : Addr} (e : Same G H) (h : G p = none) : Same G (rest H p) := fun a o q => by
  rw [rest_ne (ne_of_none q h)]
  exact e a o q
theorem rest_grow {H H' : Hp} {p : Addr} (e : Same H H') : Same (rest H p) (rest H' p) := fun a o h => by
  have n : a ≠ p := ((rest_cut H p) a o h).1
  rw [rest_ne n] at h ⊢
  exact e a o h
theorem rest_upd {H : Hp} {p : Addr} {o : HO} : rest (L2.upd H p o) p = rest H p := by
  funext a
  unfold rest
  by_cases e : a = p
  · rw [if_pos e, if_pos e]
  · rw [if_neg e, if_neg e, upd_ne e]
/-- all but what stands at p is as it was -/
def But (p : Addr) (H H' : Hp) : Prop := ∀ b o, b ≠ p → H b = some o → H' b = some o
theorem But.refl (p : Addr) (H : Hp) : But p H H := fun _ _ _ h => h
theorem But.of {p : Addr} {H H' : Hp} (e : Same H H') : But p H H' := fun b o _ h => e b o h
theorem But.trans {p : Addr} {H H1 H2 : Hp} (a : But p H H1) (b : But p H1 H2) : But p H H2 := fun c o n h => b c o n (a c o n h)
theorem But.upd {p : Addr} {H : Hp} {o : HO} : But p H (upd H p o) := fun b x n h => by rw [upd_ne n]; exact h
theorem But.same {p : Addr} {H0 H H' : Hp} (e : Same H0 H) (n : H0 p = none) (b : But p H H') : Same H0 H' := fun a o h => b a o (ne_of_none h n) (e a o h)
/-- something written at p: the heap behind it by a name -/
theorem r_mut {H : Hp} {p : Addr} {o : HO} {G : Hp → Prop} (h : ∀ H1, But p H H1 → H1 p = some o → G H1) : G (L2.upd H p o) := h _ But.upd upd_same
def notSeq : HO → Bool
  | .lst _ => false
  | .tup _ => false
  | .frz _ _ => false
  | _ => true
theorem But.lst {K : PySem.W.Frag} {p a : Addr} {H H' : Hp} {o : HO} {xs : List V} (b : But p H H') (hp : H p = some o) (k : notSeq o = true) (h : SqL K H a xs) : SqL K H' a xs := by
  rcases h with (h | ⟨ob, h⟩) | h
  · exact .inl (.inl (b _ _ (ne_of h hp fun e => by rw [← e] at k; cases k) h))
  · exact .inl (.inr ⟨ob, b _ _ (ne_of h hp fun e => by rw [← e] at k; cases k) h⟩)
  · exact .inr h
theorem But.tup {K : PySem.W.Frag} {p a : Addr} {H H' : Hp} {o : HO} {xs : List V} (b : But p H H') (hp : H p = some o) (k : notSeq o = true) (h : SqT K H a xs) : SqT K H' a xs := by
  rcases h with (h | ⟨ob, h⟩) | h
  · exact .inl (.inl (b _ _ (ne_of h hp fun e => by rw [← e] at k; cases k) h))
  · exact .inl (.inr ⟨ob, b _ _ (ne_of h hp fun e => by rw [← e] at k; cases k) h⟩)
  · exact .inr h
theorem Same.app {H H' : Hp} (e : Same H H') {a : Addr} {o : HO} (h : H a = some o) : H' a = some o := e a o h
theorem sq_of {K : PySem.W.Frag} {H : Hp} {a : Addr} {xs : List V} (h : H a = some (.lst xs)) : SqL K H a xs := .inl (.inl h)
theorem st_of {K : PySem.W.Frag} {H : Hp} {a : Addr} {xs : List V} (h : H a = some (.tup xs)) : SqT K H a xs := .inl (.inl h)

/-! ### the constructs -/
section
variable {K : PySem.W.Frag} {σ : L2.St} {H : Hp} {Q : VK} {D : Ends} {ta tb te tc : TE} {t u : TS} {tt uu : TT}
theorem r_seq (h : t { D with nx := u D } σ H) : tSeq t u D σ H := h
theorem r_next (h : D.nx σ H) : tNext D σ H := h
theorem r_ret (h : te σ H D.rt) : tRet te D σ H := h
theorem r_drop (h : te σ H fun _ H1 => D.nx σ H1) : tDrop te D σ H := h
theorem r_ifs (h : tt σ H fun b H1 => if b = true then t D σ H1 else u D σ H1) : tIfS tt t u D σ H := h
theorem r_asg {i : Nat} (h : te σ H fun x H1 => D.nx (σ.set i (some x)) H1) : tAsg te (gName i) D σ H := h
theorem r_var {i : Nat} {v : V} (e : σ[i]? = some (some v)) (h : Q v H) : tVar i σ H Q := ⟨v, e, h⟩
theorem r_c {v : V} (h : Q v H) : tC v σ H Q := h
theorem r_op {r : R2} (h : ta σ H fun x H1 => tb σ H1 fun y H2 => r x y H2 Q) : tOp r ta tb σ H Q := h
theorem r_un {r : V → Hp → VK → Prop} (h : ta σ H fun x H1 => r x H1 Q) : tUn r ta σ H Q := h
theorem r_I0 {g : Int → Int → V} {i j : Int} (h : Q (g i j) H) : rI0 g (.int i) (.int j) H Q := ⟨i, j, rfl, rfl, h⟩
theorem r_I {C : Int → Int → Prop} {g : Int → Int → V} {i j : Int} (c : C i j) (h : Q (g i j) H) : rI C g (.int i) (.int j) H Q := ⟨i, j, rfl, rfl, c, h⟩
theorem r_U {g : Int → V} {i : Int} (h : Q (g i) H) : rU g (.int i) H Q := ⟨i, rfl, h⟩
theorem r_eq {x y : V} (c : scal x y = true) (h : Q (.bl (decide (x = y))) H) : rEq x y H Q := ⟨c, h⟩
theorem r_ne {x y : V} (c : scal x y = true) (h : Q (.bl (!decide (x = y))) H) : rNe x y H Q := ⟨c, h⟩
theorem r_test {P : Bool → Hp → Prop} (h : te σ H fun x H' => ∃ k, x = .bl k ∧ P k H') : tTest te σ H P := h
theorem r_B {P : Bool → Hp → Prop} (h : te σ H fun x H' => ∃ k, x = .bl k ∧ P k H') : tB te σ H P := h
theorem r_bl {k : Bool} {P : Bool → Prop} (h : P k) : ∃ k', V.bl k = V.bl k' ∧ P k' := ⟨k, rfl, h⟩
theorem r_yes {P : Bool → Hp → Prop} (h : P true H) : tYes σ H P := h
theorem r_not {P : Bool → Hp → Prop} (h : tt σ H fun c H1 => P (!c) H1) : tNot tt σ H P := h
theorem r_and {P : Bool → Hp → Prop} (h : tt σ H fun c H1 => if c = true then uu σ H1 P else P false H1) : tAnd tt uu σ H P := h
theorem r_or {P : Bool → Hp → Prop} (h : tt σ H fun c H1 => if c = true then P true H1 else uu σ H1 P) : tOr tt uu σ H P := h
theorem r_andV (h : ta σ H fun x H1 => ∃ c, x = .bl c ∧ if c = true then tb σ H1 Q else Q (.bl false) H1) : tAndV ta tb σ H Q := h
theorem r_orV (h : ta σ H fun x H1 => ∃ c, x = .bl c ∧ if c = true then Q (.bl true) H1 else tb σ H1 Q) : tOrV ta tb σ H Q := h
theorem r_notV (h : ta σ H fun x H1 => ∃ c, x = .bl c ∧ Q (.bl (!c)) H1) : tNotV ta σ H Q := h
theorem r_ifE (h : tt σ H fun c H1 => if c = true then ta σ H1 Q else tb σ H1 Q) : tIf tt ta tb σ H Q := h
/-- a new object o -/
def Mk1 (o : List V → HO) (xs : List V) (H : Hp) (Q : VK) : Prop := xs.length ≤ sizeLine ∧ ∀ p, H p = none → Q (.ref p) (upd H p (o xs))
theorem r_tup {tA : TA} (h : tA σ H fun xs H1 => Mk1 .tup xs H1 Q) : tTup tA σ H Q := h
theorem r_lst {tA : TA} (h : tA σ H fun xs H1 => Mk1 .lst xs H1 Q) : tLst tA σ H Q := h
theorem r_mk {o : List V → HO} {xs : List V} (hl : xs.length ≤ sizeLine) (h : ∀ p H1, H p = none → Same H H1 → H1 p = some (o xs) → Q (.ref p) H1) : Mk1 o xs H Q := ⟨hl, r_new h⟩
theorem r_nil {P : List V → Hp → Prop} (h : P [] H) : tNil σ H P := h
theorem r_cons {tr : TA} {P : List V → Hp → Prop} (h : te σ H fun x H1 => tr σ H1 fun xs H2 => P (x :: xs) H2) : tCons te tr σ H P := h
theorem r_call {sp : Sp} {dvs : List V} {E : XK} {tA : TA} (h : tA σ H fun vs H1 => sp (vs ++ dvs) H1 Q E) : tCall sp dvs E tA σ H Q := h
theorem r_cb {r : List V → Hp → VK → Prop} {tA : TA} (h : tA σ H fun vs H1 => r vs H1 Q) : tCB r tA σ H Q := h
theorem r_slc {r : V → Option Int → Option Int → Hp → VK → Prop} {tl th : TO} (h : te σ H fun x H1 => tl σ H1 fun l H2 => th σ H2 fun w H3 => r x l w H3 Q) : tSl r te tl th σ H Q := h
theorem r_nopart {P : Option Int → Hp → Prop} (h : P none H) : tNoPart σ H P := h
theorem r_part {P : Option Int → Hp → Prop} (h : te σ H fun x H1 => ∃ i, x = .int i ∧ P (some i) H1) : tPart te σ H P := h
theorem r_int {i : Int} {P : Int → Prop} (h : P i) : ∃ i', V.int i = V.int i' ∧ P i' := ⟨i, rfl, h⟩
theorem r_par {i j : Nat} {tA : TA} (h : tA σ H fun vs H1 => ∃ v w, vs = [v, w] ∧ D.nx ((σ.set i (some v)).set j (some w)) H1) : tPar i j tA D σ H := h
theorem r_par2 {v w : V} {P : V → V → Prop} (h : P v w) : ∃ v' w', [v, w] = [v', w'] ∧ P v' w' := ⟨v, w, rfl, h⟩
theorem r_for {wi : TI} {g : TG} (h : wi σ H fun J H1 => ∃ W : Nat → Nat → L2.St → Hp → Prop, (∃ m, W 0 m σ H1) ∧ ∀ i m σ H, W i m σ H →
    (J.stop i H ∧ D.nx σ H) ∨ (J.go i H ∧ ∃ Nx : L2.St → Hp → Prop, (∀ σ' H', Nx σ' H' → ∃ m', m' < m ∧ W (i + 1) m' σ' H') ∧ ∀ x H', J.yld i H x H' → g x σ H' fun σ2 H2 => t { D with nx := Nx, ct := Nx, bk := D.nx } σ2 H2)) : tFor wi g t D σ H := h
/-- a list comprehension, its walk J known -/
theorem r_lc {wi : TI} {g : TG} {vs : List Nat} (h : wi σ H fun J H1 => tLc (fun _ H2 R => R J H2) g tt te vs σ H1 Q) : tLc wi g tt te vs σ H Q := h
def Rn1 (vs : List V) (H : Hp) (R : It → Hp → Prop) : Prop := ∃ j : Int, vs = [.int j] ∧ -(2 ^ 62) ≤ j ∧ j < 2 ^ 62 ∧ R (Itr 0 j.toNat) H
theorem r_rng1 {tA : TA} {R : It → Hp → Prop} (h : tA σ H fun vs H1 => Rn1 vs H1 R) : iRng1 tA σ H R := h
theorem r_rng1' {n : Nat} {j : Int} {R : It → Hp → Prop} (e : j = n) (hn : n ≤ 1000000) (h : R (Itr 0 n) H) : Rn1 [.int j] H R := ⟨j, rfl, by omega, by omega, by rw [e]; exact h⟩
def Rn2 (vs : List V) (H : Hp) (R : It → Hp → Prop) : Prop := ∃ i j : Int, vs = [.int i, .int j] ∧ (-(2 ^ 62) ≤ i ∧ i < 2 ^ 62 ∧ -(2 ^ 62) ≤ j ∧ j < 2 ^ 62) ∧ R (Itr i (j - i).toNat) H
theorem r_rng2 {tA : TA} {R : It → Hp → Prop} (h : tA σ H fun vs H1 => Rn2 vs H1 R) : iRng2 tA σ H R := h
theorem r_rng2' {i j : Int} {n : Nat} {R : It → Hp → Prop} (e : (j - i).toNat = n) (b : -1000000000000000000 ≤ i ∧ i ≤ 1000000000000000000 ∧ -1000000000000000000 ≤ j ∧ j ≤ 1000000000000000000) (h : R (Itr i n) H) : Rn2 [.int i, .int j] H R := ⟨i, j, rfl, by omega, by rw [e]; exact h⟩
def IlV (K : PySem.W.Frag) (x : V) (H : Hp) (R : It → Hp → Prop) : Prop := ∃ a, x = .ref a ∧ (∃ xs, SqL K H a xs) ∧ R (Itl K a) H
theorem r_ilist {R : It → Hp → Prop} (h : te σ H fun x H1 => IlV K x H1 R) : iList K te σ H R := h
def ItV (K : PySem.W.Frag) (x : V) (H : Hp) (R : It → Hp → Prop) : Prop := ∃ a, x = .ref a ∧ (∃ xs, SqT K H a xs) ∧ R (Itt K a) H
theorem r_itup {R : It → Hp → Prop} (h : te σ H fun x H1 => ItV K x H1 R) : iTup K te σ H R := h
theorem r_itup' {a : Addr} {xs : List V} {R : It → Hp → Prop} (hx : SqT K H a xs) (h : R (Itt K a) H) : ItV K (.ref a) H R := ⟨a, rfl, ⟨xs, hx⟩, h⟩
theorem ty_list {a : Addr} {xs : List V} (h : SqL K H a xs) : TyX K H (.ref a) (.type "list") := by
  rcases h with (h | ⟨ob, h⟩) | h
  · exact .base (.lst h)
  · exact .base (.frz h)
  · obtain ⟨o, its, n, h1, h2, _⟩ := h
    exact .kList h1 h2
theorem ty_tup {a : Addr} {xs : List V} (h : H a = some (.tup xs)) : TyX K H (.ref a) (.type "tuple") := .base (.tup h)
theorem r_ilist' {a : Addr} {xs : List V} {R : It → Hp → Prop} (hx : SqL K H a xs) (h : R (Itl K a) H) : IlV K (.ref a) H R := ⟨a, rfl, ⟨xs, hx⟩, h⟩
theorem r_gname {i : Nat} {v : V} {P : L2.St → Hp → Prop} (h : P (σ.set i (some v)) H) : gName i v σ H P := h
theorem r_gtup {K : PySem.W.Frag} {n : Nat} {t : TGs} {a : Addr} {xs : List V} {σ : L2.St} {H : Hp} {P : L2.St → Hp → Prop} (h : SqT K H a xs) (l : xs.length = n) (q : t xs σ H P) : gTup K n t (.ref a) σ H P := ⟨a, xs, rfl, h, l, q⟩
theorem r_gcons {t : TG} {u : TGs} {v : V} {vs : List V} {σ : L2.St} {H : Hp} {P : L2.St → Hp → Prop} (h : t v σ H fun σ2 H2 => u vs σ2 H2 P) : gCons t u (v :: vs) σ H P := ⟨v, vs, rfl, h⟩
theorem r_gnil {σ : L2.St} {H : Hp} {P : L2.St → Hp → Prop} (h : P σ H) : gNil [] σ H P := ⟨rfl, h⟩
/-! ### tests: known, or both ways -/
theorem if_t {b : Bool} {A B : Prop} (e : b = true) (h : A) : if b = true then A else B := by
  rw [if_pos e]
  exact h
theorem if_f {b : Bool} {A B : Prop} (e : b = false) (h : B) : if b = true then A else B := by
  rw [e, if_neg Bool.false_ne_true]
  exact h
theorem if_d {c A B : Prop} [Decidable c] (h1 : c → A) (h2 : ¬ c → B) : if decide c = true then A else B := by
  by_cases h : c
  · rw [if_pos (decide_eq_true h)]
    exact h1 h
  · rw [decide_eq_false h, if_neg Bool.false_ne_true]
    exact h2 h
theorem if_dn {c A B : Prop} [Decidable c] (h1 : ¬ c → A) (h2 : c → B) : if (!decide c) = true then A else B := by
  by_cases h : c
  · rw [decide_eq_true h]
    exact if_f rfl (h2 h)
  · rw [decide_eq_false h]
    exact if_t rfl (h1 h)
theorem r_tt {A B : Prop} (h : A) : if true = true then A else B := if_t rfl h
theorem r_ff {A B : Prop} (h : B) : if false = true then A else B := if_f rfl h
theorem r_ntt {A B : Prop} (h : B) : if (!true) = true then A else B := if_f rfl h
theorem r_nff {A B : Prop} (h : A) : if (!false) = true then A else B := if_t rfl h
theorem r_isi {x c : V} {t u : Value} {b : Bool} (k : ClsV c u) (ty : TyX K H x t) (e : PySem.W.kitOne K t u = some b) (h : Q (.bl b) H) : rIsi K [x, c] H Q := ⟨x, c, t, u, b, rfl, k, ty, e, h⟩
/-! ### lists -/
open Evl (rLenS rListS rMax2)
/-- len(xs), list(xs), tuple(xs) of a list or tuple -/
def rTupS (K : PySem.W.Frag) : List V → Hp → VK → Prop := fun xs H Q => ∃ p ys, xs = [.ref p] ∧ ((SqL K H p ys ∧ ∀ l, H l = none → Q (.ref l) (upd H l (.tup ys))) ∨ (SqT K H p ys ∧ Q (.ref p) H))
theorem call_lenS {X : Cx} : CallR X (.builtin "len") (rLenS X.K) := call_len_seq
theorem call_listS {X : Cx} : CallR X (.type "list") (rListS X.K) := call_list_of
theorem call_tupS {X : Cx} : CallR X (.type "tuple") (rTupS X.K) := call_tuple_of
theorem r_len {p : Addr} {xs : List V} {n : Int} (h : SqL K H p xs ∨ SqT K H p xs) (e : (xs.length : Int) = n) (q : Q (.int n) H) : rLenS K [.ref p] H Q := ⟨p, xs, rfl, h, by rw [e]; exact q⟩
theorem r_list {p : Addr} {xs : List V} (h : SqL K H p xs ∨ SqT K H p xs) (q : ∀ l H1, H l = none → Same H H1 → H1 l = some (.lst xs) → Q (.ref l) H1) : rListS K [.ref p] H Q := ⟨p, xs, rfl, h, r_new q⟩
theorem r_tupL {p : Addr} {xs : List V} (h : SqL K H p xs) (q : ∀ l H1, H l = none → Same H H1 → H1 l = some (.tup xs) → Q (.ref l) H1) : rTupS K [.ref p] H Q := ⟨p, xs, rfl, .inl ⟨h, r_new q⟩⟩
theorem r_tupT {p : Addr} {xs : List V} (h : SqT K H p xs) (q : Q (.ref p) H) : rTupS K [.ref p] H Q := ⟨p, xs, rfl, .inr ⟨h, q⟩⟩
/-- int(n), max(m, n), min(m, n) of ints, n.bit_length() -/
def rInt1 : List V → Hp → VK → Prop := fun xs H Q => (∃ i, xs = [.int i] ∧ Q (.int i) H) ∨ ∃ k, xs = [.bl k] ∧ Q (.int (if k then 1 else 0)) H
theorem call_intS {X : Cx} : CallR X (.type "int") rInt1 := call_int1
theorem r_int1 {i : Int} (h : Q (.int i) H) : rInt1 [.int i] H Q := .inl ⟨i, rfl, h⟩
def rMin2 : List V → Hp → VK → Prop := fun xs H Q => ∃ i j, xs = [.int i, .int j] ∧ Q (.int (if j < i then j else i)) H
theorem call_max2S {X : Cx} (hc : X.calm = true) : CallR X (.builtin "max") rMax2 := call_max2 hc
theorem call_min2S {X : Cx} (hc : X.calm = true) : CallR X (.builtin "min") rMin2 := call_min2 hc
theorem r_max2 {i j : Int} (h : Q (.int (if j > i then j else i)) H) : rMax2 [.int i, .int j] H Q := ⟨i, j, rfl, h⟩
theorem r_min2 {i j : Int} (h : Q (.int (if j < i then j else i)) H) : rMin2 [.int i, .int j] H Q := ⟨i, j, rfl, h⟩
def BitV (x : V) (H : Hp) (Q : VK) : Prop := ∃ i, x = .int i ∧ Q (.int (Builtin.Int.intBits i : Nat)) H
theorem r_bits (h : te σ H fun x H1 => BitV x H1 Q) : tBits te σ H Q := h
theorem r_bitV {i : Int} (h : Q (.int (Builtin.Int.intBits i : Nat)) H) : BitV (.int i) H Q := ⟨i, rfl, h⟩
/-- sum(xs) -/
theorem r_sum {p : Addr} {ns : List Int} (h : SqL K H p (ns.map V.int)) (q : Q (.int ns.sum) H) : rSum K [.ref p] H Q := ⟨p, ns, rfl, h, q⟩
/-- xs[a:b], xs[::-1], xs + ys, xs * k of lists -/
theorem r_sll {p : Addr} {xs : List V} {lo hi : Option Int} (h : SqL K H p xs) (q : ∀ l H1, H l = none → Same H H1 → H1 l = some (.lst (cutV xs lo hi)) → Q (.ref l) H1) : rSlL K (.ref p) lo hi H Q := ⟨p, xs, rfl, h, r_new q⟩
def RevV (K : PySem.W.Frag) (x : V) (H : Hp) (Q : VK) : Prop := ∃ a xs, x = .ref a ∧ SqL K H a xs ∧ ∀ p, H p = none → Q (.ref p) (upd H p (.lst xs.reverse))
theorem r_revl (h : te σ H fun x H1 => RevV K x H1 Q) : tRevL K te σ H Q := h
theorem r_revV {p : Addr} {xs : List V} (h : SqL K H p xs) (q : ∀ l H1, H l = none → Same H H1 → H1 l = some (.lst xs.reverse) → Q (.ref l) H1) : RevV K (.ref p) H Q := ⟨p, xs, rfl, h, r_new q⟩
theorem r_cat {l b : Addr} {xs zs : List V} (h1 : H l = some (.lst xs)) (h2 : H b = some (.lst zs)) (hz : xs.length + zs.length ≤ sizeLine) (q : ∀ p H1, H p = none → Same H H1 → H1 p = some (.lst (xs ++ zs)) → Q (.ref p) H1) : rCat (.ref l) (.ref b) H Q := ⟨l, b, xs, zs, rfl, rfl, h1, h2, hz, r_new q⟩
theorem r_ixl {p : Addr} {xs : List V} {i : Int} {v : V} (h : SqL K H p xs) (e : atI xs i = some v) (q : Q v H) : rIxL K (.ref p) (.int i) H Q := ⟨p, xs, i, v, rfl, rfl, h, e, q⟩
theorem r_ixt {p : Addr} {xs : List V} {i : Int} {v : V} (h : SqT K H p xs) (e : atI xs i = some v) (q : Q v H) : rIxT K (.ref p) (.int i) H Q := ⟨p, xs, i, v, rfl, rfl, h, e, q⟩
theorem r_bm {T : String} {r : V → List V → Hp → VK → Prop} {to : TE} {tA : TA} (h : to σ H fun x H1 => tyV K T x H1 ∧ tA σ H1 fun xs H2 => r x xs H2 Q) : tBM K T r to tA σ H Q := h
theorem r_bm0 {T : String} {r : V → List V → Hp → VK → Prop} {to : TE} (h : to σ H fun x H1 => tyV K T x H1 ∧ r x [] H1 Q) : tBM0 K T r to σ H Q := h
theorem ty_l {p : Addr} {xs : List V} (h : H p = some (.lst xs)) : tyV K "list" (.ref p) H := .inl ⟨rfl, _, sq_of h⟩
theorem r_app {p : Addr} {xs : List V} {y : V} (h : H p = some (.lst xs)) (l : xs.length < sizeLine) (q : ∀ H1, But p H H1 → H1 p = some (.lst (xs ++ [y])) → Q .non H1) : rAppend (.ref p) [y] H Q := ⟨p, xs, y, rfl, rfl, h, l, q _ But.upd upd_same⟩
theorem r_ext {p b : Addr} {xs zs : List V} (h : H p = some (.lst xs)) (hb : H b = some (.lst zs)) (l : xs.length + zs.length ≤ sizeLine) (q : ∀ H1, But p H H1 → H1 p = some (.lst (xs ++ zs)) → Q .non H1) : rExtend (.ref p) [.ref b] H Q := ⟨p, b, xs, zs, rfl, rfl, h, hb, l, q _ But.upd upd_same⟩
theorem r_sub {to ti : TE} {ts : TSet} {v : V} {P : L2.St → Hp → Prop} (h : to σ H fun o H1 => ti σ H1 fun i H2 => ts o i v H2 fun H3 => P σ H3) : gSub to ti ts v σ H P := h
theorem r_asgG {g : TG} (h : te σ H fun x H1 => g x σ H1 D.nx) : tAsg te g D σ H := h
theorem r_setl {p : Addr} {xs : List V} {k : Int} {j : Nat} {v : V} {P : Hp → Prop} (h : H p = some (.lst xs)) (e : ixN xs.length k = some j) (q : ∀ H1, But p H H1 → H1 p = some (.lst (xs.set j v)) → P H1) : rSetL (.ref p) (.int k) v H P := ⟨p, xs, k, j, rfl, rfl, h, e, q _ But.upd upd_same⟩
/-! ### objects -/
def FldV (K : PySem.W.Frag) (f : Str) (x : V) (H : Hp) (Q : VK) : Prop := ∃ a C dx fs v, x = .ref a ∧ H a = some (.ins C dx fs) ∧ Cls K C ∧ NoAttr K C f ∧ fs.lookup f = some v ∧ Q v H
theorem r_fld {f : Str} (h : ta σ H fun x H1 => FldV K f x H1 Q) : tFld K ta f σ H Q := h
def SFldV (K : PySem.W.Frag) (f : Str) (y x : V) (H : Hp) (N : Hp → Prop) : Prop := ∃ a C dx fs, x = .ref a ∧ H a = some (.ins C dx fs) ∧ Cls K C ∧ NoAttr K C f ∧ fs.length < 1000 ∧ N (upd H a (.ins C dx (putF f y fs)))
theorem r_sfld {f : Str} {tv : TE} (h : tv σ H fun y H1 => ta σ H1 fun x H2 => SFldV K f y x H2 fun H3 => D.nx σ H3) : sFld K ta tv f D σ H := h
theorem r_sfldV {f : Str} {y : V} {p C dx : Addr} {fs : List (Str × V)} {N : Hp → Prop} (hp : H p = some (.ins C dx fs)) (cl : Cls K C) (na : NoAttr K C f) (l : fs.length < 1000) (h : ∀ H1, But p H H1 → H1 p = some (.ins C dx (putF f y fs)) → N H1) : SFldV K f y (.ref p) H N := ⟨p, C, dx, fs, rfl, hp, cl, na, l, h _ But.upd upd_same⟩
def MethV (C : Addr) (m : Str) (sp : Sp) (x : V) (t : (List V → Hp → Prop) → Hp → Prop) (dvs : List V) (H : Hp) (Q : VK) (E : XK) : Prop := ∃ a dx fs, x = .ref a ∧ H a = some (.ins C dx fs) ∧ fs.lookup m = none ∧ t (fun vs H2 => sp (x :: (vs ++ dvs)) H2 Q E) H
theorem r_meth {C : Addr} {m : Str} {sp : Sp} {dvs : List V} {E : XK} {tA : TA} (h : ta σ H fun x H1 => MethV C m sp x (fun P H => tA σ H P) dvs H1 Q E) : tMeth C m sp dvs E ta tA σ H Q := h
def MakeV (C : Addr) (sp : Sp) (vs : List V) (H : Hp) (Q : VK) (E : XK) : Prop := ∀ x dx, H x = none → H dx = none → dx ≠ x → sp (.ref x :: vs) (upd (upd H dx (.own x)) x (.ins C dx [])) (fun v H2 => v = .non ∧ Q (.ref x) H2) E
theorem r_make {C : Addr} {sp : Sp} {dvs : List V} {E : XK} {tA : TA} (h : tA σ H fun vs H1 => MakeV C sp (vs ++ dvs) H1 Q E) : tMake C sp dvs E tA σ H Q := h
theorem r_makeV {C : Addr} {sp : Sp} {vs : List V} {E : XK} (h : ∀ x dx H1, H x = none → Same H H1 → H1 x = some (.ins C dx []) → sp (.ref x :: vs) H1 (fun v H2 => v = .non ∧ Q (.ref x) H2) E) : MakeV C sp vs H Q E := fun x dx nx nd ne => h x dx _ nx (fun b o e => by
  rw [upd_ne (ne_of_none e nx), upd_ne (ne_of_none e nd)]
  exact e) upd_same
end
end RC

/-! ### the words: walk_at "go" takes every step that asks nothing; walk_at "hp" looks a fact up along the heaps -/
open RC in
local macro_rules | `(tactic| walk_at "hp") => `(tactic| first
  | assumption
  | exact L2.upd_same
  | exact L2.Same.refl _
  | (with_reducible refine RC.sq_of ?_; walk_at "hp")
  | (with_reducible refine RC.st_of ?_; walk_at "hp")
  | (refine RC.Same.app (by assumption) ?_; walk_at "hp")
  | (refine RC.Same.lst (by assumption) ?_; walk_at "hp")
  | (refine RC.Same.tup (by assumption) ?_; walk_at "hp")
  | (refine RC.Same.dp (by assumption) ?_; walk_at "hp")
  | (refine L2.Same.trans ?_ (by assumption); walk_at "hp"))
local macro_rules | `(tactic| walk_at "st") => `(tactic| first
  | with_reducible refine RC.r_seq ?_
  | with_reducible refine RC.r_asg ?_
  | (with_reducible show L2.tVar _ _ _ _; refine RC.r_var rfl ?_)
  | with_reducible refine RC.r_c ?_
  | with_reducible refine RC.r_op ?_
  | with_reducible refine RC.r_I0 ?_
  | with_reducible refine RC.r_un ?_
  | with_reducible refine RC.r_U ?_
  | (with_reducible show L2.rEq _ _ _ _; refine RC.r_eq rfl ?_)
  | (with_reducible show L2.rNe _ _ _ _; refine RC.r_ne rfl ?_)
  | with_reducible refine RC.r_test ?_
  | with_reducible refine RC.r_B ?_
  | with_reducible refine RC.r_bl ?_
  | with_reducible refine RC.r_int ?_
  | with_reducible refine RC.r_ifs ?_
  | with_reducible refine RC.r_tt ?_
  | with_reducible refine RC.r_ff ?_
  | with_reducible refine RC.r_ntt ?_
  | with_reducible refine RC.r_nff ?_
  | with_reducible refine RC.r_ret ?_
  | with_reducible refine RC.r_drop ?_
  | with_reducible refine RC.r_next ?_
  | with_reducible refine RC.r_cons ?_
  | with_reducible refine RC.r_nil ?_
  | with_reducible refine RC.r_call ?_
  | with_reducible refine RC.r_cb ?_
  | with_reducible refine RC.r_fld ?_
  | with_reducible refine RC.r_sfld ?_
  | with_reducible refine RC.r_meth ?_
  | with_reducible refine RC.r_make ?_
  | with_reducible refine RC.r_not ?_
  | with_reducible refine RC.r_yes ?_
  | with_reducible refine RC.r_and ?_
  | with_reducible refine RC.r_or ?_
  | with_reducible refine RC.r_andV ?_
  | with_reducible refine RC.r_orV ?_
  | with_reducible refine RC.r_notV ?_
  | with_reducible refine RC.r_ifE ?_
  | with_reducible refine RC.r_tup ?_
  | with_reducible refine RC.r_lst ?_
  | with_reducible refine RC.r_slc ?_
  | with_reducible refine RC.r_nopart ?_
  | with_reducible refine RC.r_part ?_
  | with_reducible refine RC.r_par ?_
  | with_reducible refine RC.r_par2 ?_
  | with_reducible refine RC.r_for ?_
  | with_reducible refine RC.r_rng1 ?_
  | with_reducible refine RC.r_ilist ?_
  | with_reducible refine RC.r_itup ?_
  | with_reducible refine RC.r_rng2 ?_
  | with_reducible refine RC.r_bits ?_
  | with_reducible refine RC.r_bitV ?_
  | with_reducible refine RC.r_int1 ?_
  | with_reducible refine RC.r_max2 ?_
  | with_reducible refine RC.r_min2 ?_
  | with_reducible refine RC.r_revl ?_
  | with_reducible refine RC.r_gname ?_
  | with_reducible refine RC.r_gcons ?_
  | with_reducible refine RC.r_gnil ?_
  | with_reducible refine RC.r_bm ?_
  | with_reducible refine RC.r_bm0 ?_
  | with_reducible refine RC.r_sub ?_
  | with_reducible refine RC.r_asgG ?_)
local macro_rules | `(tactic| walk_at "go") => `(tactic| repeat walk_at "st")

/-! ## Operations that the hand layer lacks -/
namespace RC
open PySem PySem.Spec PyProof.Rows L2

/-- a rule of a context, its class table by a name -/
theorem kOf {β : Type _} (F : PySem.W.Frag → β) {G : β → Prop} {K K' : PySem.W.Frag} (h : G (F K')) (e : K' = K) : G (F K) := e ▸ h

/-! ### powers of great numbers -/
def CPowW (i j : Int) : Prop := 0 ≤ j ∧ (Builtin.Int.intBits i : Int) * j ≤ 2 ^ 27
theorem op_powW {X : Cx} : OpR X (binaryOp .Pow) (rI CPowW fun i j => .int (i ^ j.toNat)) := opI fun _ _ _ _ _ _ _ hc q => pow_int hc.1 hc.2 q

/-! ### t[::-1] -/
section
open HT
variable {prog : Program} {w : World} {A : Around} {E : Value → Shared → Prop} {s : Shared}
theorem adjust_rev (n : Nat) : Builtin.Slice.sliceAdjust none none (-1) (n : Int) = ((n : Int) - 1, -1) := rfl
theorem places_rev (n : Nat) : Builtin.Slice.slicePlaces ((n : Int) - 1) (-1) (-1) = n := by
  unfold Builtin.Slice.slicePlaces
  rw [if_neg (by decide)]
  by_cases h : (n : Int) - 1 > -1
  · rw [if_pos h]
    have e : -(-1 : Int) = 1 := rfl
    rw [e, Int.ediv_one]
    omega
  · rw [if_neg h]
    show (0 : Int).toNat = n
    have : n = 0 := by omega
    subst this
    rfl
theorem applied_rev {sl : Addr} {t : Tok} {n : Nat} {Q : Int × Int × Nat → Shared → Prop} (hs : s.heap.IsSliceOf sl .none .none (.int (-1) t))
    (h : Q ((n : Int) - 1, -1, n) s) : wpAny (model prog w) A (Builtin.Slice.sliceApplied (.ref sl) (pure (n : Int))) Q E s := by
  obtain ⟨os, hos, hcs, hds⟩ := id hs
  unfold Builtin.Slice.sliceApplied Builtin.Slice.sliceFields
  refine wpAny_bind (wpAny_bind (wpAny_field hos hds (x := .none) rfl (wpAny_bind (wpAny_field hos hds (x := .none) rfl (wpAny_bind (wpAny_field hos hds (x := .int (-1) t) rfl (wpAny_pure ?_)))))))
  refine wpAny_bind (slicePart_int ?_)
  show wpAny _ _ (if ((-1 : Int) == 0) = true then _ else _) _ _ s
  rw [if_neg (by decide)]
  refine wpAny_bind (slicePart_none (wpAny_bind (slicePart_none (wpAny_bind (wpAny_pure ?_)))))
  show wpAny _ _ (match Builtin.Slice.sliceAdjust none none (-1) (n : Int) with | (lo, hi) => pure (lo, (-1 : Int), Builtin.Slice.slicePlaces lo hi (-1))) _ _ s
  rw [adjust_rev n]
  show wpAny _ _ (pure ((n : Int) - 1, (-1 : Int), Builtin.Slice.slicePlaces ((n : Int) - 1) (-1) (-1))) _ _ s
  rw [places_rev]
  exact wpAny_pure h
theorem pick_rev (xs : Array Value) : ((List.range xs.size).filterMap fun (m : Nat) => xs[(((xs.size : Int) - 1) + (m : Int) * (-1)).toNat]?).toArray = xs.toList.reverse.toArray := by
  congr 1
  apply List.ext_getElem?
  intro i
  have h1 : ∀ k, k ≤ xs.size → (List.range k).filterMap (fun (m : Nat) => xs[(((xs.size : Int) - 1) + (m : Int) * (-1)).toNat]?) = (List.range k).map fun m => xs[xs.size - 1 - m]! := by
    intro k
    induction k with
    | zero => intro _; rfl
    | succ k ih =>
      intro hk
      rw [List.range_succ, List.filterMap_append, List.map_append, ih (by omega)]
      congr 1
      have e : (((xs.size : Int) - 1) + (k : Int) * (-1)).toNat = xs.size - 1 - k := by omega
      have hl : xs.size - 1 - k < xs.size := by omega
      show List.filterMap (fun m : Nat => xs[(((xs.size : Int) - 1) + (m : Int) * (-1)).toNat]?) [k] = [xs[xs.size - 1 - k]!]
      rw [List.filterMap_cons]
      have e2 : xs[(((xs.size : Int) - 1) + (k : Int) * (-1)).toNat]? = some xs[xs.size - 1 - k] := by
        rw [e]
        exact Array.getElem?_eq_getElem hl
      rw [e2]
      show _ :: List.filterMap _ [] = _
      rw [List.filterMap_nil, getElem!_pos xs (xs.size - 1 - k) hl]
  rw [h1 xs.size (Nat.le_refl _), List.getElem?_map]
  by_cases hi : i < xs.size
  · rw [List.getElem?_range hi, List.getElem?_reverse (by simpa using hi)]
    have hl : xs.size - 1 - i < xs.size := by omega
    show some (xs[xs.size - 1 - i]!) = _
    rw [getElem!_pos xs (xs.size - 1 - i) hl, Array.getElem?_toList, Array.length_toList, Array.getElem?_eq_getElem hl]
  · rw [List.getElem?_eq_none (by simpa using hi), List.getElem?_eq_none (by simpa using hi)]
    rfl
/-- what the tuple's own index method does at a key that walks back over the whole -/
theorem back_body {B : Around} {t sl : Addr} {items : Array Value} {tk : Tok} {G : PySem.Fin → Shared → Prop} (ht : IsTup s.heap t items) (hs : s.heap.IsSliceOf sl .none .none (.int (-1) tk)) (few : items.size ≤ sizeLine)
    (done : G (.done (.ret (.ref s.heap.objs.size))) { s with heap := s.heap.push { cls := .type "tuple", data := .seq items.toList.reverse.toArray } }) :
    wpAny (model prog w) B (Builtin.«tuple.__getitem__» ⟨[.ref t, .ref sl], []⟩) G E s := by
  have key : s.TypeIs (.ref sl) "slice" := by
    obtain ⟨o, ho, c, _⟩ := hs
    exact ⟨o, ho, c⟩
  have fits : sizeOk (.seq items.toList.reverse.toArray) := by
    show _ ≤ sizeLine
    simpa using few
  have notWhole : ((((items.size : Int) - 1 : Int) == 0) && ((-1 : Int) == 1) && (items.size == items.size)) = false := by
    rw [show ((-1 : Int) == 1) = false by decide]
    simp
  show wpAny _ _ (Builtin.Tuple.tupleItemsOf (.ref t) >>= _) _ _ s
  refine wpAny_bind (tupleItemsOf_ ht (wpAny_bind (wpAny_typeOf key ?_)))
  rw [if_pos (by decide)]
  refine wpAny_bind (applied_rev hs ?_)
  show wpAny _ _ (if ((((items.size : Int) - 1 : Int) == 0) && ((-1 : Int) == 1) && (items.size == items.size)) = true then _ else _) _ _ s
  rw [notWhole, if_neg Bool.false_ne_true, pick_rev]
  have made := fun (M : Model) (B' : Around) (R : Value → Shared → Prop) (r : R _ _) => wpAny_newObj_type (M := M) (A := B') (E := E) (Q := R) (s := s) (T := "tuple") (dict := none) r fits
  refine wpAny_bind ?_
  first
    | exact made _ _ _ (wpAny_pure done)
    | exact wpAny_bind (made _ _ _ (wpAny_pure (wpAny_pure done)))
theorem tuple_back {t sl : Addr} {items : Array Value} {tk : Tok} {Q : Value → Shared → Prop} (ht : IsTup s.heap t items) (hs : s.heap.IsSliceOf sl .none .none (.int (-1) tk)) (few : items.size ≤ sizeLine)
    (done : Q (.ref s.heap.objs.size) { s with heap := s.heap.push { cls := .type "tuple", data := .seq items.toList.reverse.toArray } }) :
    wpAny (model prog w) A (getItem (.ref t) (.ref sl)) Q E s := by
  have own := ht.typeIs
  have road := PyProof.Rows.slot_tuple_getitem
  unfold getItem
  apply wpAny_holding
  apply wpAny_bind
  apply wpAny_sequenceKey own (by decide)
  apply wpAny_bind
  apply wpAny_callSpecial?_slot own road
  apply wpAny_call_entry road own entry_tuple_getitem _ (args_tuple_getitem _ _)
  exact back_body ht hs few ⟨_, rfl, wpAny_pure done⟩
end
section
variable {X : Cx}
/-- nothing but the part's number is told, and the heap stays -/
def Stays (H : Hp) (n : Option Int) : Option Int → Hp → Prop := fun m H' => m = n ∧ H' = H
/-- the key ::-1 -/
theorem key_back {pins : List (Addr × Obj)} {σ : L2.St} {H : Hp} {s : Shared} {k : Nat} {p1 p2 p3 : Pos} {R : Value → Shared → Prop} (I : Inv X pins σ H s)
    (h : ∀ s' sl tk, Inv X pins σ H s' → s'.heap.IsSliceOf sl .none .none (.int (-1) tk) → R (.ref sl) s') :
    wpAny (model X.prog X.w) X.A (eval (.Slice none none (some (.UnaryOp .USub (.Constant (.int 1) k p1) p2)) p3) X.env) R X.xe s := by
  have minus := po_some (X := X) (pe_un (pos := p2) un_neg (pe_int (i := 1) (j := k) (pos := p1)))
  apply wpAny_Slice
  refine thn (po_none.run pins s σ H (Stays H none) I ⟨rfl, rfl⟩) ?_
  rintro lo s1 ⟨_, _, I1, plo, rfl, rfl⟩
  cases plo
  refine thn (po_none.run pins s1 σ _ (Stays _ none) I1 ⟨rfl, rfl⟩) ?_
  rintro hi s2 ⟨_, _, I2, phi, rfl, rfl⟩
  cases phi
  refine thn (minus.run pins s2 σ _ (Stays _ (some (-1))) I2 ⟨1, rfl, -1, rfl, rfl, rfl⟩) ?_
  rintro st s3 ⟨_, _, I3, pst, rfl, rfl⟩
  cases pst
  rename_i tk
  exact h _ _ tk (I3.kept (t' := s3.toks) fun b ob q => Heap.get?_push_of_some _ q) (Heap.IsSliceOf.new _ .none .none (.int (-1) tk))
def tRevT (K : PySem.W.Frag) (te : TE) : TE := fun σ H Q => te σ H fun x H1 => ∃ a xs, x = .ref a ∧ SqT K H1 a xs ∧ ∀ p, H1 p = none → Q (.ref p) (upd H1 p (.tup xs.reverse))
theorem pe_revT {e : Expr} {te : TE} {k : Nat} {p1 p2 p3 pos : Pos} (he : PE X e te) :
    PE X (.Subscript e (.Slice none none (some (.UnaryOp .USub (.Constant (.int 1) k p1) p2)) p3) pos) (tRevT X.K te) := by
  constructor
  intro pins s σ H Q I h
  apply Subscript_
  refine thn (he.run pins s σ H _ I h) ?_
  rintro v s1 ⟨_, H1, I1, r1, a, xs, rfl, hx, q⟩
  cases r1
  apply key_back I1
  intro s2 sl tk J hsl
  obtain ⟨its, r, ht, hz⟩ := J.tuple hx
  have n := r.length
  refine tail_any (ops := [.ref a, .ref sl]) ht.typeIs PyProof.Rows.slot_tuple_getitem.lookup (tuple_back ht hsl (by simpa [← n] using hz) ?_) (by with_unfolding_all rfl)
  have room : xs.reverse.length ≤ sizeLine := by simpa using hz
  refine ⟨.ref s2.heap.objs.size, _, J.laid (t' := s2.toks) (o := .tup xs.reverse) (fun b ob q => Heap.get?_push_of_some _ q) (Nat.le_refl _) ?there, rfl, q _ (J.hok.fresh (Nat.le_refl _))⟩
  case there => exact ⟨room, its.toArray.toList.reverse, by simpa using r.reverse, _, Heap.get?_push_size _ rfl, rfl, 0, rfl⟩
end

/-! ### a def's promise, called in any surroundings -/
section
variable {X : Cx} {pins : List (Addr × Obj)} {σ : L2.St} {H : Hp} {s : Shared}
theorem run_at {CX : CXT} {A : Around} {k : Nat} {f : Addr} {fd : FuncData} {ps : List Str} {sp : Sp} {E : XK} {Q : VK} {us : List Value} {vs : List V} (F : FnOk X.prog X.w X.K X.mg X.base CX k f fd ps sp) (hr : Room k A)
    (e0 : Env0 X.prog X.w X.K X.mg X.base A X.stack s H) (hb : Binds X.K fd ps []) (hx : Passes CX X E) (I : Inv X pins σ H s) (r : Vals vs us) (h : sp vs H Q E) : wpAny (model X.prog X.w) A (call (.ref f) us) (EP X pins σ Q) X.xe s := by
  have hl : us.length = ps.length := r.length.symm.trans (F.len _ _ _ _ h)
  refine wpAny_call (codeAny_mono (F.run A X.stack s H ⟨us, []⟩ us vs Q E hr e0 (by
    have := hb s us I.kIn (by simpa using hl)
    simpa using this) r h) fun q s' hq => ?_)
  cases q with
  | error e => exact hx pins σ H s e s' I hq
  | ok fl =>
    cases fl with
    | ret w => exact I.after hq
    | next => exact False.elim hq
    | brk => exact False.elim hq
    | cont => exact False.elim hq

/-! ### len(o), o == p, o != p by own methods -/
/-- what an own method of a plain class promises at an object of this class -/
def rLenO (C : Addr) (sp : Sp) (E : XK) : List V → Hp → VK → Prop := fun xs H Q => ∃ a dx fs, xs = [.ref a] ∧ H a = some (.ins C dx fs) ∧ sp [.ref a] H (fun v H' => ∃ n : Int, v = .int n ∧ (0 ≤ n ∧ n < 2 ^ 63) ∧ Q (.int n) H') E
theorem call_lenOwn {CX : CXT} {C f : Addr} {k : Nat} {fd : FuncData} {ps : List Str} {sp : Sp} {E : XK} (hm : Meth X.K C "__len__" f) (F : FnOk X.prog X.w X.K X.mg X.base CX k f fd ps sp) (hr : Room (k + 1) X.A) (hb : Binds X.K fd ps []) (hx : Passes CX X E) :
    CallR X (.builtin "len") (rLenO C sp E) := by
  intro pins s σ H xs us Q I r h
  obtain ⟨a, dx, fs, rfl, ha, h⟩ := h
  obtain ⟨u, rfl, ru⟩ := vals1 r
  cases (show u = Value.ref a from ru)
  obtain ⟨mA, J, _⟩ := ins_get I.hok ha
  obtain ⟨od, J, _⟩ := J.look
  obtain ⟨m, hF⟩ := I.fr
  refine PySem.W.len_K hF I.ok.mod.kin J hm.at_ hm.fn (wpAny_mono (run_at F hr.in1 I.env0.in1 hb hx I r h) (fun v s' hv => ?_) fun _ _ x => x)
  obtain ⟨v', H', I', rv, n, ev, hn, q⟩ := hv
  subst ev
  obtain ⟨t, rfl⟩ := rv
  exact ⟨hn, .int n, H', I'.tok _, ⟨_, rfl⟩, q⟩
/-- what may stand on the other side: a value of a known type, no subclass -/
def Other (K : PySem.W.Frag) (C : Addr) (H : Hp) (y : V) : Prop := ∃ t, TyX K H y t ∧ PySem.W.notFirst K C t = true
theorem other_looks {C : Addr} {y : V} {u : Value} (I : Inv X pins σ H s) (r : RelV y u) (o : Other X.K C H y) : ∃ t, PySem.W.Looks (model X.prog X.w) s.heap (typeOf u) t ∧ PySem.W.notFirst X.K C t = true := by
  obtain ⟨t, ty, nf⟩ := o
  obtain ⟨P, Z, p, _⟩ := kit_of I r ty
  exact ⟨t, Z.ty _ _ I.kIn p, nf⟩
def rEqO (K : PySem.W.Frag) (C : Addr) (sp : Sp) (E : XK) : R2 := fun x y H Q => ∃ a dx fs, x = .ref a ∧ H a = some (.ins C dx fs) ∧ Other K C H y ∧ sp [.ref a, y] H (fun v H' => ∃ k, v = .bl k ∧ Q (.bl k) H') E
theorem op_eqOwn {CX : CXT} {C f : Addr} {k : Nat} {fd : FuncData} {ps : List Str} {sp : Sp} {E : XK} (hm : Meth X.K C "__eq__" f) (F : FnOk X.prog X.w X.K X.mg X.base CX k f fd ps sp) (hr : Room k X.A) (hb : Binds X.K fd ps []) (hx : Passes CX X E) :
    OpR X (compareOp .Eq) (rEqO X.K C sp E) := by
  intro pins s σ H x y v u Q I rx ry h
  obtain ⟨a, dx, fs, rfl, ha, oy, h⟩ := h
  cases (show v = Value.ref a from rx)
  obtain ⟨mA, J, _⟩ := ins_get I.hok ha
  obtain ⟨od, J, _⟩ := J.look
  obtain ⟨m, hF⟩ := I.fr
  obtain ⟨t, lt, nf⟩ := other_looks I ry oy
  show wpAny (model X.prog X.w) X.A (richCompare .Eq (.ref a) u) (EP X pins σ Q) X.xe s
  refine PySem.W.cmp_K (op := .Eq) hr.units0 hF I.ok.mod.kin J lt nf hm.at_ hm.fn (wpAny_mono (run_at F hr I.env0 hb hx I (us := [.ref a, u]) (vs := [.ref a, y]) (.cons rfl (.cons ry .nil)) h) (fun w' s' hv => ?_) fun _ _ x => x)
  obtain ⟨v', H', I', rv, k', ev, q⟩ := hv
  subst ev
  cases (show w' = Value.bool k' from rv)
  exact ⟨.bl k', H', I', rfl, q⟩
theorem bound_builtin {M : Model} {A : Around} {E : Value → Shared → Prop} {s : Shared} {K : PySem.W.Frag} {x C : Addr} {ox : Obj} {od : Option Obj} {name : Str} {id : String} {args : List Value} {Q : Option Value → Shared → Prop} (X : K.In s.heap) (I : PySem.W.InstAt s.heap x ox C od)
    (hs : PySem.W.findIn K (.ref C) name = some (some (.builtin id))) (hb : ∀ self, bindSpecial (.builtin id) self = pure (.builtin id, [self]))
    (h : wpAny M A (call (.builtin id) (.ref x :: args)) (fun v => Q (some v)) E s) : wpAny M A (callSpecialIfBound? (.ref x) name args) Q E s := by
  simp only [callSpecialIfBound?, bindSpecialIfBound?]
  refine wpAny_holding (wpAny_bind (wpAny_bind (wpAny_bind (I.type.here ((PySem.W.looks_findIn X hs).here ?_)))))
  simp only [hb]
  refine wpAny_bind (wpAny_askSetting (wpAny_ite ?_))
  have fin : wpAny M A (call (.builtin id) ([.ref x] ++ args) >>= fun v => pure (some v)) Q E s := wpAny_bind (wpAny_mono h (fun v s' h' => wpAny_pure h') fun _ _ h' => h')
  split
  · exact wpAny_bind (wpAny_pure (wpAny_pure fin))
  · exact wpAny_tryCatch (wpAny_bind (wpAny_pure (wpAny_pure fin)))
/-- object.__ne__ of an own class that has __eq__ alone -/
theorem ne_core {prog : Program} {w : World} {A : Around} {E : Value → Shared → Prop} {s : Shared} {K : PySem.W.Frag} {x C L f : Addr} {h_0 : Heap} {m : Str → Option Value} {ox : Obj} {od : Option Obj} {b tb : Value} {Q : Value → Shared → Prop}
    (hu : A.units + 1 < cLine) (F : Fr h_0 L s.heap m) (X_0 : K.In h_0) (I : PySem.W.InstAt s.heap x ox C od) (hb : PySem.W.Looks (model prog w) s.heap (typeOf b) tb) (hn : PySem.W.notFirst K C tb = true)
    (hne : PySem.W.findIn K (.ref C) "__ne__" = some (some (.builtin "object.__ne__"))) (heq : PySem.W.findIn K (.ref C) "__eq__" = some (some (.ref f))) (hf : PySem.W.isFn K (.ref f) = true) (hob : PySem.W.mroIn K C (.type "object") = some true)
    (h : wpAny (model prog w) A.in1 (call (.ref f) [.ref x, b]) (fun v s' => ∃ k, v = .bool k ∧ Q (.bool (!k)) s') E s) : wpAny (model prog w) A (richCompare .NotEq (.ref x) b) Q E s := by
  have X := X_0.keeps F.keep
  have entry : wpAny (model prog w) A.in1 (Builtin.«object.__ne__» ⟨[.ref x, b], []⟩) (fun f s' => ∃ k : Bool, f = .done (.ret (.bool k)) ∧ Q (.bool k) s') E s := by
    unfold Builtin.«object.__ne__»
    repeat (first
      | with_reducible refine wpAny_cRoomFor hu ?_
      | (refine wpAny_bind (m := callSpecialIfBound? (.ref x) (Str.ofString "__eq__") [b])
          (PySem.W.ifBound_K X I heq hf (wpAny_mono h (fun r s' hr => by
            obtain ⟨k, rfl, hq⟩ := hr
            repeat (first | exact ⟨_, rfl, hq⟩ | exact wpAny_pure ⟨_, rfl, hq⟩ | exact wpAny_truthy_bool ⟨_, rfl, hq⟩ | (refine wpAny_bind (m := truthy (.bool _)) (wpAny_truthy_bool ?_)) | wp_step)) fun _ _ e => e)))
      | wp_step)
  have sub : PySem.W.Looks (model prog w) s.heap (isInstance (.ref x) (.type "object")) true := I.type.andThen (PySem.W.looks_mroIn X hob)
  have S := PySem.F.cmp_object.ne
  have cl : wpAny (model prog w) A (call (.builtin "object.__ne__") [.ref x, b]) (fun v s' => ∃ k : Bool, v = .bool k ∧ Q (.bool k) s') E s := by
    refine wpAny_call (codeAny_call_builtin S.plain PySem.F.cmpEntry_ne (PySem.W.check_slot PySem.F.cmpKind_ne PySem.F.cmpSplit_ne sub (PySem.F.cmpArgs_ne _ _) (wpAny_mono entry (fun f s' hf' => ?_) fun _ _ e => e)))
    obtain ⟨k, rfl, hq⟩ := hf'
    exact ⟨k, rfl, hq⟩
  have one : wpAny (model prog w) A (tryCompare (.ref x) "__ne__" b) (fun r s' => ∃ k : Bool, r = some (.bool k) ∧ Q (.bool k) s') E s := by
    unfold tryCompare
    refine wpAny_bind (bound_builtin X I hne S.bind (wpAny_mono cl (fun v s' hv => ?_) fun _ _ e => e))
    obtain ⟨k, rfl, hq⟩ := hv
    exact wpAny_pure ⟨k, rfl, hq⟩
  unfold richCompare
  simp only [oneThing_ref]
  refine wpAny_holding (wpAny_bind (wpAny_cRoomFor (Nat.lt_of_succ_lt hu) ?_))
  refine wpAny_bind (I.type.here (wpAny_bind (hb.here ?_)))
  split
  · rename_i q
    have e : PySem.W.subIn K tb (.ref C) = some false := by
      rcases Bool.or_eq_true_iff.mp hn with e | e
      · rw [beq_iff_eq.mp e] at q; simp at q
      · exact beq_iff_eq.mp e
    refine wpAny_bind ((PySem.W.looks_subIn X e).here ?_)
    simp only [Bool.false_eq_true, if_false]
    refine wpAny_bind (wpAny_mono one (fun r s' z => ?_) fun _ _ e => e)
    obtain ⟨v, rfl, hq⟩ := z
    exact wpAny_pure hq
  · refine wpAny_bind (wpAny_pure ?_)
    simp only [Bool.false_eq_true, if_false]
    refine wpAny_bind (wpAny_mono one (fun r s' z => ?_) fun _ _ e => e)
    obtain ⟨v, rfl, hq⟩ := z
    exact wpAny_pure hq
def rNeO (K : PySem.W.Frag) (C : Addr) (sp : Sp) (E : XK) : R2 := fun x y H Q => ∃ a dx fs, x = .ref a ∧ H a = some (.ins C dx fs) ∧ Other K C H y ∧ sp [.ref a, y] H (fun v H' => ∃ k, v = .bl k ∧ Q (.bl (!k)) H') E
theorem op_neOwn {CX : CXT} {C f : Addr} {k : Nat} {fd : FuncData} {ps : List Str} {sp : Sp} {E : XK} (hm : Meth X.K C "__eq__" f) (hne : PySem.W.findIn X.K (.ref C) "__ne__" = some (some (.builtin "object.__ne__"))) (hob : PySem.W.mroIn X.K C (.type "object") = some true)
    (F : FnOk X.prog X.w X.K X.mg X.base CX k f fd ps sp) (hr : Room (k + 1) X.A) (hb : Binds X.K fd ps []) (hx : Passes CX X E) :
    OpR X (compareOp .NotEq) (rNeO X.K C sp E) := by
  intro pins s σ H x y v u Q I rx ry h
  obtain ⟨a, dx, fs, rfl, ha, oy, h⟩ := h
  cases (show v = Value.ref a from rx)
  obtain ⟨mA, J, _⟩ := ins_get I.hok ha
  obtain ⟨od, J, _⟩ := J.look
  obtain ⟨m, hF⟩ := I.fr
  obtain ⟨t, lt, nf⟩ := other_looks I ry oy
  show wpAny (model X.prog X.w) X.A (richCompare .NotEq (.ref a) u) (EP X pins σ Q) X.xe s
  refine ne_core (by have := hr.units; omega) hF I.ok.mod.kin J lt nf hne hm.at_ hm.fn hob (wpAny_mono (run_at F hr.in1 I.env0.in1 hb hx I (us := [.ref a, u]) (vs := [.ref a, y]) (.cons rfl (.cons ry .nil)) h) (fun w' s' hv => ?_) fun _ _ x => x)
  obtain ⟨v', H', I', rv, k', ev, q⟩ := hv
  subst ev
  cases (show w' = Value.bool k' from rv)
  exact ⟨k', rfl, .bl (!k'), H', I', rfl, q⟩
end
end RC

/-! ## Data as a whole: ints, lists, tuples; what == and < say of them -/
namespace RC
open PySem PySem.Spec PyProof.Rows L2
abbrev iv (ns : List Int) : List V := ns.map V.int
abbrev dI (ns : List Int) : PyData := .list (ns.map .int)
abbrev tI (ns : List Int) : PyData := .tuple (ns.map .int)
section
variable {K : PySem.W.Frag} {H : Hp} {a b : Addr} {ns ms : List Int}
theorem dpa_ints : ∀ ns : List Int, DpAll K H (iv ns) (ns.map .int)
  | [] => .nil
  | n :: ns => .cons (.int n) (dpa_ints ns)
theorem dp_ints (h : SqL K H a (iv ns)) : Dp K H (.ref a) (dI ns) := .lst h (dpa_ints ns)
theorem dp_tints (h : SqT K H a (iv ns)) : Dp K H (.ref a) (tI ns) := .tup h (dpa_ints ns)
theorem lay_ints : ∀ ns : List Int, PyData.canLayAll0 (ns.map .int) = true
  | [] => by simp [PyData.canLayAll0]
  | n :: ns => by simp [PyData.canLayAll0, PyData.canLay0, lay_ints ns]
theorem dep_ints : ∀ ns : List Int, PyData.depthAll (ns.map .int) = 0
  | [] => by simp [PyData.depthAll]
  | n :: ns => by simp [PyData.depthAll, PyData.depth, dep_ints ns]
theorem shaped_dI (ns : List Int) : SeqAt.shaped (dI ns) = true := by simp [SeqAt.shaped, PyData.canLay0, PyData.depth, lay_ints, dep_ints]
theorem shaped_tI (ns : List Int) : SeqAt.shaped (tI ns) = true := by simp [SeqAt.shaped, PyData.canLay0, PyData.depth, lay_ints, dep_ints]
theorem eqvAll_ints : ∀ ns ms : List Int, PyData.eqvAll (ns.map .int) (ms.map .int) = decide (ns = ms)
  | [], [] => by simp [PyData.eqvAll]
  | [], m :: ms => by simp [PyData.eqvAll]
  | n :: ns, [] => by simp [PyData.eqvAll]
  | n :: ns, m :: ms => by
    rw [List.map_cons, List.map_cons, PyData.eqvAll, eqvAll_ints ns ms, PyData.eqv]
    by_cases h : n = m
    · subst h
      simp
    · have e : (n == m) = false := by simpa using h
      rw [e, Bool.false_and, decide_eq_false]
      intro q
      exact h (List.cons.inj q).1
theorem eqv_dI (ns ms : List Int) : PyData.eqv (dI ns) (dI ms) = decide (ns = ms) := by rw [PyData.eqv, eqvAll_ints]
theorem eqv_tI (ns ms : List Int) : PyData.eqv (tI ns) (tI ms) = decide (ns = ms) := by rw [PyData.eqv, eqvAll_ints]
theorem r_eqD {x y : V} {d e : PyData} {Q : VK} (hx : Dp K H x d) (hy : Dp K H y e) (sd : SeqAt.shaped d = true) (se : SeqAt.shaped e = true) (h : Q (.bl (PyData.eqv d e)) H) : rEqD K x y H Q := ⟨d, e, hx, hy, sd, se, h⟩
theorem r_neD {x y : V} {d e : PyData} {Q : VK} (hx : Dp K H x d) (hy : Dp K H y e) (sd : SeqAt.shaped d = true) (se : SeqAt.shaped e = true) (h : Q (.bl (!PyData.eqv d e)) H) : rNeD K x y H Q := ⟨d, e, hx, hy, sd, se, h⟩
theorem r_eqI {Q : VK} (hx : SqL K H a (iv ns)) (hy : SqL K H b (iv ms)) (h : Q (.bl (decide (ns = ms))) H) : rEqD K (.ref a) (.ref b) H Q := r_eqD (dp_ints hx) (dp_ints hy) (shaped_dI _) (shaped_dI _) (by rw [eqv_dI]; exact h)
theorem r_neI {Q : VK} (hx : SqL K H a (iv ns)) (hy : SqL K H b (iv ms)) (h : Q (.bl (!decide (ns = ms))) H) : rNeD K (.ref a) (.ref b) H Q := r_neD (dp_ints hx) (dp_ints hy) (shaped_dI _) (shaped_dI _) (by rw [eqv_dI]; exact h)
theorem r_eqT {Q : VK} (hx : SqT K H a (iv ns)) (hy : SqT K H b (iv ms)) (h : Q (.bl (decide (ns = ms))) H) : rEqD K (.ref a) (.ref b) H Q := r_eqD (dp_tints hx) (dp_tints hy) (shaped_tI _) (shaped_tI _) (by rw [eqv_tI]; exact h)
theorem at_ints {j : Nat} {v : Int} (h : ns[j]? = some v) : atI (iv ns) (j : Int) = some (.int v) := atI_nat (by rw [List.getElem?_map, h]; rfl)
theorem at_ints_last {v : Int} (h : ns.getLast? = some v) : atI (iv ns) (-1) = some (.int v) := by
  have hne : ns ≠ [] := fun e => by rw [e] at h; cases h
  have e : iv ns = iv ns.dropLast ++ [V.int v] := by
    have h2 : ns.dropLast ++ [v] = ns := by
      have := List.dropLast_concat_getLast hne
      rw [List.getLast?_eq_some_getLast hne] at h
      rw [← Option.some.inj h]
      exact this
    show ns.map V.int = ns.dropLast.map V.int ++ [V.int v]
    rw [← h2]
    simp
  rw [e]
  exact atI_last _ _
end
end RC

/-! ## The head's facts, and what isinstance and != ask of own classes besides -/
namespace RC
open PySem PySem.Spec PyProof.Rows L2 He
/-- what isinstance and != ask of an own class -/
structure ClsX (K : PySem.W.Frag) (C : Addr) : Prop where
  ha : PySem.W.findIn K (.ref C) "__class__" = some (some (.builtin "object.__class__"))
  hn : PySem.W.specialIn K (.builtin "object.__class__") "__get__" = some (some (.builtin "getset_descriptor.__get__"))
  htk : PySem.W.takesIn K (.builtin "object.__class__") = some true
  hm : PySem.W.mroIn K C (.type "object") = some true
  ne : PySem.W.findIn K (.ref C) "__ne__" = some (some (.builtin "object.__ne__"))
def clsB (K : PySem.W.Frag) (x : Str) : Bool :=
  decide (PySem.W.findIn K (.ref (ga K x)) "__class__" = some (some (.builtin "object.__class__"))) && (decide (PySem.W.specialIn K (.builtin "object.__class__") "__get__" = some (some (.builtin "getset_descriptor.__get__"))) &&
    (decide (PySem.W.takesIn K (.builtin "object.__class__") = some true) && (decide (PySem.W.mroIn K (ga K x) (.type "object") = some true) && decide (PySem.W.findIn K (.ref (ga K x)) "__ne__" = some (some (.builtin "object.__ne__"))))))
theorem clsB_ok {K : PySem.W.Frag} {x : Str} (h : clsB K x = true) : ClsX K (ga K x) := by
  obtain ⟨h1, h⟩ := ba h
  obtain ⟨h2, h⟩ := ba h
  obtain ⟨h3, h⟩ := ba h
  obtain ⟨h4, h5⟩ := ba h
  exact ⟨of_decide_eq_true h1, of_decide_eq_true h2, of_decide_eq_true h3, of_decide_eq_true h4, of_decide_eq_true h5⟩
/-- a class by its name: a built-in, an own one -/
inductive Tn where
  | ty (n : String)
  | own (x : Str)
def Tn.v (K : PySem.W.Frag) : Tn → Value
  | .ty n => .type n
  | .own x => .ref (ga K x)
/-- isinstance's answer for a value of the class a, asked of b -/
structure Kq where
  a : Tn
  b : Tn
  r : Bool
def Kq.ok (K : PySem.W.Frag) (q : Kq) : Bool := decide (PySem.W.kitOne K (q.a.v K) (q.b.v K) = some q.r)
theorem kq_ok {K : PySem.W.Frag} {q : Kq} (h : q.ok K = true) : PySem.W.kitOne K (q.a.v K) (q.b.v K) = some q.r := of_decide_eq_true h
/-- is the class a told apart from, and no subclass of, the own class at x -/
structure Nf where
  x : Str
  t : Tn
def Nf.ok (K : PySem.W.Frag) (q : Nf) : Bool := PySem.W.notFirst K (ga K q.x) (q.t.v K)
abbrev AlR : Type := AlD × Bool
def obsR (fa : List Fa) (fn : List DefD) (cs : List Str) (ks : List Kq) (ns : List Nf) (K : PySem.W.Frag) : AlR := (obsD fa fn K, (cs.all fun x => clsB K x) && ((ks.all fun q => q.ok K) && ns.all fun q => q.ok K))
def valR (fn : List DefD) : AlR := (valD fn, true)
def SaysR (fa : List Fa) (fn : List DefD) (cs : List Str) (ks : List Kq) (ns : List Nf) (K : PySem.W.Frag) : Prop := obsR fa fn cs ks ns K = valR fn
def obsRG (n : Nat) (fa : List Fa) (fn : List DefD) (cs : List Str) (ks : List Kq) (ns : List Nf) (g : Addr → Option Obj) : AlR := obsR fa fn cs ks ns (frG g (asD g n))
def hookR (n : Nat) (fa : List Fa) (fn : List DefD) (cs : List Str) (ks : List Kq) (ns : List Nf) : PySem.W.Hook where
  α := AlR
  obs := fun s => obsRG n fa fn cs ks ns s.heap.get?
  val := fun _ => valR fn
  says := fun _ h => ∃ K : PySem.W.Frag, K.In h ∧ SaysR fa fn cs ks ns K
  of := fun _ _ e => ⟨_, frG_in, e⟩
  keeps := fun _ _ _ ⟨K, hK, c⟩ k => ⟨K, PySem.W.Frag.In.keeps hK k, c⟩
theorem obsRG_eq {n : Nat} {fa : List Fa} {fn : List DefD} {cs : List Str} {ks : List Kq} {ns : List Nf} {g : Addr → Option Obj} {s : Shared} (h : ∀ a, g a = s.heap.get? a) : obsRG n fa fn cs ks ns g = (hookR n fa fn cs ks ns).obs s := by
  have e : g = s.heap.get? := funext h
  rw [e] <;> rfl
section
variable {fa : List Fa} {fn : List DefD} {cs : List Str} {ks : List Kq} {ns : List Nf} {K : PySem.W.Frag}
theorem SaysR.d (c : SaysR fa fn cs ks ns K) : SaysD fa fn K := congrArg (fun z : AlR => z.1) c
theorem SaysR.ex (c : SaysR fa fn cs ks ns K) : ((cs.all fun x => clsB K x) && ((ks.all fun q => q.ok K) && ns.all fun q => q.ok K)) = true := congrArg (fun z : AlR => z.2) c
theorem SaysR.cls (c : SaysR fa fn cs ks ns K) (i : Nat) {x : Str} (h : cs[i]? = some x := by rfl) : ClsX K (ga K x) := clsB_ok (List.all_eq_true.mp (ba c.ex).1 x (List.mem_of_getElem? h))
theorem SaysR.kit (c : SaysR fa fn cs ks ns K) (i : Nat) {q : Kq} (h : ks[i]? = some q := by rfl) : PySem.W.kitOne K (q.a.v K) (q.b.v K) = some q.r := kq_ok (List.all_eq_true.mp (ba (ba c.ex).2).1 q (List.mem_of_getElem? h))
theorem SaysR.nf (c : SaysR fa fn cs ks ns K) (i : Nat) {q : Nf} (h : ns[i]? = some q := by rfl) : PySem.W.notFirst K (ga K q.x) (q.t.v K) = true := List.all_eq_true.mp (ba (ba c.ex).2).2 q (List.mem_of_getElem? h)
end
end RC

namespace RC
open PySem PySem.Spec PyProof.Rows L2 He

abbrev PR : Program := (PySem.W.OpenLaw.row PySem.Challenge.rw_rollclerk_k12_whole_rolls_and_laps).prog
def top (i : Nat) : Stmt := PySem.Challenge.pw_rollclerk_k12_whole_rolls_and_laps.main.body.getD i (.Pass ⟨0, 0, 0, 0⟩)
abbrev s_is_whole : Stmt := (top 7)
abbrev N_is_whole : List Str := ["value"]
theorem sc_is_whole : FnScope N_is_whole ["value"] (defScope s_is_whole) := ⟨rfl, rfl, rfl, by decide +kernel, rfl, by decide +kernel, by decide +kernel⟩
abbrev s_check_number : Stmt := (top 8)
abbrev N_check_number : List Str := ["value", "least"]
theorem sc_check_number : FnScope N_check_number ["value", "least"] (defScope s_check_number) := ⟨rfl, rfl, rfl, by decide +kernel, rfl, by decide +kernel, by decide +kernel⟩
abbrev s_Roll_init : Stmt := (inClass (top 10) 0)
abbrev N_Roll_init : List Str := ["self", "worths", "worth", "firsts"]
theorem sc_Roll_init : FnScope N_Roll_init ["self", "worths"] (defScope s_Roll_init) := ⟨rfl, rfl, rfl, by decide +kernel, rfl, by decide +kernel, by decide +kernel⟩
abbrev s_Roll_worths : Stmt := (inClass (top 10) 1)
abbrev N_Roll_worths : List Str := ["self"]
theorem sc_Roll_worths : FnScope N_Roll_worths ["self"] (defScope s_Roll_worths) := ⟨rfl, rfl, rfl, by decide +kernel, rfl, by decide +kernel, by decide +kernel⟩
abbrev s_Roll_len : Stmt := (inClass (top 10) 2)
abbrev N_Roll_len : List Str := ["self"]
theorem sc_Roll_len : FnScope N_Roll_len ["self"] (defScope s_Roll_len) := ⟨rfl, rfl, rfl, by decide +kernel, rfl, by decide +kernel, by decide +kernel⟩
abbrev s_Roll_lap : Stmt := (inClass (top 10) 3)
abbrev N_Roll_lap : List Str := ["self"]
theorem sc_Roll_lap : FnScope N_Roll_lap ["self"] (defScope s_Roll_lap) := ⟨rfl, rfl, rfl, by decide +kernel, rfl, by decide +kernel, by decide +kernel⟩
abbrev s_Roll_worth : Stmt := (inClass (top 10) 4)
abbrev N_Roll_worth : List Str := ["self", "at"]
theorem sc_Roll_worth : FnScope N_Roll_worth ["self", "at"] (defScope s_Roll_worth) := ⟨rfl, rfl, rfl, by decide +kernel, rfl, by decide +kernel, by decide +kernel⟩
abbrev s_Roll_upto : Stmt := (inClass (top 10) 5)
abbrev N_Roll_upto : List Str := ["self", "many"]
theorem sc_Roll_upto : FnScope N_Roll_upto ["self", "many"] (defScope s_Roll_upto) := ⟨rfl, rfl, rfl, by decide +kernel, rfl, by decide +kernel, by decide +kernel⟩
abbrev s_Roll_total : Stmt := (inClass (top 10) 6)
abbrev N_Roll_total : List Str := ["self", "start", "length"]
theorem sc_Roll_total : FnScope N_Roll_total ["self", "start", "length"] (defScope s_Roll_total) := ⟨rfl, rfl, rfl, by decide +kernel, rfl, by decide +kernel, by decide +kernel⟩
abbrev s_Roll_torn : Stmt := (inClass (top 10) 7)
abbrev N_Roll_torn : List Str := ["self", "many", "cut"]
theorem sc_Roll_torn : FnScope N_Roll_torn ["self", "many"] (defScope s_Roll_torn) := ⟨rfl, rfl, rfl, by decide +kernel, rfl, by decide +kernel, by decide +kernel⟩
abbrev s_Roll_mirrored : Stmt := (inClass (top 10) 8)
abbrev N_Roll_mirrored : List Str := ["self"]
theorem sc_Roll_mirrored : FnScope N_Roll_mirrored ["self"] (defScope s_Roll_mirrored) := ⟨rfl, rfl, rfl, by decide +kernel, rfl, by decide +kernel, by decide +kernel⟩
abbrev s_Roll_eq : Stmt := (inClass (top 10) 9)
abbrev N_Roll_eq : List Str := ["self", "other"]
theorem sc_Roll_eq : FnScope N_Roll_eq ["self", "other"] (defScope s_Roll_eq) := ⟨rfl, rfl, rfl, by decide +kernel, rfl, by decide +kernel, by decide +kernel⟩
abbrev s_check_roll : Stmt := (top 11)
abbrev N_check_roll : List Str := ["value"]
theorem sc_check_roll : FnScope N_check_roll ["value"] (defScope s_check_roll) := ⟨rfl, rfl, rfl, by decide +kernel, rfl, by decide +kernel, by decide +kernel⟩
abbrev s_least_form : Stmt := (top 13)
abbrev N_least_form : List Str := ["row", "found", "some", "at"]
theorem sc_least_form : FnScope N_least_form ["row"] (defScope s_least_form) := ⟨rfl, rfl, rfl, by decide +kernel, rfl, by decide +kernel, by decide +kernel⟩
abbrev s_first_form : Stmt := (top 14)
abbrev N_first_form : List Str := ["roll"]
theorem sc_first_form : FnScope N_first_form ["roll"] (defScope s_first_form) := ⟨rfl, rfl, rfl, by decide +kernel, rfl, by decide +kernel, by decide +kernel⟩
abbrev s_l_mixed : Stmt := (top 16)
abbrev N_l_mixed : List Str := ["_law_cell", "_law_k", "_law_number"]
theorem sc_l_mixed : FnScope N_l_mixed ["_law_cell", "_law_k"] (defScope s_l_mixed) := ⟨rfl, rfl, rfl, by decide +kernel, rfl, by decide +kernel, by decide +kernel⟩
abbrev s_l_purse : Stmt := (top 17)
abbrev N_l_purse : List Str := ["_law_script", "_law_at", "_law_cell"]
theorem sc_l_purse : FnScope N_l_purse ["_law_script", "_law_at"] (defScope s_l_purse) := ⟨rfl, rfl, rfl, by decide +kernel, rfl, by decide +kernel, by decide +kernel⟩
abbrev s_l_draw : Stmt := (top 18)
abbrev N_l_draw : List Str := ["_law_purse_here", "_law_out_of", "_law_drawn", "_law_number", "_law_k"]
theorem sc_l_draw : FnScope N_l_draw ["_law_purse_here", "_law_out_of"] (defScope s_l_draw) := ⟨rfl, rfl, rfl, by decide +kernel, rfl, by decide +kernel, by decide +kernel⟩
abbrev s_l_worths_drawn : Stmt := (top 19)
abbrev N_l_worths_drawn : List Str := ["_law_purse_here", "_law_most", "_law_greatest", "_law_some", "_law_turn"]
theorem sc_l_worths_drawn : FnScope N_l_worths_drawn ["_law_purse_here", "_law_most", "_law_greatest"] (defScope s_l_worths_drawn) := ⟨rfl, rfl, rfl, by decide +kernel, rfl, by decide +kernel, by decide +kernel⟩
abbrev s_law : Stmt := (top 20)
abbrev N_law : List Str := ["_law_script", "_law_cell", "_law_purse_here", "_law_some", "_law_roll", "_law_many", "_law_turn", "_law_start", "_law_one", "_law_two", "_law_three", "_law_both", "_law_torn", "_law_turned", "_law_low", "_law_back"]
theorem sc_law : FnScope N_law ["_law_script"] (defScope s_law) := ⟨rfl, rfl, rfl, by decide +kernel, rfl, by decide +kernel, by decide +kernel⟩
abbrev FnP (K : PySem.W.Frag) (x q : Str) (st : Stmt) (dv : List V) (f : Addr) (fd : FuncData) : Prop := FunD K x q (defArgs st) (defBody st) (defScope st) dv [] f fd
/-- what the walk asks of the top -/
structure Txt (K : PySem.W.Frag) (mg : Str → Option Value) : Type where
  g_is_whole : mg "is_whole" = some (.ref (ga K "is_whole"))
  g_check_number : mg "check_number" = some (.ref (ga K "check_number"))
  g_check_roll : mg "check_roll" = some (.ref (ga K "check_roll"))
  g_least_form : mg "least_form" = some (.ref (ga K "least_form"))
  g_first_form : mg "first_form" = some (.ref (ga K "first_form"))
  g_l_mixed : mg "_law_mixed" = some (.ref (ga K "_law_mixed"))
  g_l_purse : mg "_law_purse" = some (.ref (ga K "_law_purse"))
  g_l_draw : mg "_law_draw" = some (.ref (ga K "_law_draw"))
  g_l_worths_drawn : mg "_law_worths_drawn" = some (.ref (ga K "_law_worths_drawn"))
  g_law : mg "law" = some (.ref (ga K "law"))
  g_ClerkError : mg "ClerkError" = some (.ref (ga K "ClerkError"))
  g_InvalidNumber : mg "InvalidNumber" = some (.ref (ga K "InvalidNumber"))
  g_InvalidList : mg "InvalidList" = some (.ref (ga K "InvalidList"))
  g_InvalidWorth : mg "InvalidWorth" = some (.ref (ga K "InvalidWorth"))
  g_InvalidRoll : mg "InvalidRoll" = some (.ref (ga K "InvalidRoll"))
  g_Roll : mg "Roll" = some (.ref (ga K "Roll"))
  fr_bool : mg "bool" = none
  fr_int : mg "int" = none
  fr_isinstance : mg "isinstance" = none
  fr_len : mg "len" = none
  fr_list : mg "list" = none
  fr_max : mg "max" = none
  fr_min : mg "min" = none
  fr_range : mg "range" = none
  fr_sum : mg "sum" = none
  fr_tuple : mg "tuple" = none
  cl_Roll : Cls K (ga K "Roll")
  mk_Roll : Mk K (ga K "Roll") (ma K (ga K "Roll") "__init__")
  m_Roll_init : Meth K (ga K "Roll") "__init__" (ma K (ga K "Roll") "__init__")
  m_Roll_worths : Meth K (ga K "Roll") "worths" (ma K (ga K "Roll") "worths")
  m_Roll_len : Meth K (ga K "Roll") "__len__" (ma K (ga K "Roll") "__len__")
  m_Roll_lap : Meth K (ga K "Roll") "lap" (ma K (ga K "Roll") "lap")
  m_Roll_worth : Meth K (ga K "Roll") "worth" (ma K (ga K "Roll") "worth")
  m_Roll_upto : Meth K (ga K "Roll") "upto" (ma K (ga K "Roll") "upto")
  m_Roll_total : Meth K (ga K "Roll") "total" (ma K (ga K "Roll") "total")
  m_Roll_torn : Meth K (ga K "Roll") "torn" (ma K (ga K "Roll") "torn")
  m_Roll_mirrored : Meth K (ga K "Roll") "mirrored" (ma K (ga K "Roll") "mirrored")
  m_Roll_eq : Meth K (ga K "Roll") "__eq__" (ma K (ga K "Roll") "__eq__")
  na_Roll_row : NoAttr K (ga K "Roll") "row"
  na_Roll_firsts : NoAttr K (ga K "Roll") "firsts"
  x_Roll : ClsX K (ga K "Roll")
  k_int_Roll : PySem.W.kitOne K (.type "int") (.ref (ga K "Roll")) = some false
  n_Roll_int : PySem.W.notFirst K (ga K "Roll") (.type "int") = true
  k_Roll_int : PySem.W.kitOne K (.ref (ga K "Roll")) (.type "int") = some false
  k_bool_Roll : PySem.W.kitOne K (.type "bool") (.ref (ga K "Roll")) = some false
  n_Roll_bool : PySem.W.notFirst K (ga K "Roll") (.type "bool") = true
  k_Roll_bool : PySem.W.kitOne K (.ref (ga K "Roll")) (.type "bool") = some false
  k_str_Roll : PySem.W.kitOne K (.type "str") (.ref (ga K "Roll")) = some false
  n_Roll_str : PySem.W.notFirst K (ga K "Roll") (.type "str") = true
  k_Roll_str : PySem.W.kitOne K (.ref (ga K "Roll")) (.type "str") = some false
  k_NoneType_Roll : PySem.W.kitOne K (.type "NoneType") (.ref (ga K "Roll")) = some false
  n_Roll_NoneType : PySem.W.notFirst K (ga K "Roll") (.type "NoneType") = true
  k_list_Roll : PySem.W.kitOne K (.type "list") (.ref (ga K "Roll")) = some false
  n_Roll_list : PySem.W.notFirst K (ga K "Roll") (.type "list") = true
  k_Roll_list : PySem.W.kitOne K (.ref (ga K "Roll")) (.type "list") = some false
  k_tuple_Roll : PySem.W.kitOne K (.type "tuple") (.ref (ga K "Roll")) = some false
  n_Roll_tuple : PySem.W.notFirst K (ga K "Roll") (.type "tuple") = true
  k_Roll_tuple : PySem.W.kitOne K (.ref (ga K "Roll")) (.type "tuple") = some false
  k_dict_Roll : PySem.W.kitOne K (.type "dict") (.ref (ga K "Roll")) = some false
  n_Roll_dict : PySem.W.notFirst K (ga K "Roll") (.type "dict") = true
  k_Roll_dict : PySem.W.kitOne K (.ref (ga K "Roll")) (.type "dict") = some false
  k_Roll_Roll : PySem.W.kitOne K (.ref (ga K "Roll")) (.ref (ga K "Roll")) = some true
  n_Roll_Roll : PySem.W.notFirst K (ga K "Roll") (.ref (ga K "Roll")) = true
  fd_is_whole : FuncData
  F_is_whole : FnP K "is_whole" "is_whole" s_is_whole [] (He.fAd K ("is_whole", none)) fd_is_whole
  fd_check_number : FuncData
  F_check_number : FnP K "check_number" "check_number" s_check_number [] (He.fAd K ("check_number", none)) fd_check_number
  fd_Roll_init : FuncData
  F_Roll_init : FnP K "__init__" "Roll.__init__" s_Roll_init [] (He.fAd K ("Roll", some "__init__")) fd_Roll_init
  fd_Roll_worths : FuncData
  F_Roll_worths : FnP K "worths" "Roll.worths" s_Roll_worths [] (He.fAd K ("Roll", some "worths")) fd_Roll_worths
  fd_Roll_len : FuncData
  F_Roll_len : FnP K "__len__" "Roll.__len__" s_Roll_len [] (He.fAd K ("Roll", some "__len__")) fd_Roll_len
  fd_Roll_lap : FuncData
  F_Roll_lap : FnP K "lap" "Roll.lap" s_Roll_lap [] (He.fAd K ("Roll", some "lap")) fd_Roll_lap
  fd_Roll_worth : FuncData
  F_Roll_worth : FnP K "worth" "Roll.worth" s_Roll_worth [] (He.fAd K ("Roll", some "worth")) fd_Roll_worth
  fd_Roll_upto : FuncData
  F_Roll_upto : FnP K "upto" "Roll.upto" s_Roll_upto [] (He.fAd K ("Roll", some "upto")) fd_Roll_upto
  fd_Roll_total : FuncData
  F_Roll_total : FnP K "total" "Roll.total" s_Roll_total [] (He.fAd K ("Roll", some "total")) fd_Roll_total
  fd_Roll_torn : FuncData
  F_Roll_torn : FnP K "torn" "Roll.torn" s_Roll_torn [] (He.fAd K ("Roll", some "torn")) fd_Roll_torn
  fd_Roll_mirrored : FuncData
  F_Roll_mirrored : FnP K "mirrored" "Roll.mirrored" s_Roll_mirrored [] (He.fAd K ("Roll", some "mirrored")) fd_Roll_mirrored
  fd_Roll_eq : FuncData
  F_Roll_eq : FnP K "__eq__" "Roll.__eq__" s_Roll_eq [] (He.fAd K ("Roll", some "__eq__")) fd_Roll_eq
  fd_check_roll : FuncData
  F_check_roll : FnP K "check_roll" "check_roll" s_check_roll [] (He.fAd K ("check_roll", none)) fd_check_roll
  fd_least_form : FuncData
  F_least_form : FnP K "least_form" "least_form" s_least_form [] (He.fAd K ("least_form", none)) fd_least_form
  fd_first_form : FuncData
  F_first_form : FnP K "first_form" "first_form" s_first_form [] (He.fAd K ("first_form", none)) fd_first_form
  fd_l_mixed : FuncData
  F_l_mixed : FnP K "_law_mixed" "_law_mixed" s_l_mixed [] (He.fAd K ("_law_mixed", none)) fd_l_mixed
  fd_l_purse : FuncData
  F_l_purse : FnP K "_law_purse" "_law_purse" s_l_purse [] (He.fAd K ("_law_purse", none)) fd_l_purse
  fd_l_draw : FuncData
  F_l_draw : FnP K "_law_draw" "_law_draw" s_l_draw [] (He.fAd K ("_law_draw", none)) fd_l_draw
  fd_l_worths_drawn : FuncData
  F_l_worths_drawn : FnP K "_law_worths_drawn" "_law_worths_drawn" s_l_worths_drawn [] (He.fAd K ("_law_worths_drawn", none)) fd_l_worths_drawn
  fd_law : FuncData
  F_law : FnP K "law" "law" s_law [] (He.fAd K ("law", none)) fd_law
section
variable {K : PySem.W.Frag} {mg : Str → Option Value}
theorem b_is_whole (T : Txt K mg) : Binds K T.fd_is_whole ["value"] [] := T.F_is_whole.bindsN fun _ _ _ _ _ _ us hl => match us, hl with | [_], _ => rfl
theorem b_check_number (T : Txt K mg) : Binds K T.fd_check_number ["value", "least"] [] := T.F_check_number.bindsN fun _ _ _ _ _ _ us hl => match us, hl with | [_, _], _ => rfl
theorem b_Roll_init (T : Txt K mg) : Binds K T.fd_Roll_init ["self", "worths"] [] := T.F_Roll_init.bindsN fun _ _ _ _ _ _ us hl => match us, hl with | [_, _], _ => rfl
theorem b_Roll_worths (T : Txt K mg) : Binds K T.fd_Roll_worths ["self"] [] := T.F_Roll_worths.bindsN fun _ _ _ _ _ _ us hl => match us, hl with | [_], _ => rfl
theorem b_Roll_len (T : Txt K mg) : Binds K T.fd_Roll_len ["self"] [] := T.F_Roll_len.bindsN fun _ _ _ _ _ _ us hl => match us, hl with | [_], _ => rfl
theorem b_Roll_lap (T : Txt K mg) : Binds K T.fd_Roll_lap ["self"] [] := T.F_Roll_lap.bindsN fun _ _ _ _ _ _ us hl => match us, hl with | [_], _ => rfl
theorem b_Roll_worth (T : Txt K mg) : Binds K T.fd_Roll_worth ["self", "at"] [] := T.F_Roll_worth.bindsN fun _ _ _ _ _ _ us hl => match us, hl with | [_, _], _ => rfl
theorem b_Roll_upto (T : Txt K mg) : Binds K T.fd_Roll_upto ["self", "many"] [] := T.F_Roll_upto.bindsN fun _ _ _ _ _ _ us hl => match us, hl with | [_, _], _ => rfl
theorem b_Roll_total (T : Txt K mg) : Binds K T.fd_Roll_total ["self", "start", "length"] [] := T.F_Roll_total.bindsN fun _ _ _ _ _ _ us hl => match us, hl with | [_, _, _], _ => rfl
theorem b_Roll_torn (T : Txt K mg) : Binds K T.fd_Roll_torn ["self", "many"] [] := T.F_Roll_torn.bindsN fun _ _ _ _ _ _ us hl => match us, hl with | [_, _], _ => rfl
theorem b_Roll_mirrored (T : Txt K mg) : Binds K T.fd_Roll_mirrored ["self"] [] := T.F_Roll_mirrored.bindsN fun _ _ _ _ _ _ us hl => match us, hl with | [_], _ => rfl
theorem b_Roll_eq (T : Txt K mg) : Binds K T.fd_Roll_eq ["self", "other"] [] := T.F_Roll_eq.bindsN fun _ _ _ _ _ _ us hl => match us, hl with | [_, _], _ => rfl
theorem b_check_roll (T : Txt K mg) : Binds K T.fd_check_roll ["value"] [] := T.F_check_roll.bindsN fun _ _ _ _ _ _ us hl => match us, hl with | [_], _ => rfl
theorem b_least_form (T : Txt K mg) : Binds K T.fd_least_form ["row"] [] := T.F_least_form.bindsN fun _ _ _ _ _ _ us hl => match us, hl with | [_], _ => rfl
theorem b_first_form (T : Txt K mg) : Binds K T.fd_first_form ["roll"] [] := T.F_first_form.bindsN fun _ _ _ _ _ _ us hl => match us, hl with | [_], _ => rfl
theorem b_l_mixed (T : Txt K mg) : Binds K T.fd_l_mixed ["_law_cell", "_law_k"] [] := T.F_l_mixed.bindsN fun _ _ _ _ _ _ us hl => match us, hl with | [_, _], _ => rfl
theorem b_l_purse (T : Txt K mg) : Binds K T.fd_l_purse ["_law_script", "_law_at"] [] := T.F_l_purse.bindsN fun _ _ _ _ _ _ us hl => match us, hl with | [_, _], _ => rfl
theorem b_l_draw (T : Txt K mg) : Binds K T.fd_l_draw ["_law_purse_here", "_law_out_of"] [] := T.F_l_draw.bindsN fun _ _ _ _ _ _ us hl => match us, hl with | [_, _], _ => rfl
theorem b_l_worths_drawn (T : Txt K mg) : Binds K T.fd_l_worths_drawn ["_law_purse_here", "_law_most", "_law_greatest"] [] := T.F_l_worths_drawn.bindsN fun _ _ _ _ _ _ us hl => match us, hl with | [_, _, _], _ => rfl
theorem b_law (T : Txt K mg) : Binds K T.fd_law ["_law_script"] [] := T.F_law.bindsN fun _ _ _ _ _ _ us hl => match us, hl with | [_], _ => rfl
end
def d_is_whole : He.DefD := ⟨("is_whole", none), "is_whole", "is_whole", defArgs s_is_whole, defBody s_is_whole, defScope s_is_whole, [], []⟩
def d_check_number : He.DefD := ⟨("check_number", none), "check_number", "check_number", defArgs s_check_number, defBody s_check_number, defScope s_check_number, [], []⟩
def d_Roll_init : He.DefD := ⟨("Roll", some "__init__"), "__init__", "Roll.__init__", defArgs s_Roll_init, defBody s_Roll_init, defScope s_Roll_init, [], []⟩
def d_Roll_worths : He.DefD := ⟨("Roll", some "worths"), "worths", "Roll.worths", defArgs s_Roll_worths, defBody s_Roll_worths, defScope s_Roll_worths, [], []⟩
def d_Roll_len : He.DefD := ⟨("Roll", some "__len__"), "__len__", "Roll.__len__", defArgs s_Roll_len, defBody s_Roll_len, defScope s_Roll_len, [], []⟩
def d_Roll_lap : He.DefD := ⟨("Roll", some "lap"), "lap", "Roll.lap", defArgs s_Roll_lap, defBody s_Roll_lap, defScope s_Roll_lap, [], []⟩
def d_Roll_worth : He.DefD := ⟨("Roll", some "worth"), "worth", "Roll.worth", defArgs s_Roll_worth, defBody s_Roll_worth, defScope s_Roll_worth, [], []⟩
def d_Roll_upto : He.DefD := ⟨("Roll", some "upto"), "upto", "Roll.upto", defArgs s_Roll_upto, defBody s_Roll_upto, defScope s_Roll_upto, [], []⟩
def d_Roll_total : He.DefD := ⟨("Roll", some "total"), "total", "Roll.total", defArgs s_Roll_total, defBody s_Roll_total, defScope s_Roll_total, [], []⟩
def d_Roll_torn : He.DefD := ⟨("Roll", some "torn"), "torn", "Roll.torn", defArgs s_Roll_torn, defBody s_Roll_torn, defScope s_Roll_torn, [], []⟩
def d_Roll_mirrored : He.DefD := ⟨("Roll", some "mirrored"), "mirrored", "Roll.mirrored", defArgs s_Roll_mirrored, defBody s_Roll_mirrored, defScope s_Roll_mirrored, [], []⟩
def d_Roll_eq : He.DefD := ⟨("Roll", some "__eq__"), "__eq__", "Roll.__eq__", defArgs s_Roll_eq, defBody s_Roll_eq, defScope s_Roll_eq, [], []⟩
def d_check_roll : He.DefD := ⟨("check_roll", none), "check_roll", "check_roll", defArgs s_check_roll, defBody s_check_roll, defScope s_check_roll, [], []⟩
def d_least_form : He.DefD := ⟨("least_form", none), "least_form", "least_form", defArgs s_least_form, defBody s_least_form, defScope s_least_form, [], []⟩
def d_first_form : He.DefD := ⟨("first_form", none), "first_form", "first_form", defArgs s_first_form, defBody s_first_form, defScope s_first_form, [], []⟩
def d_l_mixed : He.DefD := ⟨("_law_mixed", none), "_law_mixed", "_law_mixed", defArgs s_l_mixed, defBody s_l_mixed, defScope s_l_mixed, [], []⟩
def d_l_purse : He.DefD := ⟨("_law_purse", none), "_law_purse", "_law_purse", defArgs s_l_purse, defBody s_l_purse, defScope s_l_purse, [], []⟩
def d_l_draw : He.DefD := ⟨("_law_draw", none), "_law_draw", "_law_draw", defArgs s_l_draw, defBody s_l_draw, defScope s_l_draw, [], []⟩
def d_l_worths_drawn : He.DefD := ⟨("_law_worths_drawn", none), "_law_worths_drawn", "_law_worths_drawn", defArgs s_l_worths_drawn, defBody s_l_worths_drawn, defScope s_l_worths_drawn, [], []⟩
def d_law : He.DefD := ⟨("law", none), "law", "law", defArgs s_law, defBody s_law, defScope s_law, [], []⟩
def fn0 : List He.DefD := [d_is_whole, d_check_number, d_Roll_init, d_Roll_worths, d_Roll_len, d_Roll_lap, d_Roll_worth, d_Roll_upto, d_Roll_total, d_Roll_torn, d_Roll_mirrored, d_Roll_eq, d_check_roll, d_least_form, d_first_form, d_l_mixed, d_l_purse, d_l_draw, d_l_worths_drawn, d_law]
def fn : List He.DefD := fn0
def fa0 : List He.Fa := [.glo "is_whole", .glo "check_number", .glo "check_roll", .glo "least_form", .glo "first_form", .glo "_law_mixed", .glo "_law_purse", .glo "_law_draw", .glo "_law_worths_drawn", .glo "law", .glo "ClerkError", .glo "InvalidNumber", .glo "InvalidList", .glo "InvalidWorth", .glo "InvalidRoll", .glo "Roll", .free "bool", .free "int", .free "isinstance", .free "len", .free "list", .free "max", .free "min", .free "range", .free "sum", .free "tuple", .cls "Roll", .mkr "Roll", .meth "Roll" "__init__", .meth "Roll" "worths"]
def fa1 : List He.Fa := [.meth "Roll" "__len__", .meth "Roll" "lap", .meth "Roll" "worth", .meth "Roll" "upto", .meth "Roll" "total", .meth "Roll" "torn", .meth "Roll" "mirrored", .meth "Roll" "__eq__", .noat "Roll" "row", .noat "Roll" "firsts"]
def fa : List He.Fa := fa0 ++ (fa1)
def cs0 : List Str := ["Roll"]
def cs : List Str := cs0
def ks0 : List Kq := [⟨.ty "int", .own "Roll", false⟩, ⟨.own "Roll", .ty "int", false⟩, ⟨.ty "bool", .own "Roll", false⟩, ⟨.own "Roll", .ty "bool", false⟩, ⟨.ty "str", .own "Roll", false⟩, ⟨.own "Roll", .ty "str", false⟩, ⟨.ty "NoneType", .own "Roll", false⟩, ⟨.ty "list", .own "Roll", false⟩, ⟨.own "Roll", .ty "list", false⟩, ⟨.ty "tuple", .own "Roll", false⟩, ⟨.own "Roll", .ty "tuple", false⟩, ⟨.ty "dict", .own "Roll", false⟩, ⟨.own "Roll", .ty "dict", false⟩, ⟨.own "Roll", .own "Roll", true⟩]
def ks : List Kq := ks0
def ns0 : List Nf := [⟨"Roll", .ty "int"⟩, ⟨"Roll", .ty "bool"⟩, ⟨"Roll", .ty "str"⟩, ⟨"Roll", .ty "NoneType"⟩, ⟨"Roll", .ty "list"⟩, ⟨"Roll", .ty "tuple"⟩, ⟨"Roll", .ty "dict"⟩, ⟨"Roll", .own "Roll"⟩]
def ns : List Nf := ns0
def loose0 : List Str := ["is_whole", "check_number", "check_roll", "least_form", "first_form", "_law_mixed", "_law_purse", "_law_draw", "_law_worths_drawn", "ClerkError", "InvalidNumber", "InvalidList", "InvalidWorth", "InvalidRoll", "Roll"]
def loose : List Str := loose0
abbrev R : PySem.W.OpenRow := PySem.W.OpenLaw.row PySem.Challenge.rw_rollclerk_k12_whole_rolls_and_laps
abbrev hk : PySem.W.Hook := RC.hookR 6 fa fn cs ks ns
def ob (s : PySem.W.SharedT) : RC.AlR := RC.obsRG 6 fa fn cs ks ns (HandSHeadRun.getT s)
theorem ob_eq (s : PySem.W.SharedT) : ob s = hk.obs s.abs := RC.obsRG_eq (HandSHeadRun.getT_eq s)
theorem run (w : World) : HandSHeadRun.RunEq R (PySem.W.view R.prog [20]) hk ob 4000 loose w := by
  intro os
  kernel_rfl
theorem txt_of {K : PySem.W.Frag} {h : Heap} {mg : Str → Option Value} (X : K.In h) (G : h.Ns mainGlobals mg) (c : RC.SaysR fa fn cs ks ns K) : Nonempty (Txt K mg) := by
  obtain ⟨fd_is_whole, F_is_whole⟩ := c.d.def_ 0 (d := d_is_whole) rfl
  obtain ⟨fd_check_number, F_check_number⟩ := c.d.def_ 1 (d := d_check_number) rfl
  obtain ⟨fd_Roll_init, F_Roll_init⟩ := c.d.def_ 2 (d := d_Roll_init) rfl
  obtain ⟨fd_Roll_worths, F_Roll_worths⟩ := c.d.def_ 3 (d := d_Roll_worths) rfl
  obtain ⟨fd_Roll_len, F_Roll_len⟩ := c.d.def_ 4 (d := d_Roll_len) rfl
  obtain ⟨fd_Roll_lap, F_Roll_lap⟩ := c.d.def_ 5 (d := d_Roll_lap) rfl
  obtain ⟨fd_Roll_worth, F_Roll_worth⟩ := c.d.def_ 6 (d := d_Roll_worth) rfl
  obtain ⟨fd_Roll_upto, F_Roll_upto⟩ := c.d.def_ 7 (d := d_Roll_upto) rfl
  obtain ⟨fd_Roll_total, F_Roll_total⟩ := c.d.def_ 8 (d := d_Roll_total) rfl
  obtain ⟨fd_Roll_torn, F_Roll_torn⟩ := c.d.def_ 9 (d := d_Roll_torn) rfl
  obtain ⟨fd_Roll_mirrored, F_Roll_mirrored⟩ := c.d.def_ 10 (d := d_Roll_mirrored) rfl
  obtain ⟨fd_Roll_eq, F_Roll_eq⟩ := c.d.def_ 11 (d := d_Roll_eq) rfl
  obtain ⟨fd_check_roll, F_check_roll⟩ := c.d.def_ 12 (d := d_check_roll) rfl
  obtain ⟨fd_least_form, F_least_form⟩ := c.d.def_ 13 (d := d_least_form) rfl
  obtain ⟨fd_first_form, F_first_form⟩ := c.d.def_ 14 (d := d_first_form) rfl
  obtain ⟨fd_l_mixed, F_l_mixed⟩ := c.d.def_ 15 (d := d_l_mixed) rfl
  obtain ⟨fd_l_purse, F_l_purse⟩ := c.d.def_ 16 (d := d_l_purse) rfl
  obtain ⟨fd_l_draw, F_l_draw⟩ := c.d.def_ 17 (d := d_l_draw) rfl
  obtain ⟨fd_l_worths_drawn, F_l_worths_drawn⟩ := c.d.def_ 18 (d := d_l_worths_drawn) rfl
  obtain ⟨fd_law, F_law⟩ := c.d.def_ 19 (d := d_law) rfl
  exact ⟨{
    g_is_whole := He.glo_ok X G (c.d.fact 0 (f := .glo "is_whole") rfl),
    g_check_number := He.glo_ok X G (c.d.fact 1 (f := .glo "check_number") rfl),
    g_check_roll := He.glo_ok X G (c.d.fact 2 (f := .glo "check_roll") rfl),
    g_least_form := He.glo_ok X G (c.d.fact 3 (f := .glo "least_form") rfl),
    g_first_form := He.glo_ok X G (c.d.fact 4 (f := .glo "first_form") rfl),
    g_l_mixed := He.glo_ok X G (c.d.fact 5 (f := .glo "_law_mixed") rfl),
    g_l_purse := He.glo_ok X G (c.d.fact 6 (f := .glo "_law_purse") rfl),
    g_l_draw := He.glo_ok X G (c.d.fact 7 (f := .glo "_law_draw") rfl),
    g_l_worths_drawn := He.glo_ok X G (c.d.fact 8 (f := .glo "_law_worths_drawn") rfl),
    g_law := He.glo_ok X G (c.d.fact 9 (f := .glo "law") rfl),
    g_ClerkError := He.glo_ok X G (c.d.fact 10 (f := .glo "ClerkError") rfl),
    g_InvalidNumber := He.glo_ok X G (c.d.fact 11 (f := .glo "InvalidNumber") rfl),
    g_InvalidList := He.glo_ok X G (c.d.fact 12 (f := .glo "InvalidList") rfl),
    g_InvalidWorth := He.glo_ok X G (c.d.fact 13 (f := .glo "InvalidWorth") rfl),
    g_InvalidRoll := He.glo_ok X G (c.d.fact 14 (f := .glo "InvalidRoll") rfl),
    g_Roll := He.glo_ok X G (c.d.fact 15 (f := .glo "Roll") rfl),
    fr_bool := He.free_ok X G (c.d.fact 16 (f := .free "bool") rfl),
    fr_int := He.free_ok X G (c.d.fact 17 (f := .free "int") rfl),
    fr_isinstance := He.free_ok X G (c.d.fact 18 (f := .free "isinstance") rfl),
    fr_len := He.free_ok X G (c.d.fact 19 (f := .free "len") rfl),
    fr_list := He.free_ok X G (c.d.fact 20 (f := .free "list") rfl),
    fr_max := He.free_ok X G (c.d.fact 21 (f := .free "max") rfl),
    fr_min := He.free_ok X G (c.d.fact 22 (f := .free "min") rfl),
    fr_range := He.free_ok X G (c.d.fact 23 (f := .free "range") rfl),
    fr_sum := He.free_ok X G (c.d.fact 24 (f := .free "sum") rfl),
    fr_tuple := He.free_ok X G (c.d.fact 25 (f := .free "tuple") rfl),
    cl_Roll := He.cls_ok (c.d.fact 26 (f := .cls "Roll") rfl),
    mk_Roll := He.mkr_ok (c.d.fact 27 (f := .mkr "Roll") rfl),
    m_Roll_init := He.meth_ok (c.d.fact 28 (f := .meth "Roll" "__init__") rfl),
    m_Roll_worths := He.meth_ok (c.d.fact 29 (f := .meth "Roll" "worths") rfl),
    m_Roll_len := He.meth_ok (c.d.fact 30 (f := .meth "Roll" "__len__") rfl),
    m_Roll_lap := He.meth_ok (c.d.fact 31 (f := .meth "Roll" "lap") rfl),
    m_Roll_worth := He.meth_ok (c.d.fact 32 (f := .meth "Roll" "worth") rfl),
    m_Roll_upto := He.meth_ok (c.d.fact 33 (f := .meth "Roll" "upto") rfl),
    m_Roll_total := He.meth_ok (c.d.fact 34 (f := .meth "Roll" "total") rfl),
    m_Roll_torn := He.meth_ok (c.d.fact 35 (f := .meth "Roll" "torn") rfl),
    m_Roll_mirrored := He.meth_ok (c.d.fact 36 (f := .meth "Roll" "mirrored") rfl),
    m_Roll_eq := He.meth_ok (c.d.fact 37 (f := .meth "Roll" "__eq__") rfl),
    na_Roll_row := He.noat_ok (c.d.fact 38 (f := .noat "Roll" "row") rfl),
    na_Roll_firsts := He.noat_ok (c.d.fact 39 (f := .noat "Roll" "firsts") rfl),
    x_Roll := c.cls 0 (x := "Roll") rfl,
    k_int_Roll := c.kit 0 (q := ⟨.ty "int", .own "Roll", false⟩) rfl,
    n_Roll_int := c.nf 0 (q := ⟨"Roll", .ty "int"⟩) rfl,
    k_Roll_int := c.kit 1 (q := ⟨.own "Roll", .ty "int", false⟩) rfl,
    k_bool_Roll := c.kit 2 (q := ⟨.ty "bool", .own "Roll", false⟩) rfl,
    n_Roll_bool := c.nf 1 (q := ⟨"Roll", .ty "bool"⟩) rfl,
    k_Roll_bool := c.kit 3 (q := ⟨.own "Roll", .ty "bool", false⟩) rfl,
    k_str_Roll := c.kit 4 (q := ⟨.ty "str", .own "Roll", false⟩) rfl,
    n_Roll_str := c.nf 2 (q := ⟨"Roll", .ty "str"⟩) rfl,
    k_Roll_str := c.kit 5 (q := ⟨.own "Roll", .ty "str", false⟩) rfl,
    k_NoneType_Roll := c.kit 6 (q := ⟨.ty "NoneType", .own "Roll", false⟩) rfl,
    n_Roll_NoneType := c.nf 3 (q := ⟨"Roll", .ty "NoneType"⟩) rfl,
    k_list_Roll := c.kit 7 (q := ⟨.ty "list", .own "Roll", false⟩) rfl,
    n_Roll_list := c.nf 4 (q := ⟨"Roll", .ty "list"⟩) rfl,
    k_Roll_list := c.kit 8 (q := ⟨.own "Roll", .ty "list", false⟩) rfl,
    k_tuple_Roll := c.kit 9 (q := ⟨.ty "tuple", .own "Roll", false⟩) rfl,
    n_Roll_tuple := c.nf 5 (q := ⟨"Roll", .ty "tuple"⟩) rfl,
    k_Roll_tuple := c.kit 10 (q := ⟨.own "Roll", .ty "tuple", false⟩) rfl,
    k_dict_Roll := c.kit 11 (q := ⟨.ty "dict", .own "Roll", false⟩) rfl,
    n_Roll_dict := c.nf 6 (q := ⟨"Roll", .ty "dict"⟩) rfl,
    k_Roll_dict := c.kit 12 (q := ⟨.own "Roll", .ty "dict", false⟩) rfl,
    k_Roll_Roll := c.kit 13 (q := ⟨.own "Roll", .own "Roll", true⟩) rfl,
    n_Roll_Roll := c.nf 7 (q := ⟨"Roll", .own "Roll"⟩) rfl,
    fd_is_whole := fd_is_whole,
    F_is_whole := F_is_whole,
    fd_check_number := fd_check_number,
    F_check_number := F_check_number,
    fd_Roll_init := fd_Roll_init,
    F_Roll_init := F_Roll_init,
    fd_Roll_worths := fd_Roll_worths,
    F_Roll_worths := F_Roll_worths,
    fd_Roll_len := fd_Roll_len,
    F_Roll_len := F_Roll_len,
    fd_Roll_lap := fd_Roll_lap,
    F_Roll_lap := F_Roll_lap,
    fd_Roll_worth := fd_Roll_worth,
    F_Roll_worth := F_Roll_worth,
    fd_Roll_upto := fd_Roll_upto,
    F_Roll_upto := F_Roll_upto,
    fd_Roll_total := fd_Roll_total,
    F_Roll_total := F_Roll_total,
    fd_Roll_torn := fd_Roll_torn,
    F_Roll_torn := F_Roll_torn,
    fd_Roll_mirrored := fd_Roll_mirrored,
    F_Roll_mirrored := F_Roll_mirrored,
    fd_Roll_eq := fd_Roll_eq,
    F_Roll_eq := F_Roll_eq,
    fd_check_roll := fd_check_roll,
    F_check_roll := F_check_roll,
    fd_least_form := fd_least_form,
    F_least_form := F_least_form,
    fd_first_form := fd_first_form,
    F_first_form := F_first_form,
    fd_l_mixed := fd_l_mixed,
    F_l_mixed := F_l_mixed,
    fd_l_purse := fd_l_purse,
    F_l_purse := F_l_purse,
    fd_l_draw := fd_l_draw,
    F_l_draw := F_l_draw,
    fd_l_worths_drawn := fd_l_worths_drawn,
    F_l_worths_drawn := F_l_worths_drawn,
    fd_law := fd_law,
    F_law := F_law }⟩
/-! ## Rolls: what an object looks like, what each method promises -/
/-! ### the mathematics -/
/-- the sum of the first i worths -/
def pre (ws : List Int) (i : Nat) : Int := (ws.take i).sum
/-- what __init__ stores as firsts -/
def firsts (ws : List Int) : List Int := (List.range (ws.length + 1)).map (pre ws)
theorem firsts_len (ws : List Int) : (firsts ws).length = ws.length + 1 := by simp [firsts]
theorem firsts_at {ws : List Int} {i : Nat} (h : i ≤ ws.length) : (firsts ws)[i]? = some (pre ws i) := by
  unfold firsts
  rw [List.getElem?_map, List.getElem?_range (by omega)]
  rfl
theorem firsts_last (ws : List Int) : (firsts ws).getLast? = some ws.sum := by
  rw [List.getLast?_eq_getElem?, firsts_len, Nat.add_sub_cancel, firsts_at (Nat.le_refl _)]
  show some ((ws.take ws.length).sum) = _
  rw [List.take_length]
/-- the sum of the first n stamps of the roll -/
def upto (ws : List Int) (n : Nat) : Int := ((n / ws.length : Nat) : Int) * ws.sum + pre ws (n % ws.length)
/-- the row torn at n -/
def tornL (ws : List Int) (n : Nat) : List Int := ws.drop (n % ws.length) ++ ws.take (n % ws.length)
theorem tornL_len (ws : List Int) (n : Nat) : (tornL ws n).length = ws.length := by
  unfold tornL
  rw [List.length_append, List.length_drop, List.length_take]
  omega
/-- a row that a roll may be made of -/
structure Row (ws : List Int) : Prop where
  ne : ws ≠ []
  pos : ∀ z ∈ ws, 1 ≤ z
  big : ∀ z ∈ ws, z < 2 ^ 200
  len : ws.length ≤ 1000
theorem Row.n0 {ws : List Int} (r : Row ws) : 0 < ws.length := List.length_pos_iff.mpr r.ne
theorem Row.torn {ws : List Int} (r : Row ws) (n : Nat) : Row (tornL ws n) where
  ne := fun e => by
    have := tornL_len ws n
    rw [e] at this
    have := r.n0
    simp at *
    omega
  pos := fun z h => by
    unfold tornL at h
    rcases List.mem_append.mp h with h | h
    · exact r.pos z (List.mem_of_mem_drop h)
    · exact r.pos z (List.mem_of_mem_take h)
  big := fun z h => by
    unfold tornL at h
    rcases List.mem_append.mp h with h | h
    · exact r.big z (List.mem_of_mem_drop h)
    · exact r.big z (List.mem_of_mem_take h)
  len := by rw [tornL_len]; exact r.len
theorem Row.rev {ws : List Int} (r : Row ws) : Row ws.reverse where
  ne := fun e => r.ne (List.reverse_eq_nil_iff.mp e)
  pos := fun z h => r.pos z (List.mem_reverse.mp h)
  big := fun z h => r.big z (List.mem_reverse.mp h)
  len := by rw [List.length_reverse]; exact r.len
theorem sum_lt {b : Int} : ∀ ws : List Int, (∀ z ∈ ws, 1 ≤ z) → (∀ z ∈ ws, z < b) → 0 ≤ ws.sum ∧ ws.sum ≤ ws.length * b
  | [], _, _ => by simp
  | z :: r, h1, h2 => by
    have ⟨a, c⟩ := sum_lt r (fun y hy => h1 y (List.mem_cons_of_mem _ hy)) fun y hy => h2 y (List.mem_cons_of_mem _ hy)
    have e1 := h1 z List.mem_cons_self
    have e2 := h2 z List.mem_cons_self
    rw [List.sum_cons, List.length_cons, Int.natCast_add, Int.add_mul]
    constructor
    · omega
    · show z + r.sum ≤ (r.length : Int) * b + ((1 : Nat) : Int) * b
      omega
theorem Row.sum0 {ws : List Int} (r : Row ws) : 1 ≤ ws.sum := by
  obtain ⟨ne, pos, _, _⟩ := r
  cases ws with
  | nil => exact absurd rfl ne
  | cons z t =>
    have := (sum_lt (b := 1 + (z :: t).foldl max 0) t (fun y hy => pos y (List.mem_cons_of_mem _ hy)))
    rw [List.sum_cons]
    have e1 := pos z List.mem_cons_self
    have e2 : 0 ≤ t.sum := by
      clear this
      have : ∀ l : List Int, (∀ y ∈ l, 1 ≤ y) → 0 ≤ l.sum := by
        intro l
        induction l with
        | nil => intro _; simp
        | cons a l ih =>
          intro h
          rw [List.sum_cons]
          have := h a List.mem_cons_self
          have := ih fun y hy => h y (List.mem_cons_of_mem _ hy)
          omega
      exact this t fun y hy => pos y (List.mem_cons_of_mem _ hy)
    omega
theorem Row.sumB {ws : List Int} (r : Row ws) : ws.sum < 2 ^ 210 := by
  have h := (sum_lt (b := 2 ^ 200) ws r.pos r.big).2
  have l := r.len
  have : (ws.length : Int) * 2 ^ 200 ≤ 1000 * 2 ^ 200 := Int.mul_le_mul_of_nonneg_right (by omega) (by decide)
  have e : (1000 : Int) * 2 ^ 200 < 2 ^ 210 := by decide
  omega
/-! ### a Roll at p -/
def rf (r f : Addr) : List (Str × V) := [("row", .ref r), ("firsts", .ref f)]
structure RollAt (K : PySem.W.Frag) (H : Hp) (p : Addr) (ws : List Int) : Prop where
  row : Row ws
  ob : ∃ dx r f, H p = some (.ins (ga K "Roll") dx (rf r f)) ∧ SqT K H r (iv ws) ∧ SqT K H f (iv (firsts ws))
theorem Same.roll {K : PySem.W.Frag} {H H' : Hp} {p : Addr} {ws : List Int} (e : Same H H') (h : RollAt K H p ws) : RollAt K H' p ws := by
  obtain ⟨r, dx, a, b, h1, h2, h3⟩ := h
  exact ⟨r, dx, a, b, e _ _ h1, Same.tup e h2, Same.tup e h3⟩
theorem rf_row (r f : Addr) : (rf r f).lookup ("row" : Str) = some (.ref r) := by
  have e : (("row" : Str) == "row") = true := by decide +kernel
  simp [rf, List.lookup, e]
theorem rf_firsts (r f : Addr) : (rf r f).lookup ("firsts" : Str) = some (.ref f) := by
  have e : (("firsts" : Str) == "row") = false := by decide +kernel
  have e2 : (("firsts" : Str) == "firsts") = true := by decide +kernel
  simp [rf, List.lookup, e, e2]
theorem rf_no (r f : Addr) {m : Str} (h1 : (m == ("row" : Str)) = false) (h2 : (m == ("firsts" : Str)) = false) : (rf r f).lookup m = none := by
  simp [rf, List.lookup, h1, h2]
theorem rf_made (r f : Addr) : putF "firsts" (.ref f) (putF "row" (.ref r) []) = rf r f := by
  show (if ("row" : Str) = "firsts" then _ else (("row" : Str), V.ref r) :: putF "firsts" (.ref f) []) = _
  rw [if_neg (by decide +kernel)]
  rfl
section
variable {P : Program} {w : World} {K : PySem.W.Frag} {mg : Str → Option Value} {base : Heap} {H : Hp} {Q : VK}
/-- roll.row, roll.firsts -/
theorem r_row (T : Txt K mg) {p : Addr} {ws : List Int} (R : RollAt K H p ws) (h : ∀ r, SqT K H r (iv ws) → Q (.ref r) H) : FldV K "row" (.ref p) H Q := by
  obtain ⟨_, dx, r, f, h1, h2, _⟩ := R
  exact ⟨p, _, dx, _, _, rfl, h1, T.cl_Roll, T.na_Roll_row, rf_row r f, h r h2⟩
theorem r_firsts (T : Txt K mg) {p : Addr} {ws : List Int} (R : RollAt K H p ws) (h : ∀ f, SqT K H f (iv (firsts ws)) → Q (.ref f) H) : FldV K "firsts" (.ref p) H Q := by
  obtain ⟨_, dx, r, f, h1, _, h3⟩ := R
  exact ⟨p, _, dx, _, _, rfl, h1, T.cl_Roll, T.na_Roll_firsts, rf_firsts r f, h f h3⟩
/-- roll.m(..) -/
theorem r_rollm {p : Addr} {ws : List Int} {m : Str} {sp : Sp} {t : (List V → Hp → Prop) → Hp → Prop} {dvs : List V} {E : XK} (R : RollAt K H p ws) (h1 : (m == ("row" : Str)) = false) (h2 : (m == ("firsts" : Str)) = false)
    (h : t (fun vs H2 => sp (.ref p :: (vs ++ dvs)) H2 Q E) H) : MethV (ga K "Roll") m sp (.ref p) t dvs H Q E := by
  obtain ⟨_, dx, r, f, e, _, _⟩ := R
  exact ⟨p, dx, _, rfl, e, rf_no r f h1 h2, h⟩
/-! ### the promises -/
def spIsWhole (_ : PySem.W.Frag) : Sp := fun vs H Q _ => ∃ n : Int, vs = [.int n] ∧ Q (.bl true) H
def spCheckNumber (_ : PySem.W.Frag) : Sp := fun vs H Q _ => ∃ n l : Int, vs = [.int n, .int l] ∧ l ≤ n ∧ Q .non H
def spRollInit (K : PySem.W.Frag) : Sp := fun vs H Q _ => ∃ (p a dx : Addr) (ws : List Int), vs = [.ref p, .ref a] ∧ H p = some (.ins (ga K "Roll") dx []) ∧ SqL K H a (iv ws) ∧ Row ws ∧
  ∀ H', (∀ b o, b ≠ p → H b = some o → H' b = some o) → RollAt K H' p ws → Q .non H'
def spWorths (K : PySem.W.Frag) : Sp := fun vs H Q _ => ∃ (p : Addr) (ws : List Int), vs = [.ref p] ∧ RollAt K H p ws ∧ ∀ l H', H l = none → Same H H' → H' l = some (.lst (iv ws)) → Q (.ref l) H'
def spLen (K : PySem.W.Frag) : Sp := fun vs H Q _ => ∃ (p : Addr) (ws : List Int), vs = [.ref p] ∧ RollAt K H p ws ∧ Q (.int ws.length) H
def spLap (K : PySem.W.Frag) : Sp := fun vs H Q _ => ∃ (p : Addr) (ws : List Int), vs = [.ref p] ∧ RollAt K H p ws ∧ Q (.int ws.sum) H
def spWorth (K : PySem.W.Frag) : Sp := fun vs H Q _ => ∃ (p : Addr) (ws : List Int) (n : Nat), vs = [.ref p, .int n] ∧ RollAt K H p ws ∧ ∀ z, ws[n % ws.length]? = some z → Q (.int z) H
def spUpto (K : PySem.W.Frag) : Sp := fun vs H Q _ => ∃ (p : Addr) (ws : List Int) (n : Nat), vs = [.ref p, .int n] ∧ RollAt K H p ws ∧ n < 2 ^ 200 ∧ Q (.int (upto ws n)) H
def spTotal (K : PySem.W.Frag) : Sp := fun vs H Q _ => ∃ (p : Addr) (ws : List Int) (n m : Nat), vs = [.ref p, .int n, .int m] ∧ RollAt K H p ws ∧ n + m < 2 ^ 200 ∧ Q (.int (upto ws (n + m) - upto ws n)) H
def spTorn (K : PySem.W.Frag) : Sp := fun vs H Q _ => ∃ (p : Addr) (ws : List Int) (n : Nat), vs = [.ref p, .int n] ∧ RollAt K H p ws ∧ ∀ q H', H q = none → Same H H' → RollAt K H' q (tornL ws n) → Q (.ref q) H'
def spMirrored (K : PySem.W.Frag) : Sp := fun vs H Q _ => ∃ (p : Addr) (ws : List Int), vs = [.ref p] ∧ RollAt K H p ws ∧ ∀ q H', H q = none → Same H H' → RollAt K H' q ws.reverse → Q (.ref q) H'
def spRollEq (K : PySem.W.Frag) : Sp := fun vs H Q _ => ∃ (p q : Addr) (ws zs : List Int), vs = [.ref p, .ref q] ∧ RollAt K H p ws ∧ RollAt K H q zs ∧ Q (.bl (decide (ws = zs))) H
def spCheckRoll (K : PySem.W.Frag) : Sp := fun vs H Q _ => ∃ (p : Addr) (ws : List Int), vs = [.ref p] ∧ RollAt K H p ws ∧ Q .non H
theorem roll_ty (T : Txt K mg) {p : Addr} {ws : List Int} (R : RollAt K H p ws) : TyX K H (.ref p) (.ref (ga K "Roll")) := by
  obtain ⟨_, dx, r, f, e, _, _⟩ := R
  exact .base (.ins e T.cl_Roll T.x_Roll.ha T.x_Roll.hn T.x_Roll.htk T.x_Roll.hm)
theorem ok_is_whole (T : Txt K mg) : FnOk P w K mg base CX0 1 (He.fAd K ("is_whole", none)) T.fd_is_whole ["value"] (spIsWhole K) := by
  refine T.F_is_whole.ok sc_is_whole (fun vs H Q E h => ?_) (fun cdv A outer s H vs Q E hr h => ⟨_, PSs.nox ((pss_one (ps_ret (pe_and (pe_callB call_isi rfl T.fr_isinstance (by decide +kernel) (pa_cons (pv 0) (pa_cons (pe_bltn (v := .ty "int") rfl T.fr_int (by decide +kernel) rfl) pa_nil))) (pe_one (pe_not (pe_callB call_isi rfl T.fr_isinstance (by decide +kernel) (pa_cons (pv 0) (pa_cons (pe_bltn (v := .ty "bool") rfl T.fr_bool (by decide +kernel) rfl) pa_nil))))))))), ?_⟩)
  · obtain ⟨_, rfl, _⟩ := h
    rfl
  · try dsimp only [L2.cxOf, L2.Cx.nox, L2.Cx.wish]
    obtain ⟨n, rfl, h⟩ := h
    walk_at "go"
    refine r_isi (.ty _) (.base (.int n)) (kit_ty (b := "int") (r := true) (by decide +kernel)) ?_
    walk_at "go"
    refine r_isi (.ty _) (.base (.int n)) (kit_ty (b := "bool") (r := false) (by decide +kernel)) ?_
    walk_at "go"
    exact h
theorem ok_check_number (T : Txt K mg) : FnOk P w K mg base CX0 2 (He.fAd K ("check_number", none)) T.fd_check_number ["value", "least"] (spCheckNumber K) := by
  refine T.F_check_number.ok sc_check_number (fun vs H Q E h => ?_) (fun cdv A outer s H vs Q E hr h => ⟨_, PSs.nox ((pss_one (ps_if (PW.pt (pw_or (pt_not (pt_val (pe_call (ok_is_whole T) (hr.mono (by decide)) rfl T.g_is_whole T.F_is_whole.kp (b_is_whole T) .nil pass0 (pa_cons (pv 0) pa_nil)))) (pw_or1 (pt_cmpR op_lt (pv 0) (pv 1) (nomark _))))) (pss_one ps_never) pss_nil))), ?_⟩)
  · obtain ⟨_, _, rfl, _⟩ := h
    rfl
  · try dsimp only [L2.cxOf, L2.Cx.nox, L2.Cx.wish]
    obtain ⟨n, l, rfl, hl, h⟩ := h
    walk_at "go"
    refine ⟨n, rfl, ?_⟩
    walk_at "go"
    refine if_f (decide_eq_false (by omega)) ?_
    walk_at "go"
    exact h
theorem pre_next {ws : List Int} {i : Nat} {z : Int} (h : ws[i]? = some z) : pre ws (i + 1) = pre ws i + z := sum_take h
theorem init_list {ws : List Int} {i : Nat} {z : Int} (h : ws[i]? = some z) : iv ((List.range (i + 1)).map (pre ws)) ++ [.int (pre ws i + z)] = iv ((List.range (i + 1 + 1)).map (pre ws)) := by
  rw [List.range_succ (n := i + 1), List.map_append]
  show _ = List.map V.int (List.map (pre ws) (List.range (i + 1)) ++ [pre ws (i + 1)])
  rw [List.map_append, pre_next h]
  rfl
theorem iv_at {ns : List Int} {i : Nat} {x : V} (h : (iv ns)[i]? = some x) : ∃ z, ns[i]? = some z ∧ x = .int z := by
  rw [List.getElem?_map] at h
  cases e : ns[i]? with
  | none => rw [e] at h; cases h
  | some z => rw [e] at h; exact ⟨z, rfl, (Option.some.inj h).symm⟩
theorem ok_Roll_init (T : Txt K mg) : FnOk P w K mg base CX0 2 (He.fAd K ("Roll", some "__init__")) T.fd_Roll_init ["self", "worths"] (spRollInit K) := by
  refine T.F_Roll_init.ok sc_Roll_init (fun vs H Q E h => ?_) (fun cdv A outer s H vs Q E hr h => ⟨_, PSs.nox ((pss_cons (ps_if (PW.pt (pw_or (pt_not (pt_val (pe_callB call_isi rfl T.fr_isinstance (by decide +kernel) (pa_cons (pv 1) (pa_cons (pe_bltn (v := .ty "list") rfl T.fr_list (by decide +kernel) rfl) pa_nil))))) (pw_or1 (pt_cmpR (op_eqD hr.units) (pv 1) (pe_lst pa_nil) (nomark _))))) (pss_one ps_never) pss_nil)
      (pss_cons (ps_for PassesOwn.never rfl (pi_list (pv 1)) (pg_name (i := 2) sc_Roll_init.nd rfl (by first | exact .inl rfl | exact .inr rfl))
      (pss_one (ps_if (PW.pt (pw_or (pt_not (pt_val (pe_call (ok_is_whole T) (hr.mono (by decide)) rfl T.g_is_whole T.F_is_whole.kp (b_is_whole T) .nil pass0 (pa_cons (pv 2) pa_nil)))) (pw_or1 (pt_cmpR op_lt (pv 2) pe_int (nomark _))))) (pss_one ps_never) pss_nil)))
      (pss_cons (ps_fld (pv 0) (pe_callTy RC.call_tupS rfl T.fr_tuple (by decide +kernel) (pa_cons (pv 1) pa_nil)) rfl)
      (pss_cons (ps_set (i := 3) sc_Roll_init.nd rfl (by first | exact .inl rfl | exact .inr rfl) (pe_lst (pa_cons pe_int pa_nil)))
      (pss_cons (ps_for PassesOwn.never rfl (pi_list (pv 1)) (pg_name (i := 2) sc_Roll_init.nd rfl (by first | exact .inl rfl | exact .inr rfl))
      (pss_one (ps_expr (pe_bm PySem.F.plainAttrs_list PySem.F.slot_list_append PySem.F.type_list_append mt_append (pv 3) (pa_cons (pe_op op_add (pe_ix ix_list (pv 3) (pe_un un_neg pe_int) (fun _ _ => rfl)) (pv 2)) pa_nil)))))
      (pss_one (ps_fld (pv 0) (pe_callTy RC.call_tupS rfl T.fr_tuple (by decide +kernel) (pa_cons (pv 3) pa_nil)) rfl)))))))), ?_⟩)
  · obtain ⟨_, _, _, _, rfl, _⟩ := h
    rfl
  · try dsimp only [L2.cxOf, L2.Cx.nox, L2.Cx.wish]
    obtain ⟨p, a, dx, ws, rfl, hp, hx, R, k⟩ := h
    walk_at "go"
    refine r_isi (.ty _) (ty_list hx) (kit_ty (b := "list") (r := true) (by decide +kernel)) ?_
    walk_at "go"
    refine r_mk (by decide) fun e H1 ne s1 he => ?_
    have hx1 := Same.lst s1 hx
    refine r_eqI (ns := ws) (ms := []) hx1 (sq_of he) ?_
    rw [decide_eq_false R.ne]
    walk_at "go"
    refine r_ilist' hx1 (for_list (K := K) (a := a) (xs := iv ws) (fun i σ H' => ∃ v2, σ = [some (.ref p), some (.ref a), v2, none] ∧ H' = H1) ⟨none, rfl, rfl⟩ (fun i σ H' _ ⟨_, _, e⟩ => by rw [e]; exact hx1) ?_ ?_)
    · rintro i x σ H' hi ⟨v2, rfl, rfl⟩
      obtain ⟨z, hz, rfl⟩ := iv_at hi
      have z1 := R.pos z (List.mem_of_getElem? hz)
      walk_at "go"
      refine ⟨z, rfl, ?_⟩
      walk_at "go"
      refine if_f (decide_eq_false (by omega)) ?_
      walk_at "go"
      exact ⟨some (.int z), rfl, rfl⟩
    rintro σ H' ⟨v2, rfl, rfl⟩
    -- self.row = tuple(worths)
    walk_at "go"
    refine r_tupL hx1 fun r H2 nr s2 er => ?_
    have hp2 := s2 _ _ (s1 _ _ hp)
    walk_at "go"
    refine r_sfldV hp2 T.cl_Roll T.na_Roll_row (by decide) fun H3 b3 hp3 => ?_
    have hx3 : SqL K H3 a (iv ws) := b3.lst hp2 rfl (Same.lst s2 hx1)
    have er3 : SqT K H3 r (iv ws) := b3.tup hp2 rfl (st_of er)
    -- firsts = [0]
    walk_at "go"
    refine r_mk (by decide) fun f H4 nf s4 ef => ?_
    walk_at "go"
    have hx4 := Same.lst s4 hx3
    refine r_ilist' hx4 (for_list (K := K) (a := a) (xs := iv ws) (fun i σ H' => ∃ v2, σ = [some (.ref p), some (.ref a), v2, some (.ref f)] ∧ Same H3 H' ∧ H' f = some (.lst (iv ((List.range (i + 1)).map (pre ws))))) ⟨_, rfl, s4, ef⟩ (fun i σ H' _ ⟨_, _, e, _⟩ => Same.lst e hx3) ?_ ?_)
    · rintro i x σ H' hi ⟨v2, rfl, s5, e5⟩
      obtain ⟨z, hz, rfl⟩ := iv_at hi
      have hil : i < ws.length := (List.getElem?_eq_some_iff.mp hz).1
      have hl := R.len
      walk_at "go"
      refine ⟨ty_l e5, ?_⟩
      walk_at "go"
      refine r_ixl (v := .int (pre ws i)) (sq_of e5) (at_ints_last ?_) ?_
      · rw [List.getLast?_eq_getElem?, List.length_map, List.length_range, Nat.add_sub_cancel, List.getElem?_map, List.getElem?_range (by omega)]
        rfl
      walk_at "go"
      refine r_app e5 ?_ fun H6 b6 e6 => ?_
      · rw [List.length_map, List.length_map, List.length_range]
        exact small1000 (by omega)
      walk_at "go"
      exact ⟨_, rfl, But.same s5 nf b6, by rw [e6, init_list hz]⟩
    rintro σ H5 ⟨v2, rfl, s5, e5⟩
    rw [List.length_map] at e5
    -- self.firsts = tuple(firsts)
    walk_at "go"
    refine r_tupL (sq_of e5) fun g H6 ng s6 eg => ?_
    have hp6 := s6 _ _ (s5 _ _ hp3)
    walk_at "go"
    refine r_sfldV hp6 T.cl_Roll T.na_Roll_firsts (by show 1 < 1000; decide) fun H7 b7 hp7 => ?_
    refine k H7 ?_ ⟨R, dx, r, g, ?_, ?_, ?_⟩
    · exact ((But.of (s1.trans s2)).trans b3).trans ((But.of (s5.trans s6)).trans b7)
    · rw [hp7, rf_made]
    · exact b7.tup hp6 rfl (Same.tup s6 (Same.tup s5 er3))
    · exact b7.tup hp6 rfl (st_of eg)
theorem ok_Roll_worths (T : Txt K mg) : FnOk P w K mg base CX0 1 (He.fAd K ("Roll", some "worths")) T.fd_Roll_worths ["self"] (spWorths K) := by
  refine T.F_Roll_worths.ok sc_Roll_worths (fun vs H Q E h => ?_) (fun cdv A outer s H vs Q E hr h => ⟨_, PSs.nox ((pss_one (ps_ret (pe_callTy RC.call_listS rfl T.fr_list (by decide +kernel) (pa_cons (pe_fld (pv 0) rfl) pa_nil))))), ?_⟩)
  · obtain ⟨_, _, rfl, _⟩ := h
    rfl
  · try dsimp only [L2.cxOf, L2.Cx.nox, L2.Cx.wish]
    obtain ⟨p, ws, rfl, R, k⟩ := h
    walk_at "go"
    refine r_row T R fun r er => ?_
    walk_at "go"
    exact r_list (.inr er) fun l H1 nl s1 el => k l H1 nl s1 el
theorem ok_Roll_len (T : Txt K mg) : FnOk P w K mg base CX0 1 (He.fAd K ("Roll", some "__len__")) T.fd_Roll_len ["self"] (spLen K) := by
  refine T.F_Roll_len.ok sc_Roll_len (fun vs H Q E h => ?_) (fun cdv A outer s H vs Q E hr h => ⟨_, PSs.nox ((pss_one (ps_ret (pe_callB RC.call_lenS rfl T.fr_len (by decide +kernel) (pa_cons (pe_fld (pv 0) rfl) pa_nil))))), ?_⟩)
  · obtain ⟨_, _, rfl, _⟩ := h
    rfl
  · try dsimp only [L2.cxOf, L2.Cx.nox, L2.Cx.wish]
    obtain ⟨p, ws, rfl, R, k⟩ := h
    walk_at "go"
    refine r_row T R fun r er => ?_
    walk_at "go"
    exact r_len (.inr er) (by rw [List.length_map]) k
theorem ok_Roll_lap (T : Txt K mg) : FnOk P w K mg base CX0 1 (He.fAd K ("Roll", some "lap")) T.fd_Roll_lap ["self"] (spLap K) := by
  refine T.F_Roll_lap.ok sc_Roll_lap (fun vs H Q E h => ?_) (fun cdv A outer s H vs Q E hr h => ⟨_, PSs.nox ((pss_one (ps_ret (pe_ix ix_tup (pe_fld (pv 0) rfl) (pe_un un_neg pe_int) (fun _ _ => rfl))))), ?_⟩)
  · obtain ⟨_, _, rfl, _⟩ := h
    rfl
  · try dsimp only [L2.cxOf, L2.Cx.nox, L2.Cx.wish]
    obtain ⟨p, ws, rfl, R, k⟩ := h
    walk_at "go"
    refine r_firsts T R fun r er => ?_
    walk_at "go"
    exact r_ixt er (at_ints_last (firsts_last ws)) k
theorem ok_Roll_worth (T : Txt K mg) : FnOk P w K mg base CX0 3 (He.fAd K ("Roll", some "worth")) T.fd_Roll_worth ["self", "at"] (spWorth K) := by
  refine T.F_Roll_worth.ok sc_Roll_worth (fun vs H Q E h => ?_) (fun cdv A outer s H vs Q E hr h => ⟨_, PSs.nox ((pss_cons (ps_expr (pe_call (ok_check_number T) (hr.mono (by decide)) rfl T.g_check_number T.F_check_number.kp (b_check_number T) .nil pass0 (pa_cons (pv 1) (pa_cons pe_int pa_nil))))
      (pss_one (ps_ret (pe_ix ix_tup (pe_fld (pv 0) rfl) (pe_op op_mod (pv 1) (pe_callB RC.call_lenS rfl T.fr_len (by decide +kernel) (pa_cons (pe_fld (pv 0) rfl) pa_nil))) (fun _ _ => rfl)))))), ?_⟩)
  · obtain ⟨_, _, _, rfl, _⟩ := h
    rfl
  · try dsimp only [L2.cxOf, L2.Cx.nox, L2.Cx.wish]
    obtain ⟨p, ws, n, rfl, R, k⟩ := h
    walk_at "go"
    refine ⟨n, 0, rfl, by omega, ?_⟩
    walk_at "go"
    refine r_row T R fun r er => ?_
    walk_at "go"
    refine r_row T R fun r2 er2 => ?_
    walk_at "go"
    refine r_len (n := (ws.length : Int)) (.inr er2) (by rw [List.length_map]) ?_
    have n0 := R.row.n0
    refine r_I (by omega) ?_
    obtain ⟨z, hz⟩ : ∃ z, ws[n % ws.length]? = some z := ⟨_, List.getElem?_eq_getElem (Nat.mod_lt _ n0)⟩
    exact r_ixt er (at_ints hz) (k z hz)
theorem upto_b {ws : List Int} (R : Row ws) {n : Nat} (h : n < 2 ^ 200) : (((n : Int) / (ws.length : Int))).natAbs < 2 ^ 200 := by
  have n0 := R.n0
  have e : ((n : Int) / (ws.length : Int)) = ((n / ws.length : Nat) : Int) := rfl
  rw [e, Int.natAbs_natCast]
  exact Nat.lt_of_le_of_lt (Nat.div_le_self _ _) h
theorem ok_Roll_upto (T : Txt K mg) : FnOk P w K mg base CX0 1 (He.fAd K ("Roll", some "upto")) T.fd_Roll_upto ["self", "many"] (spUpto K) := by
  refine T.F_Roll_upto.ok sc_Roll_upto (fun vs H Q E h => ?_) (fun cdv A outer s H vs Q E hr h => ⟨_, PSs.nox ((pss_one (ps_ret (pe_op op_add (pe_op op_mulW (pe_op op_fdivW (pv 1) (pe_callB RC.call_lenS rfl T.fr_len (by decide +kernel) (pa_cons (pe_fld (pv 0) rfl) pa_nil))) (pe_ix ix_tup (pe_fld (pv 0) rfl) (pe_un un_neg pe_int) (fun _ _ => rfl))) (pe_ix ix_tup (pe_fld (pv 0) rfl) (pe_op op_mod (pv 1) (pe_callB RC.call_lenS rfl T.fr_len (by decide +kernel) (pa_cons (pe_fld (pv 0) rfl) pa_nil))) (fun _ _ => rfl)))))), ?_⟩)
  · obtain ⟨_, _, _, rfl, _⟩ := h
    rfl
  · try dsimp only [L2.cxOf, L2.Cx.nox, L2.Cx.wish]
    obtain ⟨p, ws, n, rfl, R, hn, k⟩ := h
    have n0 := R.row.n0
    have l1 := R.row.len
    have q1 := R.row.sum0
    have q2 := R.row.sumB
    walk_at "go"
    refine r_row T R fun r er => ?_
    walk_at "go"
    refine r_len (n := (ws.length : Int)) (.inr er) (by rw [List.length_map]) ?_
    refine r_I (wide_div (b := 20) (by omega) (by omega) (by decide) (by decide)) ?_
    walk_at "go"
    refine r_firsts T R fun f ef => ?_
    walk_at "go"
    refine r_ixt ef (at_ints_last (firsts_last ws)) ?_
    refine r_I (wide_mul (a := 200) (b := 210) (upto_b R.row hn) (by omega) (by decide) (by decide) (by decide)) ?_
    walk_at "go"
    refine r_firsts T R fun f2 ef2 => ?_
    walk_at "go"
    refine r_row T R fun r2 er2 => ?_
    walk_at "go"
    refine r_len (n := (ws.length : Int)) (.inr er2) (by rw [List.length_map]) ?_
    refine r_I (by omega) ?_
    refine r_ixt ef2 (at_ints (j := n % ws.length) (firsts_at (Nat.le_of_lt (Nat.mod_lt _ n0)))) ?_
    walk_at "go"
    exact k
theorem ok_Roll_total (T : Txt K mg) : FnOk P w K mg base CX0 3 (He.fAd K ("Roll", some "total")) T.fd_Roll_total ["self", "start", "length"] (spTotal K) := by
  refine T.F_Roll_total.ok sc_Roll_total (fun vs H Q E h => ?_) (fun cdv A outer s H vs Q E hr h => ⟨_, PSs.nox ((pss_cons (ps_expr (pe_call (ok_check_number T) (hr.mono (by decide)) rfl T.g_check_number T.F_check_number.kp (b_check_number T) .nil pass0 (pa_cons (pv 1) (pa_cons pe_int pa_nil))))
      (pss_cons (ps_expr (pe_call (ok_check_number T) (hr.mono (by decide)) rfl T.g_check_number T.F_check_number.kp (b_check_number T) .nil pass0 (pa_cons (pv 2) (pa_cons pe_int pa_nil))))
      (pss_one (ps_ret (pe_op op_sub (pe_meth (pv 0) T.cl_Roll T.m_Roll_upto (ok_Roll_upto T) (hr.mono (by decide)) (b_Roll_upto T) .nil pass0 (pa_cons (pe_op op_add (pv 1) (pv 2)) pa_nil)) (pe_meth (pv 0) T.cl_Roll T.m_Roll_upto (ok_Roll_upto T) (hr.mono (by decide)) (b_Roll_upto T) .nil pass0 (pa_cons (pv 1) pa_nil)))))))), ?_⟩)
  · obtain ⟨_, _, _, _, rfl, _⟩ := h
    rfl
  · try dsimp only [L2.cxOf, L2.Cx.nox, L2.Cx.wish]
    obtain ⟨p, ws, n, m, rfl, R, hn, k⟩ := h
    walk_at "go"
    refine ⟨n, 0, rfl, by omega, ?_⟩
    walk_at "go"
    refine ⟨m, 0, rfl, by omega, ?_⟩
    walk_at "go"
    refine r_rollm R (by decide +kernel) (by decide +kernel) ?_
    walk_at "go"
    refine ⟨p, ws, n + m, rfl, R, hn, ?_⟩
    walk_at "go"
    refine r_rollm R (by decide +kernel) (by decide +kernel) ?_
    walk_at "go"
    refine ⟨p, ws, n, rfl, R, by omega, ?_⟩
    walk_at "go"
    exact k
theorem iv_inj {a b : List Int} (h : iv a = iv b) : a = b := (List.map_inj_right (fun _ _ e => V.int.inj e)).mp h
theorem cut_from (ws : List Int) (c : Nat) (h : c ≤ ws.length) : cutV (iv ws) (some (c : Int)) none = iv (ws.drop c) := by
  unfold cutV
  rw [HT.sIx_nat, HT.sIx_none, List.length_map, Nat.min_eq_left h, List.take_of_length_le (by rw [List.length_drop, List.length_map]; exact Nat.le_refl _), ← List.map_drop]
theorem cut_to (ws : List Int) (c : Nat) (h : c ≤ ws.length) : cutV (iv ws) none (some (c : Int)) = iv (ws.take c) := by
  unfold cutV
  rw [HT.sIx_nat, HT.sIx_none, List.length_map, Nat.min_eq_left h, Nat.sub_zero, List.drop_zero, ← List.map_take]
/-- t[lo:hi] of a tuple of ints, whatever object it is -/
theorem r_slt {a : Addr} {xs : List V} {lo hi : Option Int} (h : SqT K H a xs) (q : ∀ b H1, Same H H1 → SqT K H1 b (cutV xs lo hi) → Q (.ref b) H1) : rSlA K (.ref a) lo hi H Q := by
  refine ⟨a, xs, rfl, h, fun e => ?_, fun _ => r_new fun p H1 _ s1 e1 => q p H1 s1 (st_of e1)⟩
  refine q a H (Same.refl H) ?_
  have e2 : cutV xs lo hi = xs := by
    unfold cutV
    rw [e.1, e.2]
    simp
  rw [e2]
  exact h
theorem r_catt {a b : Addr} {xs ys : List V} (h1 : SqT K H a xs) (h2 : SqT K H b ys) (hz : xs.length + ys.length ≤ sizeLine) (q : ∀ c H1, Same H H1 → SqT K H1 c (xs ++ ys) → Q (.ref c) H1) : rCatA K (.ref a) (.ref b) H Q := by
  refine ⟨a, b, xs, ys, rfl, rfl, h1, h2, hz, fun e => ?_, fun _ e => ?_, fun _ _ => r_new fun p H1 _ s1 e1 => q p H1 s1 (st_of e1)⟩
  · refine q b H (Same.refl H) ?_
    rw [e, List.nil_append]
    exact h2
  · refine q a H (Same.refl H) ?_
    rw [e, List.append_nil]
    exact h1
def RevTV (K : PySem.W.Frag) (x : V) (H : Hp) (Q : VK) : Prop := ∃ a xs, x = .ref a ∧ SqT K H a xs ∧ ∀ p, H p = none → Q (.ref p) (upd H p (.tup xs.reverse))
theorem r_revt {te : TE} {σ : L2.St} (h : te σ H fun x H1 => RevTV K x H1 Q) : tRevT K te σ H Q := h
theorem r_revtV {a : Addr} {xs : List V} (h : SqT K H a xs) (q : ∀ l H1, H l = none → Same H H1 → H1 l = some (.tup xs.reverse) → Q (.ref l) H1) : RevTV K (.ref a) H Q := ⟨a, xs, rfl, h, r_new q⟩
theorem ok_Roll_torn (T : Txt K mg) : FnOk P w K mg base CX0 4 (He.fAd K ("Roll", some "torn")) T.fd_Roll_torn ["self", "many"] (spTorn K) := by
  refine T.F_Roll_torn.ok sc_Roll_torn (fun vs H Q E h => ?_) (fun cdv A outer s H vs Q E hr h => ⟨_, PSs.nox ((pss_cons (ps_expr (pe_call (ok_check_number T) (hr.mono (by decide)) rfl T.g_check_number T.F_check_number.kp (b_check_number T) .nil pass0 (pa_cons (pv 1) (pa_cons pe_int pa_nil))))
      (pss_cons (ps_set (i := 2) sc_Roll_torn.nd rfl (by first | exact .inl rfl | exact .inr rfl) (pe_op op_mod (pv 1) (pe_callB RC.call_lenS rfl T.fr_len (by decide +kernel) (pa_cons (pe_fld (pv 0) rfl) pa_nil))))
      (pss_one (ps_ret (pe_make T.mk_Roll (ok_Roll_init T) (hr.mono (by decide)) rfl T.g_Roll (b_Roll_init T) .nil pass0 (pa_cons (pe_callTy RC.call_listS rfl T.fr_list (by decide +kernel) (pa_cons (pe_op op_catA (pe_slice sl_tupA (pe_fld (pv 0) rfl) (po_some (pv 2)) po_none) (pe_slice sl_tupA (pe_fld (pv 0) rfl) po_none (po_some (pv 2)))) pa_nil)) pa_nil))))))), ?_⟩)
  · obtain ⟨_, _, _, rfl, _⟩ := h
    rfl
  · try dsimp only [L2.cxOf, L2.Cx.nox, L2.Cx.wish]
    obtain ⟨p, ws, n, rfl, R, k⟩ := h
    have n0 := R.row.n0
    have l1 := R.row.len
    walk_at "go"
    refine ⟨n, 0, rfl, by omega, ?_⟩
    walk_at "go"
    refine r_row T R fun r er => ?_
    walk_at "go"
    refine r_len (n := (ws.length : Int)) (.inr er) (by rw [List.length_map]) ?_
    refine r_I (by omega) ?_
    have c1 : n % ws.length ≤ ws.length := Nat.le_of_lt (Nat.mod_lt _ n0)
    walk_at "go"
    refine r_row T R fun r1 er1 => ?_
    walk_at "go"
    refine r_slt er1 fun b H1 s1 eb => ?_
    have R1 := Same.roll s1 R
    walk_at "go"
    refine r_row T R1 fun r2 er2 => ?_
    walk_at "go"
    refine r_slt er2 fun c H2 s2 ec => ?_
    have eb2 := Same.tup s2 eb
    have e1 := cut_from ws (n % ws.length) c1
    have e2 := cut_to ws (n % ws.length) c1
    refine r_catt (xs := iv (ws.drop (n % ws.length))) (ys := iv (ws.take (n % ws.length))) (by rw [← e1]; exact eb2) (by rw [← e2]; exact ec) ?_ fun d H3 s3 ed => ?_
    · rw [List.length_map, List.length_map, List.length_drop, List.length_take]
      exact small2 (by omega)
    walk_at "go"
    refine r_list (.inr ed) fun l H4 n4 s4 el => ?_
    walk_at "go"
    refine r_makeV fun q dx H5 n5 s5 e5 => ?_
    refine ⟨q, l, dx, tornL ws n, rfl, e5, sq_of ?_, R.row.torn n, fun H6 b6 R6 => ⟨rfl, ?_⟩⟩
    · rw [s5 _ _ el]
      unfold tornL
      rw [← List.map_append]
    · have sA : Same H H4 := s1.trans (s2.trans (s3.trans s4))
      exact k q H6 (sA.free n5) (But.same (sA.trans s5) (sA.free n5) b6) R6
theorem ok_Roll_mirrored (T : Txt K mg) : FnOk P w K mg base CX0 4 (He.fAd K ("Roll", some "mirrored")) T.fd_Roll_mirrored ["self"] (spMirrored K) := by
  refine T.F_Roll_mirrored.ok sc_Roll_mirrored (fun vs H Q E h => ?_) (fun cdv A outer s H vs Q E hr h => ⟨_, PSs.nox ((pss_one (ps_ret (pe_make T.mk_Roll (ok_Roll_init T) (hr.mono (by decide)) rfl T.g_Roll (b_Roll_init T) .nil pass0 (pa_cons (pe_callTy RC.call_listS rfl T.fr_list (by decide +kernel) (pa_cons (RC.pe_revT (pe_fld (pv 0) rfl)) pa_nil)) pa_nil))))), ?_⟩)
  · obtain ⟨_, _, rfl, _⟩ := h
    rfl
  · try dsimp only [L2.cxOf, L2.Cx.nox, L2.Cx.wish]
    obtain ⟨p, ws, rfl, R, k⟩ := h
    walk_at "go"
    refine r_revt ?_
    walk_at "go"
    refine r_row T R fun r er => ?_
    refine r_revtV er fun c H1 n1 s1 e1 => ?_
    walk_at "go"
    refine r_list (.inr (st_of e1)) fun l H4 n4 s4 el => ?_
    walk_at "go"
    refine r_makeV fun q dx H5 n5 s5 e5 => ?_
    refine ⟨q, l, dx, ws.reverse, rfl, e5, sq_of ?_, R.row.rev, fun H6 b6 R6 => ⟨rfl, ?_⟩⟩
    · rw [s5 _ _ el, ← List.map_reverse]
    · have sA : Same H H4 := s1.trans s4
      exact k q H6 (sA.free n5) (But.same (sA.trans s5) (sA.free n5) b6) R6
theorem ok_Roll_eq (T : Txt K mg) : FnOk P w K mg base CX0 1 (He.fAd K ("Roll", some "__eq__")) T.fd_Roll_eq ["self", "other"] (spRollEq K) := by
  refine T.F_Roll_eq.ok sc_Roll_eq (fun vs H Q E h => ?_) (fun cdv A outer s H vs Q E hr h => ⟨_, PSs.nox ((pss_one (ps_ret (pe_and (pe_callB call_isi rfl T.fr_isinstance (by decide +kernel) (pa_cons (pv 1) (pa_cons (pe_glob (v := .ref (He.ga K "Roll")) rfl T.g_Roll rfl) pa_nil))) (pe_one (pe_cmpR (op_eqD hr.units) (pe_fld (pv 0) rfl) (pe_fld (pv 1) rfl) (nomark _))))))), ?_⟩)
  · obtain ⟨_, _, _, _, rfl, _⟩ := h
    rfl
  · try dsimp only [L2.cxOf, L2.Cx.nox, L2.Cx.wish]
    obtain ⟨p, q, ws, zs, rfl, R, S, k⟩ := h
    walk_at "go"
    refine r_isi (.own _) (roll_ty T S) T.k_Roll_Roll ?_
    walk_at "go"
    refine r_row T R fun r er => ?_
    walk_at "go"
    refine r_row T S fun r2 er2 => ?_
    exact r_eqT er er2 k
theorem ok_check_roll (T : Txt K mg) : FnOk P w K mg base CX0 1 (He.fAd K ("check_roll", none)) T.fd_check_roll ["value"] (spCheckRoll K) := by
  refine T.F_check_roll.ok sc_check_roll (fun vs H Q E h => ?_) (fun cdv A outer s H vs Q E hr h => ⟨_, PSs.nox ((pss_one (ps_if (pt_not (pt_val (pe_callB call_isi rfl T.fr_isinstance (by decide +kernel) (pa_cons (pv 0) (pa_cons (pe_glob (v := .ref (He.ga K "Roll")) rfl T.g_Roll rfl) pa_nil))))) (pss_one ps_never) pss_nil))), ?_⟩)
  · obtain ⟨_, _, rfl, _⟩ := h
    rfl
  · try dsimp only [L2.cxOf, L2.Cx.nox, L2.Cx.wish]
    obtain ⟨p, ws, rfl, R, k⟩ := h
    walk_at "go"
    refine r_isi (.own _) (roll_ty T R) T.k_Roll_Roll ?_
    walk_at "go"
    exact k
end

/-! ## What the laws draw: purses of digits -/
/-- a purse at p: digits, a seed, a count of at most m -/
def Pu (H : Hp) (p : Addr) (m : Nat) : Prop := ∃ A B C : Int, H p = some (.lst [.int A, .int B, .int C]) ∧ (0 ≤ A ∧ A < 2 ^ 2000) ∧ (0 ≤ B ∧ B < 2147483647) ∧ 0 ≤ C ∧ C ≤ m
theorem Pu.but {H H' : Hp} {p q : Addr} {m : Nat} (h : Pu H p m) (b : But q H H') (n : p ≠ q) : Pu H' p m := by
  obtain ⟨A, B, C, e, r⟩ := h
  exact ⟨A, B, C, b _ _ n e, r⟩
theorem Pu.same {H H' : Hp} {p : Addr} {m : Nat} (h : Pu H p m) (s : Same H H') : Pu H' p m := by
  obtain ⟨A, B, C, e, r⟩ := h
  exact ⟨A, B, C, s _ _ e, r⟩
theorem Pu.le {H : Hp} {p : Addr} {m m' : Nat} (h : Pu H p m) (l : m ≤ m') : Pu H p m' := by
  obtain ⟨A, B, C, e, a, b, c, d⟩ := h
  exact ⟨A, B, C, e, a, b, c, by omega⟩
theorem Pu.ne {H : Hp} {p l : Addr} {m : Nat} (h : Pu H p m) (n : H l = none) : p ≠ l := by
  obtain ⟨A, B, C, e, _⟩ := h
  exact ne_of_none e n
/-- what is new is written: what stood is as it was, but at p -/
theorem But.past {p l : Addr} {H H1 H2 : Hp} (a : But p H H1) (n : H l = none) (b : But l H1 H2) : But p H H2 := fun c o nc h => b c o (ne_of_none h n) (a c o nc h)
theorem But.then {p : Addr} {H H1 H2 : Hp} (a : But p H H1) (b : Same H1 H2) : But p H H2 := fun c o n h => b c o (a c o n h)
theorem But.free {p l : Addr} {H H1 : Hp} (a : But p H H1) (h : H1 l = none) (e : l ≠ p) : H l = none := by
  cases q : H l with
  | none => rfl
  | some o =>
    rw [a l o e q] at h
    cases h
theorem cutV_iv (ns : List Int) (lo hi : Option Int) : ∃ ms : List Int, cutV (iv ns) lo hi = iv ms := by
  refine ⟨(ns.drop (HT.sIx ns.length 0 lo)).take (HT.sIx ns.length ns.length hi - HT.sIx ns.length 0 lo), ?_⟩
  unfold cutV
  rw [List.length_map, ← List.map_drop, ← List.map_take]
section
variable {P : Program} {w : World} {K : PySem.W.Frag} {mg : Str → Option Value} {base : Heap} {H : Hp} {Q : VK}
def spMixed (_ : PySem.W.Frag) : Sp := fun vs H Q _ => ∃ a b : Int, vs = [.int a, .int b] ∧ (0 ≤ a ∧ a < 2147483647) ∧ (0 ≤ b ∧ b < 2 ^ 60) ∧ ∀ z, 0 ≤ z → z < 2147483587 → Q (.int z) H
def spPurse (K : PySem.W.Frag) : Sp := fun vs H Q _ => ∃ (a : Addr) (ns : List Int) (k : Nat), vs = [.ref a, .int k] ∧ SqL K H a (iv ns) ∧ k ≤ 1000 ∧ ∀ p H', H p = none → Same H H' → Pu H' p 1000000 → Q (.ref p) H'
def spDraw (_ : PySem.W.Frag) : Sp := fun vs H Q _ => ∃ (p : Addr) (m : Nat) (n : Int), vs = [.ref p, .int n] ∧ Pu H p m ∧ m ≤ 1000000000 ∧ (1 ≤ n ∧ n < 2 ^ 110) ∧ ∀ z H', But p H H' → Pu H' p (m + 5) → 0 ≤ z → z < n → Q (.int z) H'
def spDrawn (K : PySem.W.Frag) : Sp := fun vs H Q _ => ∃ (p : Addr) (m k : Nat) (g : Int), vs = [.ref p, .int k, .int g] ∧ Pu H p m ∧ m ≤ 100000000 ∧ (1 ≤ k ∧ k ≤ 100) ∧ (1 ≤ g ∧ g < 2 ^ 110) ∧
  ∀ l ws H', H l = none → But p H H' → Pu H' p (m + 1000) → H' l = some (.lst (iv ws)) → 1 ≤ ws.length → ws.length ≤ k → (∀ z ∈ ws, 1 ≤ z ∧ z ≤ g) → Q (.ref l) H'
theorem ok_l_mixed (T : Txt K mg) : FnOk P w K mg base CX0 1 (He.fAd K ("_law_mixed", none)) T.fd_l_mixed ["_law_cell", "_law_k"] (spMixed K) := by
  refine T.F_l_mixed.ok sc_l_mixed (fun vs H Q E h => ?_) (fun cdv A outer s H vs Q E hr h => ⟨_, PSs.nox ((pss_cons (ps_set (i := 2) sc_l_mixed.nd rfl (by first | exact .inl rfl | exact .inr rfl) (pe_op op_mod (pe_op op_add (pe_op op_add (pe_op op_add (pe_op op_mul (pv 0) pe_int) (pe_op op_mulW (pe_op op_mul pe_int (pv 1)) (pv 1))) (pv 1)) pe_int) pe_int))
      (pss_cons (ps_set (i := 2) sc_l_mixed.nd rfl (by first | exact .inl rfl | exact .inr rfl) (pe_op op_mod (pe_op op_add (pe_op op_mulW (pv 2) (pv 2)) pe_int) pe_int))
      (pss_one (ps_ret (pe_op op_mod (pe_op op_mul (pv 2) pe_int) pe_int)))))), ?_⟩)
  · obtain ⟨_, _, rfl, _⟩ := h
    rfl
  · try dsimp only [L2.cxOf, L2.Cx.nox, L2.Cx.wish]
    obtain ⟨a, b, rfl, ha, hb, k⟩ := h
    walk_at "go"
    refine r_I (.inr ⟨by decide, by decide⟩) ?_
    walk_at "go"
    refine r_I (.inl ⟨by decide, by decide⟩) ?_
    walk_at "go"
    refine r_I (wide_mul (a := 80) (b := 60) (by omega) (by omega) (by decide) (by decide) (by decide)) ?_
    walk_at "go"
    refine r_I (by decide) ?_
    walk_at "go"
    generalize hx : (a * 1103515245 + 7919 * b * b + b + 1) % 2147483647 = x
    have x0 : 0 ≤ x := by rw [← hx]; exact Int.emod_nonneg _ (by decide)
    have x1 : x < 2147483647 := by rw [← hx]; exact Int.emod_lt_of_pos _ (by decide)
    refine r_I (wide_mul (a := 32) (b := 32) (by omega) (by omega) (by decide) (by decide) (by decide)) ?_
    walk_at "go"
    refine r_I (by decide) ?_
    walk_at "go"
    refine r_I (.inr ⟨by decide, by decide⟩) ?_
    walk_at "go"
    refine r_I (by decide) ?_
    exact k _ (Int.emod_nonneg _ (by decide)) (Int.emod_lt_of_pos _ (by decide))
theorem pow_b : ((10 ^ (60 : Int).toNat : Int) ^ (10 : Int).toNat) < 2 ^ 2000 := by decide +kernel
theorem pow_p : (0 : Int) < ((10 ^ (60 : Int).toNat : Int) ^ (10 : Int).toNat) := by decide +kernel
theorem ok_l_purse (T : Txt K mg) : FnOk P w K mg base CX0 1 (He.fAd K ("_law_purse", none)) T.fd_l_purse ["_law_script", "_law_at"] (spPurse K) := by
  refine T.F_l_purse.ok sc_l_purse (fun vs H Q E h => ?_) (fun cdv A outer s H vs Q E hr h => ⟨_, PSs.nox ((pss_cons (ps_set (i := 2) sc_l_purse.nd rfl (by first | exact .inl rfl | exact .inr rfl) (pe_callB (cr_sum rfl) rfl T.fr_sum (by decide +kernel) (pa_cons (pe_slice sl_list (pv 0) (po_some (pv 1)) (po_some (pe_op op_add (pv 1) pe_int))) pa_nil)))
      (pss_one (ps_ret (pe_lst (pa_cons (pe_op op_mod (pe_callB (RC.call_max2S rfl) rfl T.fr_max (by decide +kernel) (pa_cons (pe_op op_sub (pv 2) (pe_op op_pow pe_int pe_int)) (pa_cons pe_int pa_nil))) (pe_op RC.op_powW (pe_op op_pow pe_int pe_int) pe_int)) (pa_cons (pe_op op_mod (pv 2) pe_int) (pa_cons (pe_op op_mul pe_int (pv 1)) pa_nil)))))))), ?_⟩)
  · obtain ⟨_, _, _, rfl, _⟩ := h
    rfl
  · try dsimp only [L2.cxOf, L2.Cx.nox, L2.Cx.wish]
    obtain ⟨a, ns, j, rfl, hx, hj, k⟩ := h
    obtain ⟨ms, hms⟩ := cutV_iv ns (some (j : Int)) (some ((j : Int) + 1))
    walk_at "go"
    refine r_sll hx fun l H1 n1 s1 e1 => ?_
    rw [hms] at e1
    walk_at "go"
    refine r_sum (sq_of e1) ?_
    walk_at "go"
    refine r_I ⟨by decide, by decide, by decide⟩ ?_
    walk_at "go"
    refine r_I ⟨by decide, by decide, by decide⟩ ?_
    walk_at "go"
    refine r_I ⟨by decide, by decide +kernel⟩ ?_
    refine r_I pow_p ?_
    have a0 := Int.emod_nonneg (if 0 > ms.sum - 10 ^ (18 : Int).toNat then 0 else ms.sum - 10 ^ (18 : Int).toNat) (Int.ne_of_gt pow_p)
    have a1 := Int.lt_trans (Int.emod_lt_of_pos (if 0 > ms.sum - 10 ^ (18 : Int).toNat then 0 else ms.sum - 10 ^ (18 : Int).toNat) pow_p) pow_b
    generalize (if 0 > ms.sum - 10 ^ (18 : Int).toNat then 0 else ms.sum - 10 ^ (18 : Int).toNat) % ((10 ^ (60 : Int).toNat : Int) ^ (10 : Int).toNat) = x at a0 a1 ⊢
    walk_at "go"
    refine r_I (by decide) ?_
    walk_at "go"
    refine r_I (.inl ⟨by decide, by decide⟩) ?_
    walk_at "go"
    refine r_mk (by show 3 ≤ sizeLine; decide) fun q H2 n2 s2 e2 => ?_
    exact k q H2 (s1.free n2) (s1.trans s2) ⟨x, _, _, e2, ⟨a0, a1⟩, ⟨Int.emod_nonneg _ (by decide), Int.emod_lt_of_pos _ (by decide)⟩, by omega, by omega⟩
theorem turns {n : Int} (h : 1 ≤ n ∧ n < 2 ^ 110) : 1 + ((Builtin.Int.intBits n : Nat) : Int) / 30 = ((1 + Builtin.Int.intBits n / 30 : Nat) : Int) ∧ 1 + Builtin.Int.intBits n / 30 ≤ 4 := by
  have hb : Builtin.Int.intBits n ≤ 110 := intBits_le (by omega)
  omega
theorem ok_l_draw (T : Txt K mg) : FnOk P w K mg base CX0 2 (He.fAd K ("_law_draw", none)) T.fd_l_draw ["_law_purse_here", "_law_out_of"] (spDraw K) := by
  refine T.F_l_draw.ok sc_l_draw (fun vs H Q E h => ?_) (fun cdv A outer s H vs Q E hr h => ⟨_, PSs.nox ((pss_cons (ps_if (pt_cmpR op_gt (pe_ix ix_list (pv 0) pe_int (fun _ _ => rfl)) pe_int (nomark _)) (pss_cons (ps_set (i := 2) sc_l_draw.nd rfl (by first | exact .inl rfl | exact .inr rfl) (pe_op op_mod (pe_ix ix_list (pv 0) pe_int (fun _ _ => rfl)) (pv 1)))
      (pss_cons (ps_asg (pe_op op_fdivW (pe_ix ix_list (pv 0) pe_int (fun _ _ => rfl)) (pv 1)) (pg_sub (pv 0) pe_int set_list))
      (pss_one (ps_ret (pv 2))))) pss_nil)
      (pss_cons (ps_set (i := 3) sc_l_draw.nd rfl (by first | exact .inl rfl | exact .inr rfl) pe_int)
      (pss_cons (ps_for PassesOwn.never rfl (pi_range1 rfl T.fr_range (pa_cons (pe_op op_add pe_int (pe_op op_fdiv (pe_bits (pv 1)) pe_int)) pa_nil)) (pg_name (i := 4) sc_l_draw.nd rfl (by first | exact .inl rfl | exact .inr rfl))
      (pss_cons (ps_asg (pe_op op_add (pe_ix ix_list (pv 0) pe_int (fun _ _ => rfl)) pe_int) (pg_sub (pv 0) pe_int set_list))
      (pss_one (ps_set (i := 3) sc_l_draw.nd rfl (by first | exact .inl rfl | exact .inr rfl) (pe_op op_add (pe_op op_mul (pv 3) pe_int) (pe_call (ok_l_mixed T) (hr.mono (by decide)) rfl T.g_l_mixed T.F_l_mixed.kp (b_l_mixed T) .nil pass0 (pa_cons (pe_ix ix_list (pv 0) pe_int (fun _ _ => rfl)) (pa_cons (pe_ix ix_list (pv 0) pe_int (fun _ _ => rfl)) pa_nil))))))))
      (pss_one (ps_ret (pe_op op_mod (pv 3) (pv 1)))))))), ?_⟩)
  · obtain ⟨_, _, _, rfl, _⟩ := h
    rfl
  · try dsimp only [L2.cxOf, L2.Cx.nox, L2.Cx.wish]
    obtain ⟨p, m, n, rfl, ⟨A, B, C, e, ⟨hA0, hA1⟩, ⟨hB0, hB1⟩, hC0, hC1⟩, hm, ⟨hn0, hn1⟩, k⟩ := h
    have nb : n.natAbs < 2 ^ 110 := by omega
    walk_at "go"
    refine r_ixl (v := .int A) (sq_of e) rfl ?_
    walk_at "go"
    refine if_d (fun pos => ?_) fun z => ?_
    · walk_at "go"
      refine r_ixl (v := .int A) (sq_of e) rfl ?_
      walk_at "go"
      refine r_I (by omega) ?_
      walk_at "go"
      refine r_ixl (v := .int A) (sq_of e) rfl ?_
      walk_at "go"
      refine r_I (wide_div (b := 110) (by omega) nb (by decide) (by decide)) ?_
      walk_at "go"
      refine r_setl e (j := 0) rfl fun H1 b1 e1 => ?_
      walk_at "go"
      refine k _ H1 b1 ⟨A / n, B, C, e1, ⟨Int.ediv_nonneg hA0 (by omega), Int.lt_of_le_of_lt (Int.ediv_le_self _ hA0) hA1⟩, ⟨hB0, hB1⟩, hC0, by omega⟩ (Int.emod_nonneg _ (by omega)) (Int.emod_lt_of_pos _ (by omega))
    walk_at "go"
    refine r_I ⟨by decide, by decide⟩ ?_
    walk_at "go"
    obtain ⟨t1, t2⟩ := turns ⟨hn0, hn1⟩
    refine r_rng1' t1 (by omega) (for_range (fun i σ H' => ∃ (x : Int) (v4 : Option V), σ = [some (.ref p), some (.int n), none, some (.int x), v4] ∧ But p H H' ∧ H' p = some (.lst [.int A, .int B, .int (C + i)])) ⟨0, none, rfl, But.refl _ _, by rw [e]; simp⟩ ?_ ?_)
    · rintro i σ H' hi ⟨x, v4, rfl, b, e'⟩
      walk_at "go"
      refine r_ixl (v := .int (C + i)) (sq_of e') rfl ?_
      walk_at "go"
      refine r_setl e' (j := 2) rfl fun H1 b1 e1 => ?_
      walk_at "go"
      refine r_I (.inr ⟨by decide, by decide⟩) ?_
      walk_at "go"
      refine r_ixl (v := .int B) (sq_of e1) rfl ?_
      walk_at "go"
      refine r_ixl (v := .int (C + i + 1)) (sq_of e1) rfl ?_
      walk_at "go"
      refine ⟨B, _, rfl, ⟨hB0, hB1⟩, by omega, fun z _ _ => ?_⟩
      walk_at "go"
      exact ⟨_, _, rfl, b.trans b1, by rw [e1]; simp [Int.add_assoc]⟩
    rintro σ H' ⟨x, v4, rfl, b, e'⟩
    walk_at "go"
    refine r_I (by omega) ?_
    exact k _ H' b ⟨A, B, _, e', ⟨hA0, hA1⟩, ⟨hB0, hB1⟩, by omega, by omega⟩ (Int.emod_nonneg _ (by omega)) (Int.emod_lt_of_pos _ (by omega))
theorem ok_l_worths_drawn (T : Txt K mg) : FnOk P w K mg base CX0 3 (He.fAd K ("_law_worths_drawn", none)) T.fd_l_worths_drawn ["_law_purse_here", "_law_most", "_law_greatest"] (spDrawn K) := by
  refine T.F_l_worths_drawn.ok sc_l_worths_drawn (fun vs H Q E h => ?_) (fun cdv A outer s H vs Q E hr h => ⟨_, PSs.nox ((pss_cons (ps_set (i := 3) sc_l_worths_drawn.nd rfl (by first | exact .inl rfl | exact .inr rfl) (pe_lst pa_nil))
      (pss_cons (ps_for PassesOwn.never rfl (pi_range1 rfl T.fr_range (pa_cons (pe_op op_add pe_int (pe_call (ok_l_draw T) (hr.mono (by decide)) rfl T.g_l_draw T.F_l_draw.kp (b_l_draw T) .nil pass0 (pa_cons (pv 0) (pa_cons (pv 1) pa_nil)))) pa_nil)) (pg_name (i := 4) sc_l_worths_drawn.nd rfl (by first | exact .inl rfl | exact .inr rfl))
      (pss_one (ps_expr (pe_bm PySem.F.plainAttrs_list PySem.F.slot_list_append PySem.F.type_list_append mt_append (pv 3) (pa_cons (pe_op op_add pe_int (pe_call (ok_l_draw T) (hr.mono (by decide)) rfl T.g_l_draw T.F_l_draw.kp (b_l_draw T) .nil pass0 (pa_cons (pv 0) (pa_cons (pv 2) pa_nil)))) pa_nil)))))
      (pss_one (ps_ret (pv 3)))))), ?_⟩)
  · obtain ⟨_, _, _, _, rfl, _⟩ := h
    rfl
  · try dsimp only [L2.cxOf, L2.Cx.nox, L2.Cx.wish]
    obtain ⟨p, m, kk, g, rfl, hp, hm, ⟨hk0, hk1⟩, hg, k⟩ := h
    walk_at "go"
    refine r_mk (by decide) fun l H1 nl s1 el => ?_
    walk_at "go"
    have hp1 := hp.same s1
    have pl : p ≠ l := hp.ne nl
    refine ⟨p, m, kk, rfl, hp1, by omega, by omega, fun z H2 b2 hp2 z0 z1 => ?_⟩
    have el2 := b2 _ _ pl.symm el
    walk_at "go"
    refine r_rng1' (n := (1 + z).toNat) (by omega) (by omega) (for_range (fun i σ H' => ∃ (v4 : Option V) (ws : List Int), σ = [some (.ref p), some (.int kk), some (.int g), some (.ref l), v4] ∧ But p H H' ∧ Pu H' p (m + 5 + 5 * i) ∧ H' l = some (.lst (iv ws)) ∧ ws.length = i ∧ ∀ z ∈ ws, 1 ≤ z ∧ z ≤ g) ⟨none, [], rfl, (But.of s1).trans b2, hp2, el2, rfl, fun _ h => absurd h List.not_mem_nil⟩ ?_ ?_)
    · rintro i σ H' hi ⟨v4, ws, rfl, b, hp', el', hl, hw⟩
      walk_at "go"
      refine ⟨ty_l el', ?_⟩
      walk_at "go"
      refine ⟨p, _, g, rfl, hp', by omega, hg, fun y H3 b3 hp3 y0 y1 => ?_⟩
      have el3 := b3 _ _ pl.symm el'
      walk_at "go"
      refine r_app el3 (small1 (by rw [List.length_map]; omega)) fun H4 b4 el4 => ?_
      walk_at "go"
      refine ⟨_, ws ++ [1 + y], rfl, ?_, ?_, by rw [el4]; simp, by rw [List.length_append, hl]; rfl, fun z hz => ?_⟩
      · exact (b.trans b3).past nl b4
      · exact (hp3.but b4 pl).le (by omega)
      · rcases List.mem_append.mp hz with hz | hz
        · exact hw z hz
        · rw [List.mem_singleton.mp hz]
          omega
    rintro σ H' ⟨v4, ws, rfl, b, hp', el', hl, hw⟩
    walk_at "go"
    exact k l ws H' nl b (hp'.le (by omega)) el' (by omega) (by omega) hw
end

/-! ### rolls compared; len(roll) -/
section
variable {K : PySem.W.Frag} {mg : Str → Option Value} {H : Hp} {Q : VK}
theorem op_eqR {X : Cx} (T : Txt X.K X.mg) (hr : Room 2 X.A) : OpR X (compareOp .Eq) (rEqO X.K (ga X.K "Roll") (spRollEq X.K) fun _ _ _ => False) := op_eqOwn T.m_Roll_eq (ok_Roll_eq T) (hr.mono (by decide)) (b_Roll_eq T) pass0
theorem op_neR {X : Cx} (T : Txt X.K X.mg) (hr : Room 2 X.A) : OpR X (compareOp .NotEq) (rNeO X.K (ga X.K "Roll") (spRollEq X.K) fun _ _ _ => False) := op_neOwn T.m_Roll_eq T.x_Roll.ne T.x_Roll.hm (ok_Roll_eq T) (hr.mono (by decide)) (b_Roll_eq T) pass0
theorem r_eqR (T : Txt K mg) {p q : Addr} {ws zs : List Int} {E : XK} (R : RollAt K H p ws) (S : RollAt K H q zs) (h : Q (.bl (decide (ws = zs))) H) : rEqO K (ga K "Roll") (spRollEq K) E (.ref p) (.ref q) H Q := by
  obtain ⟨_, dx, r, f, e, _, _⟩ := id R
  exact ⟨p, dx, _, rfl, e, ⟨_, roll_ty T S, T.n_Roll_Roll⟩, p, q, ws, zs, rfl, R, S, _, rfl, h⟩
theorem r_neR (T : Txt K mg) {p q : Addr} {ws zs : List Int} {E : XK} (R : RollAt K H p ws) (S : RollAt K H q zs) (h : Q (.bl (!decide (ws = zs))) H) : rNeO K (ga K "Roll") (spRollEq K) E (.ref p) (.ref q) H Q := by
  obtain ⟨_, dx, r, f, e, _, _⟩ := id R
  exact ⟨p, dx, _, rfl, e, ⟨_, roll_ty T S, T.n_Roll_Roll⟩, p, q, ws, zs, rfl, R, S, _, rfl, h⟩
theorem call_lenO {X : Cx} (T : Txt X.K X.mg) (hr : Room 2 X.A) : CallR X (.builtin "len") (rLenO (ga X.K "Roll") (spLen X.K) fun _ _ _ => False) := call_lenOwn T.m_Roll_len (ok_Roll_len T) (hr.mono (by decide)) (b_Roll_len T) pass0
theorem r_lenR {p : Addr} {ws : List Int} {E : XK} (R : RollAt K H p ws) (h : Q (.int ws.length) H) : rLenO (ga K "Roll") (spLen K) E [.ref p] H Q := by
  obtain ⟨_, dx, r, f, e, _, _⟩ := id R
  have l := R.row.len
  exact ⟨p, dx, _, rfl, e, p, ws, rfl, R, _, rfl, ⟨by omega, by omega⟩, h⟩
end

/-! ## Forms: turned and mirrored rows; the least of them -/
/-! ### min of a list of data -/
section
variable {X : Cx}
def rMinD (K : PySem.W.Frag) : List V → Hp → VK → Prop := fun vs H Q => ∃ (a : Addr) (xs : List V) (d : PyData) (ds : List PyData), vs = [.ref a] ∧ SqL K H a xs ∧ DpAll K H xs (d :: ds) ∧ PySem.W.AlikeAll (d :: ds) ∧ PyData.depthAll (d :: ds) ≤ 40 ∧
  ∀ (i : Nat) v, xs[i]? = some v → (d :: ds)[i]? = some (PySem.W.minD d ds) → Q v H
theorem vals_at : ∀ {xs : List V} {us : List Value} {i : Nat} {u : Value}, Vals xs us → us[i]? = some u → ∃ x, xs[i]? = some x ∧ RelV x u
  | _, _, _, _, .nil, h => by simp at h
  | _, _, 0, _, .cons (a := x) r rs, h => by
    have e := Option.some.inj (show some _ = some _ from h)
    subst e
    exact ⟨x, rfl, r⟩
  | _, _, i + 1, _, .cons r rs, h => by
    obtain ⟨x, a, b⟩ := vals_at (i := i) rs (by simpa using h)
    exact ⟨x, by simpa using a, b⟩
theorem cr_minLL (hc : X.calm = true) (hr : Room 1 X.A) : CallR X (.builtin "min") (rMinD X.K) := by
  intro pins s σ H vs us Q I r h
  obtain ⟨a, xs, d, ds, rfl, hs, hd, al, dep, q⟩ := h
  obtain ⟨its, rv, hl, _⟩ := I.list hs
  rw [Vals.ref1 r]
  obtain ⟨as, hr0⟩ := Dp.readsAll I (d :: ds) xs its hd rv
  have hr' : ReadsAll s.heap its.toArray.toList (d :: ds) as := by rw [List.toList_toArray]; exact hr0
  have hu := hr.units
  have hn : its.toArray.size = ds.length + 1 := PySem.W.readsAll_len hr'
  have hh : X.A.handled = none := I.ok.hd hc
  refine call_min_walkH (PySem.W.iter_listW (A := X.A.in1) hh hl.isList fun s₂ e W st hfp hw hk => ?_)
  refine ⟨_, _, _, _, _, _, _, s.heap, _, rfl, W, st, hfp, by omega, hw, hk, PySem.W.cmpIn_lt (A := X.A.in1) hr' al (by show X.A.units + 1 + _ < _; omega), fun v s' hP m => ?_⟩
  obtain ⟨h', tk, rfl, hk'⟩ := PySem.W.moved_old e rfl m
  obtain ⟨bs, r2, hi, _, _⟩ := PySem.W.readsAll_atA hr' _ v hP
  have e1 : its.toArray.size - 1 = ds.length := by omega
  have e2 := (PySem.W.argBest_fold PySem.W.dataLt PyData.none d ds ds.length (Nat.le_refl _)).2
  rw [List.take_length] at e2
  have hv : its[argBest (fun i j => PySem.W.dataLt ((d :: ds).getD i .none) ((d :: ds).getD j .none)) (its.toArray.size - 1)]? = some v := by
    have := hP
    simpa using this
  obtain ⟨x, hx, rx⟩ := vals_at rv hv
  refine ⟨x, H, I.kept hk', rx, q _ x hx ?_⟩
  have e3 : (d :: ds).getD (argBest (fun i j => PySem.W.dataLt ((d :: ds).getD i .none) ((d :: ds).getD j .none)) (its.toArray.size - 1)) .none = PySem.W.minD d ds := by
    rw [e1]
    exact e2
  rw [List.getD_eq_getElem?_getD, List.getElem?_eq_getElem hi] at e3
  rw [List.getElem?_eq_getElem hi]
  exact congrArg some e3
end
/-! ### the mathematics: rows that are turned, or mirrored and turned -/
def Turned (a b : List Int) : Prop := ∃ u v, a = u ++ v ∧ b = v ++ u
theorem Turned.refl (a : List Int) : Turned a a := ⟨[], a, rfl, by simp⟩
theorem Turned.symm {a b : List Int} (h : Turned a b) : Turned b a := by
  obtain ⟨u, v, e1, e2⟩ := h
  exact ⟨v, u, e2, e1⟩
theorem Turned.trans {a b c : List Int} (h1 : Turned a b) (h2 : Turned b c) : Turned a c := by
  obtain ⟨u, v, rfl, rfl⟩ := h1
  obtain ⟨s, t, e, rfl⟩ := h2
  rcases List.append_eq_append_iff.mp e with ⟨w, e1, e2⟩ | ⟨w, e1, e2⟩
  · subst e1 e2
    exact ⟨w, t ++ v, by simp, by simp⟩
  · subst e1 e2
    exact ⟨u ++ s, w, by simp, by simp⟩
theorem Turned.rev {a b : List Int} (h : Turned a b) : Turned a.reverse b.reverse := by
  obtain ⟨u, v, rfl, rfl⟩ := h
  exact ⟨v.reverse, u.reverse, by simp, by simp⟩
theorem Turned.torn (ws : List Int) (n : Nat) : Turned ws (tornL ws n) := ⟨ws.take (n % ws.length), ws.drop (n % ws.length), (List.take_append_drop _ _).symm, rfl⟩
theorem Turned.sum {a b : List Int} (h : Turned a b) : b.sum = a.sum := by
  obtain ⟨u, v, rfl, rfl⟩ := h
  rw [List.sum_append, List.sum_append, Int.add_comm]
theorem Turned.len {a b : List Int} (h : Turned a b) : b.length = a.length := by
  obtain ⟨u, v, rfl, rfl⟩ := h
  rw [List.length_append, List.length_append, Nat.add_comm]
theorem Turned.mem {a b : List Int} (h : Turned a b) {z : Int} : z ∈ b ↔ z ∈ a := by
  obtain ⟨u, v, rfl, rfl⟩ := h
  rw [List.mem_append, List.mem_append, Or.comm]
/-- b is a turned a, or a turned mirrored a -/
def Form (a b : List Int) : Prop := Turned a b ∨ Turned a.reverse b
theorem Form.of_turned {a b c : List Int} (h : Turned a b) (f : Form b c) : Form a c := by
  rcases f with f | f
  · exact .inl (h.trans f)
  · exact .inr (h.rev.trans f)
theorem Form.of_rev {a c : List Int} (f : Form a.reverse c) : Form a c := by
  rcases f with f | f
  · exact .inr f
  · rw [List.reverse_reverse] at f
    exact .inl f
theorem Form.trans {a b c : List Int} (h : Form a b) (f : Form b c) : Form a c := by
  rcases h with h | h
  · exact .of_turned h f
  · exact .of_rev (.of_turned h f)
theorem Form.symm {a b : List Int} (h : Form a b) : Form b a := by
  rcases h with h | h
  · exact .inl h.symm
  · have := h.symm.rev
    rw [List.reverse_reverse] at this
    exact .inr this
theorem Form.refl (a : List Int) : Form a a := .inl (Turned.refl a)
theorem Form.mirror (a : List Int) : Form a a.reverse := .inr (Turned.refl _)
theorem sum_reverse : ∀ a : List Int, a.reverse.sum = a.sum
  | [] => rfl
  | x :: a => by
    rw [List.reverse_cons, List.sum_append, sum_reverse a, List.sum_cons, List.sum_cons, List.sum_nil]
    omega
theorem Form.sum {a b : List Int} (h : Form a b) : b.sum = a.sum := by
  rcases h with h | h
  · exact h.sum
  · rw [h.sum, sum_reverse]
theorem Form.len {a b : List Int} (h : Form a b) : b.length = a.length := by
  rcases h with h | h
  · exact h.len
  · rw [h.len, List.length_reverse]
theorem Form.row {a b : List Int} (h : Form a b) (r : Row a) : Row b := by
  have m : ∀ z, z ∈ b → z ∈ a := fun z hz => by
    rcases h with h | h
    · exact h.mem.mp hz
    · exact List.mem_reverse.mp (h.mem.mp hz)
  refine ⟨fun e => ?_, fun z hz => r.pos z (m z hz), fun z hz => r.big z (m z hz), by rw [h.len]; exact r.len⟩
  have l := h.len
  have := r.n0
  rw [e] at l
  simp at l
  omega
/-- the least of the forms -/
def Least (a m : List Int) : Prop := Form a m ∧ ∀ y, Form a y → m ≤ y
theorem Least.same {a b m n : List Int} (f : Form a b) (h1 : Least a m) (h2 : Least b n) : m = n := by
  have x := h1.2 n (f.trans h2.1)
  have y := h2.2 m (f.symm.trans h1.1)
  exact List.le_antisymm x y
def fm (ws : List Int) (i : Nat) : List Int := ws.drop i ++ ws.take i
def formsL (ws : List Int) : List (List Int) := (List.range ws.length).map (fm ws)
theorem mem_formsL {ws y : List Int} (h : ws ≠ []) : y ∈ formsL ws ↔ Turned ws y := by
  unfold formsL
  rw [List.mem_map]
  constructor
  · rintro ⟨i, _, rfl⟩
    exact ⟨ws.take i, ws.drop i, (List.take_append_drop _ _).symm, rfl⟩
  · rintro ⟨u, v, rfl, rfl⟩
    by_cases e : v = []
    · subst e
      refine ⟨0, ?_, by simp [fm]⟩
      rw [List.mem_range]
      exact List.length_pos_iff.mpr h
    · refine ⟨u.length, ?_, by simp [fm]⟩
      rw [List.mem_range, List.length_append]
      have := List.length_pos_iff.mpr e
      omega
/-- the list of all forms, as the loop makes it -/
def formsUp (ws : List Int) : Nat → List (List Int)
  | 0 => []
  | 1 => formsL ws
  | _ => formsL ws ++ formsL ws.reverse
theorem mem_forms {ws y : List Int} (h : ws ≠ []) : y ∈ formsUp ws 2 ↔ Form ws y := by
  show y ∈ formsL ws ++ formsL ws.reverse ↔ _
  rw [List.mem_append, mem_formsL h, mem_formsL (fun e => h (List.reverse_eq_nil_iff.mp e))]
  exact Iff.rfl
theorem formsL_len (ws : List Int) : (formsL ws).length = ws.length := by simp [formsL]
def minL (a y : List Int) : List Int := if y < a then y else a
theorem minD_rows (r : List Int) : ∀ rs : List (List Int), PySem.W.minD (dI r) (rs.map dI) = dI (rs.foldl minL r) := by
  intro rs
  unfold PySem.W.minD
  induction rs generalizing r with
  | nil => rfl
  | cons k rs ih =>
    rw [List.map_cons, List.foldl_cons, List.foldl_cons, ← ih]
    congr 1
    show (if PySem.W.dataLt (dI k) (dI r) = true then dI k else dI r) = dI (if k < r then k else r)
    have e : PySem.W.dataLt (dI k) (dI r) = decide (k < r) := by
      rw [PySem.W.dataLt_list]
      exact PySem.W.dataLt_ints k r
    rw [e]
    by_cases h : k < r
    · rw [if_pos (decide_eq_true h), if_pos h]
    · rw [if_neg (by simpa using h), if_neg h]
theorem fold_minL : ∀ (rs : List (List Int)) (r : List Int), rs.foldl minL r ∈ r :: rs ∧ ∀ y ∈ r :: rs, rs.foldl minL r ≤ y
  | [], r => ⟨List.mem_cons_self, fun y hy => by
    rcases List.mem_cons.mp hy with rfl | h
    · exact List.le_refl _
    · cases h⟩
  | k :: rs, r => by
    obtain ⟨h1, h2⟩ := fold_minL rs (minL r k)
    rw [List.foldl_cons]
    have hm : minL r k = k ∨ minL r k = r := by
      unfold minL
      by_cases c : k < r
      · exact .inl (if_pos c)
      · exact .inr (if_neg c)
    have hr : minL r k ≤ r := by
      unfold minL
      by_cases c : k < r
      · rw [if_pos c]
        exact List.le_of_lt c
      · rw [if_neg c]
        exact List.le_refl _
    have hk : minL r k ≤ k := by
      unfold minL
      by_cases c : k < r
      · rw [if_pos c]
        exact List.le_refl _
      · rw [if_neg c]
        exact List.not_lt.mp c
    have l0 := h2 _ List.mem_cons_self
    constructor
    · rcases List.mem_cons.mp h1 with h | h
      · rw [h]
        rcases hm with e | e
        · rw [e]
          exact List.mem_cons_of_mem _ List.mem_cons_self
        · rw [e]
          exact List.mem_cons_self
      · exact List.mem_cons_of_mem _ (List.mem_cons_of_mem _ h)
    · intro y hy
      rcases List.mem_cons.mp hy with rfl | hy
      · exact List.le_trans l0 hr
      · rcases List.mem_cons.mp hy with rfl | hy
        · exact List.le_trans l0 hk
        · exact h2 y (List.mem_cons_of_mem _ hy)
theorem iv_pd {a b : List Int} (h : dI a = dI b) : a = b := (List.map_inj_right (fun _ _ e => PyData.int.inj e)).mp (PyData.list.inj h)
theorem alike_rows (rs : List (List Int)) : PySem.W.AlikeAll (rs.map dI) := by
  constructor
  · intro x hx y hy
    obtain ⟨a, _, rfl⟩ := List.mem_map.mp hx
    obtain ⟨b, _, rfl⟩ := List.mem_map.mp hy
    show PySem.W.alike (.list _) (.list _) = true
    rw [PySem.W.alike]
    exact PySem.W.alike_ints a b
  · intro x hx e
    obtain ⟨a, _, rfl⟩ := List.mem_map.mp hx
    cases e
theorem depth_rows : ∀ rs : List (List Int), PyData.depthAll (rs.map dI) ≤ 40
  | [] => by simp [PyData.depthAll]
  | r :: rs => by
    have := depth_rows rs
    rw [List.map_cons, PyData.depthAll]
    have e : (dI r).depth = 1 := by
      show (PyData.list _).depth = 1
      rw [PyData.depth, dep_ints]
    omega
/-! ### lists of rows in the heap -/
/-- the lists at these addresses are these rows -/
inductive RowsAt (p : Addr → Prop) (H : Hp) : List V → List (List Int) → Prop
  | nil : RowsAt p H [] []
  | cons {r : Addr} {n : List Int} {xs : List V} {ns : List (List Int)} : H r = some (.lst (iv n)) → p r → RowsAt p H xs ns → RowsAt p H (.ref r :: xs) (n :: ns)
theorem RowsAt.mono {p q : Addr → Prop} {H H' : Hp} (h : ∀ b o, p b → H b = some o → q b ∧ H' b = some o) : ∀ {xs : List V} {ns : List (List Int)}, RowsAt p H xs ns → RowsAt q H' xs ns
  | _, _, .nil => .nil
  | _, _, .cons a b c => .cons (h _ _ b a).2 (h _ _ b a).1 (RowsAt.mono h c)
theorem RowsAt.app {p : Addr → Prop} {H : Hp} : ∀ {xs ys : List V} {ns ms : List (List Int)}, RowsAt p H xs ns → RowsAt p H ys ms → RowsAt p H (xs ++ ys) (ns ++ ms)
  | _, _, _, _, .nil, h => h
  | _, _, _, _, .cons a b c, h => .cons a b (RowsAt.app c h)
theorem RowsAt.dpa {K : PySem.W.Frag} {p : Addr → Prop} {H : Hp} : ∀ {xs : List V} {ns : List (List Int)}, RowsAt p H xs ns → DpAll K H xs (ns.map dI)
  | _, _, .nil => .nil
  | _, _, .cons a _ c => .cons (dp_ints (sq_of a)) (RowsAt.dpa c)
theorem RowsAt.len {p : Addr → Prop} {H : Hp} : ∀ {xs : List V} {ns : List (List Int)}, RowsAt p H xs ns → xs.length = ns.length
  | _, _, .nil => rfl
  | _, _, .cons _ _ c => by rw [List.length_cons, List.length_cons, RowsAt.len c]
theorem RowsAt.at_ {p : Addr → Prop} {H : Hp} : ∀ {xs : List V} {ns : List (List Int)} {i : Nat} {x : V}, RowsAt p H xs ns → xs[i]? = some x → ∃ r n, x = .ref r ∧ ns[i]? = some n ∧ H r = some (.lst (iv n)) ∧ p r
  | _, _, _, _, .nil, h => by simp at h
  | _, _, 0, _, .cons (r := r) (n := n) a b _, h => by
    have e := Option.some.inj (show some _ = some _ from h)
    subst e
    exact ⟨r, n, rfl, rfl, a, b⟩
  | _, _, i + 1, _, .cons a b c, h => by
    obtain ⟨r, n, e, f, g⟩ := RowsAt.at_ (i := i) c (by simpa using h)
    exact ⟨r, n, e, by simpa using f, g⟩
section
variable {P : Program} {w : World} {K : PySem.W.Frag} {mg : Str → Option Value} {base : Heap} {H : Hp} {Q : VK}
theorem r_min {a : Addr} {xs : List V} {ns : List (List Int)} {p : Addr → Prop} (h : SqL K H a xs) (R : RowsAt p H xs ns) (ne : ns ≠ []) (q : ∀ r m, H r = some (.lst (iv m)) → p r → m ∈ ns → (∀ y ∈ ns, m ≤ y) → Q (.ref r) H) : rMinD K [.ref a] H Q := by
  cases ns with
  | nil => exact absurd rfl ne
  | cons n ns =>
    obtain ⟨f1, f2⟩ := fold_minL ns n
    refine ⟨a, xs, dI n, ns.map dI, rfl, h, R.dpa, alike_rows (n :: ns), depth_rows (n :: ns), fun (i : Nat) v hv hd => ?_⟩
    obtain ⟨r, m, rfl, hm, hr, pr⟩ := R.at_ hv
    have e : ((n :: ns).map dI)[i]? = some (dI m) := by
      rw [List.getElem?_map, hm]
      rfl
    have e2 : m = ns.foldl minL n := by
      rw [minD_rows] at hd
      have := e.symm.trans (show ((n :: ns).map dI)[i]? = _ from hd)
      exact iv_pd (Option.some.inj this)
    rw [← e2] at f1 f2
    exact q r m hr pr f1 f2
/-! ### the promises -/
def spLeastForm (K : PySem.W.Frag) : Sp := fun vs H Q _ => ∃ (a : Addr) (ws : List Int), vs = [.ref a] ∧ SqL K H a (iv ws) ∧ ws ≠ [] ∧ ws.length ≤ 1000 ∧ ∀ l m H', H l = none → Same H H' → H' l = some (.lst (iv m)) → Least ws m → Q (.ref l) H'
def spFirstForm (K : PySem.W.Frag) : Sp := fun vs H Q _ => ∃ (p : Addr) (ws : List Int), vs = [.ref p] ∧ RollAt K H p ws ∧ ∀ l m H', H l = none → Same H H' → H' l = some (.lst (iv m)) → Least ws m → Q (.ref l) H'
theorem formsL_snoc (ws : List Int) (i : Nat) : (List.range (i + 1)).map (fm ws) = (List.range i).map (fm ws) ++ [fm ws i] := by
  rw [List.range_succ, List.map_append]
  rfl
theorem ok_least_form (T : Txt K mg) : FnOk P w K mg base CX0 2 (He.fAd K ("least_form", none)) T.fd_least_form ["row"] (spLeastForm K) := by
  refine T.F_least_form.ok sc_least_form (fun vs H Q E h => ?_) (fun cdv A outer s H vs Q E hr h => ⟨_, PSs.nox ((pss_cons (ps_set (i := 1) sc_least_form.nd rfl (by first | exact .inl rfl | exact .inr rfl) (pe_lst pa_nil))
      (pss_cons (ps_for PassesOwn.never rfl (pi_tup (pe_tup (pa_cons (pv 0) (pa_cons (pe_revL (pv 0)) pa_nil)))) (pg_name (i := 2) sc_least_form.nd rfl (by first | exact .inl rfl | exact .inr rfl))
      (pss_one (ps_expr (pe_bm PySem.F.plainAttrs_list PySem.F.slot_list_extend PySem.F.type_list_extend mt_extend (pv 1) (pa_cons (pe_lc (own := [("at", 3)]) rfl sc_least_form.nd (pi_range1 rfl T.fr_range (pa_cons (pe_callB RC.call_lenS rfl T.fr_len (by decide +kernel) (pa_cons (pv 2) pa_nil)) pa_nil)) (blkOk_by (N := N_least_form) (sc := defScope s_least_form) (by decide +kernel)) (fun _ _ _ _ _ => (pg_name (i := 3) sc_least_form.nd rfl (by first | exact .inl rfl | exact .inr rfl))) (fun _ _ _ _ _ => pts_nil) (fun _ _ _ _ _ => (pe_op op_cat (pe_slice (RC.kOf rSlL (K := K) sl_list rfl) (pv 2) (po_some (pv 3)) po_none) (pe_slice (RC.kOf rSlL (K := K) sl_list rfl) (pv 2) po_none (po_some (pv 3)))))) pa_nil)))))
      (pss_one (ps_ret (pe_callB (RC.cr_minLL rfl (hr.mono (by decide))) rfl T.fr_min (by decide +kernel) (pa_cons (pv 1) pa_nil))))))), ?_⟩)
  · obtain ⟨_, _, rfl, _⟩ := h
    rfl
  · try dsimp only [L2.cxOf, L2.Cx.nox, L2.Cx.wish]
    obtain ⟨a, ws, rfl, hx, hne, hlen, k⟩ := h
    walk_at "go"
    refine r_mk (by decide) fun f H1 nf s1 ef => ?_
    walk_at "go"
    refine r_revV (Same.lst s1 hx) fun b H2 nb s2 eb => ?_
    walk_at "go"
    refine r_mk (by show 2 ≤ sizeLine; decide) fun t H3 nt s3 et => ?_
    have tf : t ≠ f := (ne_of_none (s2 _ _ ef) nt).symm
    have bf : b ≠ f := (ne_of_none ef nb).symm
    have x3 : SqL K H3 a (iv ws) := Same.lst (s1.trans (s2.trans s3)) hx
    refine r_itup' (st_of et) (for_tup (K := K) (a := t) (xs := [V.ref a, V.ref b]) (fun i σ H' => ∃ (v2 v3 : Option V) (xs : List V), σ = [some (.ref a), some (.ref f), v2, v3] ∧ Same H H' ∧ H' t = some (.tup [V.ref a, V.ref b]) ∧ H' b = some (.lst (iv ws.reverse)) ∧ H' f = some (.lst xs) ∧ RowsAt (fun r => r ≠ f ∧ H r = none) H' xs (formsUp ws i)) ⟨none, none, [], rfl, s1.trans (s2.trans s3), et, by rw [s3 _ _ eb, ← List.map_reverse], s3 _ _ (s2 _ _ ef), .nil⟩ (fun i σ H' _ ⟨_, _, _, _, _, e, _⟩ => st_of e) ?_ ?_)
    · rintro i x σ H' hi ⟨v2, v3, xs, rfl, sH, tH, bH, fH, rH⟩
      obtain ⟨q, zs, rfl, hz, hzl, hup⟩ : ∃ q zs, x = .ref q ∧ SqL K H' q (iv zs) ∧ zs.length = ws.length ∧ formsUp ws (i + 1) = formsUp ws i ++ formsL zs := by
        match i, hi with
        | 0, hi => exact ⟨a, ws, (Option.some.inj hi).symm, Same.lst sH hx, rfl, rfl⟩
        | 1, hi => exact ⟨b, ws.reverse, (Option.some.inj hi).symm, sq_of bH, by rw [List.length_reverse], rfl⟩
        | i + 2, hi => simp at hi
      walk_at "go"
      refine ⟨ty_l fH, ?_⟩
      walk_at "go"
      refine r_lc ?_
      walk_at "go"
      refine r_len (n := (zs.length : Int)) (.inl hz) (by rw [List.length_map]) ?_
      walk_at "go"
      refine r_rng1' (n := zs.length) rfl (by omega) ?_
      intro D nD
      have fD : f ≠ D := ne_of_none fH nD
      refine lc_range (fun i Hc => ∃ acc, Same H' (rest Hc D) ∧ Hc D = some (.lst acc) ∧ RowsAt (fun r => r ≠ D ∧ r ≠ f ∧ H r = none) Hc acc ((List.range i).map (fm zs))) ⟨[], ?_, upd_same, .nil⟩ ?_ ?_
      · rw [rest_upd]
        exact same_rest (Same.refl _) nD
      · rintro i Hc hi ⟨acc, sc, eD, rc⟩
        refine ⟨rfl, ?_⟩
        have sc' : Same H' Hc := sc.trans (rest_cut Hc D).same
        have hz1 := Same.lst sc' hz
        have al : acc.length ≤ 1000 := by
          rw [rc.len, List.length_map, List.length_range]
          omega
        rw [Int.zero_add]
        walk_at "go"
        refine r_sll hz1 fun c1 H5 n5 s5 e5 => ?_
        walk_at "go"
        refine r_sll (Same.lst s5 hz1) fun c2 H6 n6 s6 e6 => ?_
        rw [cut_from zs i (by omega)] at e5
        rw [cut_to zs i (by omega)] at e6
        refine r_cat (s6 _ _ e5) e6 (small2 (by rw [List.length_map, List.length_map, List.length_drop, List.length_take]; omega)) fun c3 H7 n7 s7 e7 => ?_
        have s57 : Same Hc H7 := s5.trans (s6.trans s7)
        have s56 : Same Hc H6 := s5.trans s6
        have cD : c3 ≠ D := (ne_of_none (s56 _ _ eD) n7).symm
        refine ⟨acc, s57 _ _ eD, small1 (by omega), acc ++ [.ref c3], ?_, upd_same, ?_⟩
        · rw [rest_upd]
          exact sc.trans (rest_grow s57)
        · rw [formsL_snoc]
          refine RowsAt.app (rc.mono fun b o hb ho => ⟨hb, ?_⟩) (.cons ?_ ⟨cD, (ne_of_none (s56 _ _ (sc' _ _ fH)) n7).symm, (sH.trans (sc'.trans s56)).free n7⟩ .nil)
          · rw [upd_ne hb.1]
            exact s57 _ _ ho
          · rw [upd_ne cD, e7]
            unfold fm
            rw [← List.map_append]
      · rintro Hc ⟨acc, sc, eD, rc⟩
        have sc' : Same H' Hc := sc.trans (rest_cut Hc D).same
        walk_at "go"
        refine r_ext (sc' _ _ fH) eD (small2 ?_) fun H8 b8 e8 => ?_
        · have h1 := rH.len
          have h2 := rc.len
          have h3 : (formsUp ws i).length ≤ 2000 := by
            match i with
            | 0 => simp [formsUp]
            | 1 => show (formsL ws).length ≤ _; rw [formsL_len]; omega
            | i + 2 => show (formsL ws ++ formsL ws.reverse).length ≤ _; rw [List.length_append, formsL_len, formsL_len, List.length_reverse]; omega
          rw [List.length_map, List.length_range] at h2
          omega
        walk_at "go"
        refine ⟨_, _, xs ++ acc, rfl, But.same (sH.trans sc') nf b8, b8 _ _ tf (sc' _ _ tH), b8 _ _ bf (sc' _ _ bH), e8, ?_⟩
        rw [hup]
        refine RowsAt.app (rH.mono fun b o hb ho => ⟨hb, b8 _ _ hb.1 (sc' _ _ ho)⟩) (rc.mono fun b o hb ho => ⟨hb.2, b8 _ _ hb.2.1 ho⟩)
    rintro σ H' ⟨v2, v3, xs, rfl, sH, tH, bH, fH, rH⟩
    walk_at "go"
    refine r_min (sq_of fH) rH ?_ fun r m hr pr hm hl => ?_
    · intro e
      have h := (mem_forms (y := ws) hne).mpr (Form.refl ws)
      rw [show formsUp ws 2 = [] from e] at h
      cases h
    exact k r m H' pr.2 sH hr ⟨(mem_forms hne).mp hm, fun y hy => hl y ((mem_forms hne).mpr hy)⟩
theorem ok_first_form (T : Txt K mg) : FnOk P w K mg base CX0 3 (He.fAd K ("first_form", none)) T.fd_first_form ["roll"] (spFirstForm K) := by
  refine T.F_first_form.ok sc_first_form (fun vs H Q E h => ?_) (fun cdv A outer s H vs Q E hr h => ⟨_, PSs.nox ((pss_cons (ps_expr (pe_call (ok_check_roll T) (hr.mono (by decide)) rfl T.g_check_roll T.F_check_roll.kp (b_check_roll T) .nil pass0 (pa_cons (pv 0) pa_nil)))
      (pss_one (ps_ret (pe_call (ok_least_form T) (hr.mono (by decide)) rfl T.g_least_form T.F_least_form.kp (b_least_form T) .nil pass0 (pa_cons (pe_meth0 (pv 0) T.cl_Roll T.m_Roll_worths (ok_Roll_worths T) (hr.mono (by decide)) (b_Roll_worths T) .nil pass0) pa_nil)))))), ?_⟩)
  · obtain ⟨_, _, rfl, _⟩ := h
    rfl
  · try dsimp only [L2.cxOf, L2.Cx.nox, L2.Cx.wish]
    obtain ⟨p, ws, rfl, R, k⟩ := h
    walk_at "go"
    refine ⟨p, ws, rfl, R, ?_⟩
    walk_at "go"
    refine r_rollm R (by decide +kernel) (by decide +kernel) ?_
    refine ⟨p, ws, rfl, R, fun l H1 n1 s1 e1 => ?_⟩
    walk_at "go"
    exact ⟨l, ws, rfl, sq_of e1, R.row.ne, R.row.len, fun q m H2 n2 s2 e2 L => k q m H2 (s1.free n2) (s1.trans s2) e2 L⟩
end

/-! ## The plain law of laps: sums of stamps over a roll that repeats -/
theorem mod0 {x L : Nat} (h : x < L) : x % L = x := Nat.mod_eq_of_lt h
theorem mod1 {x L : Nat} (h1 : L ≤ x) (h2 : x < L + L) : x % L = x - L := by
  rw [Nat.mod_eq_sub_mod h1, Nat.mod_eq_of_lt (by omega)]
/-- the n-th stamp of the roll -/
def st (ws : List Int) (n : Nat) : Int := ws[n % ws.length]?.getD 0
/-- the sum of the first n of f -/
def up (f : Nat → Int) : Nat → Int
  | 0 => 0
  | n + 1 => up f n + f n
theorem up_add (f : Nat → Int) (n : Nat) : ∀ m, up f (n + m) = up f n + up (fun k => f (n + k)) m
  | 0 => by simp [up]
  | m + 1 => by
    show up f (n + m) + f (n + m) = up f n + (up (fun k => f (n + k)) m + f (n + m))
    rw [up_add f n m, Int.add_assoc]
theorem up_congr {f g : Nat → Int} : ∀ {n : Nat}, (∀ k, k < n → f k = g k) → up f n = up g n
  | 0, _ => rfl
  | n + 1, h => by
    show up f n + f n = up g n + g n
    rw [up_congr (n := n) (fun k hk => h k (by omega)), h n (by omega)]
theorem up_head (f : Nat → Int) : ∀ n, up f (n + 1) = f 0 + up (fun k => f (k + 1)) n
  | 0 => by simp [up]
  | n + 1 => by
    show up f (n + 1) + f (n + 1) = f 0 + (up (fun k => f (k + 1)) n + f (n + 1))
    rw [up_head f n, Int.add_assoc]
theorem up_rev {f g : Nat → Int} : ∀ {n : Nat}, (∀ k, k < n → f k = g (n - 1 - k)) → up f n = up g n
  | 0, _ => rfl
  | n + 1, h => by
    rw [up_head f n]
    show f 0 + up (fun k => f (k + 1)) n = up g n + g n
    rw [up_rev (f := fun k => f (k + 1)) (g := g) (n := n) (fun k hk => by
      show f (k + 1) = _
      rw [h (k + 1) (by omega)]
      congr 1
      omega), h 0 (by omega), Int.add_comm]
    congr 2
theorem upto_zero (ws : List Int) : upto ws 0 = 0 := by
  unfold upto pre
  simp
theorem sum_take_all {ws : List Int} {i : Nat} (h : i + 1 = ws.length) {z : Int} (hz : ws[i]? = some z) : pre ws i + z = ws.sum := by
  have := pre_next hz
  rw [← this]
  unfold pre
  rw [h, List.take_length]
theorem upto_succ {ws : List Int} (n0 : 0 < ws.length) (n : Nat) : upto ws (n + 1) = upto ws n + st ws n := by
  have lt := Nat.mod_lt n n0
  obtain ⟨z, hz⟩ : ∃ z, ws[n % ws.length]? = some z := ⟨_, List.getElem?_eq_getElem lt⟩
  have es : st ws n = z := by
    unfold st
    rw [hz]
    rfl
  rw [es]
  have dm := Nat.div_add_mod n ws.length
  unfold upto
  by_cases h : n % ws.length + 1 < ws.length
  · have e1 : (n + 1) / ws.length = n / ws.length := by
      rw [Nat.div_eq_of_lt_le]
      · rw [Nat.mul_comm]
        omega
      · rw [Nat.succ_mul, Nat.mul_comm]
        omega
    have e2 : (n + 1) % ws.length = n % ws.length + 1 := by
      have := Nat.div_add_mod (n + 1) ws.length
      rw [e1] at this
      omega
    rw [e1, e2, pre_next hz, Int.add_assoc]
  · have e : n % ws.length + 1 = ws.length := by omega
    have e1 : (n + 1) / ws.length = n / ws.length + 1 := by
      rw [Nat.div_eq_of_lt_le]
      · rw [Nat.succ_mul, Nat.mul_comm]
        omega
      · rw [Nat.succ_mul, Nat.succ_mul, Nat.mul_comm]
        omega
    have e2 : (n + 1) % ws.length = 0 := by
      have := Nat.div_add_mod (n + 1) ws.length
      rw [e1, Nat.mul_add] at this
      omega
    rw [e1, e2, ← sum_take_all e hz]
    unfold pre
    rw [List.take_zero, List.sum_nil, Int.natCast_add, Int.add_mul]
    simp only [Int.natCast_one, Int.one_mul, Int.add_zero]
    omega
theorem upto_up {ws : List Int} (n0 : 0 < ws.length) : ∀ n, upto ws n = up (st ws) n
  | 0 => upto_zero ws
  | n + 1 => by rw [upto_succ n0, upto_up n0 n]; rfl
/-- the sum of m stamps from the n-th -/
def win (ws : List Int) (n m : Nat) : Int := upto ws (n + m) - upto ws n
theorem win_up {ws : List Int} (n0 : 0 < ws.length) (n m : Nat) : win ws n m = up (fun k => st ws (n + k)) m := by
  unfold win
  rw [upto_up n0, upto_up n0, up_add]
  omega
theorem win_add (ws : List Int) (n m k : Nat) : win ws n m + win ws (n + m) k = win ws n (m + k) := by
  unfold win
  rw [Nat.add_assoc]
  omega
theorem win_lap {ws : List Int} (n0 : 0 < ws.length) (n m : Nat) : win ws n (m + ws.length) = win ws n m + ws.sum := by
  have e : upto ws (n + (m + ws.length)) = upto ws (n + m) + ws.sum := by
    rw [← Nat.add_assoc]
    unfold upto
    rw [Nat.add_mod_right, Nat.add_div_right _ n0]
    show (((n + m) / ws.length + 1 : Nat) : Int) * ws.sum + _ = _
    rw [Int.natCast_add, Int.add_mul, Int.natCast_one, Int.one_mul]
    omega
  unfold win
  rw [e]
  omega
theorem torn_at {ws : List Int} (n : Nat) {i : Nat} (h : i < ws.length) : (tornL ws n)[i]? = ws[(n + i) % ws.length]? := by
  have n0 : 0 < ws.length := by omega
  have c := Nat.mod_lt n n0
  have e : (n + i) % ws.length = (n % ws.length + i) % ws.length := by rw [Nat.mod_add_mod]
  rw [e]
  unfold tornL
  generalize n % ws.length = q at c
  by_cases hi : i < ws.length - q
  · rw [List.getElem?_append_left (by rw [List.length_drop]; exact hi), List.getElem?_drop, mod0 (x := q + i) (by omega)]
  · rw [List.getElem?_append_right (by rw [List.length_drop]; omega), List.length_drop, List.getElem?_take_of_lt (by omega), mod1 (x := q + i) (by omega) (by omega)]
    congr 1
    omega
theorem st_torn {ws : List Int} (n0 : 0 < ws.length) (n k : Nat) : st (tornL ws n) k = st ws (n + k) := by
  unfold st
  rw [tornL_len, torn_at n (Nat.mod_lt _ n0), Nat.add_mod_mod]
theorem win_torn {ws : List Int} (n0 : 0 < ws.length) (s n m : Nat) : win (tornL ws s) n m = win ws (s + n) m := by
  rw [win_up (by rw [tornL_len]; exact n0), win_up n0]
  refine up_congr fun k _ => ?_
  show st (tornL ws s) (n + k) = st ws (s + n + k)
  rw [st_torn n0, Nat.add_assoc]
theorem torn_torn {ws : List Int} (s t : Nat) : tornL (tornL ws s) t = tornL ws (s + t) := by
  apply List.ext_getElem?
  intro i
  by_cases h : i < ws.length
  · have n0 : 0 < ws.length := by omega
    rw [torn_at t (by rw [tornL_len]; exact h), tornL_len, torn_at s (Nat.mod_lt _ n0), torn_at _ h, Nat.add_mod_mod, Nat.add_assoc]
  · rw [List.getElem?_eq_none (by rw [tornL_len, tornL_len]; omega), List.getElem?_eq_none (by rw [tornL_len]; omega)]
theorem torn_rev {ws : List Int} (s : Nat) : (tornL ws s).reverse = tornL ws.reverse (ws.length - s % ws.length) := by
  apply List.ext_getElem?
  intro i
  by_cases h : i < ws.length
  · have n0 : 0 < ws.length := by omega
    have c := Nat.mod_lt s n0
    rw [List.getElem?_reverse (by rw [tornL_len]; exact h), tornL_len, torn_at _ (by omega), torn_at _ (by rw [List.length_reverse]; exact h), List.length_reverse, List.getElem?_reverse (Nat.mod_lt _ n0)]
    have e : (s + (ws.length - 1 - i)) % ws.length = (s % ws.length + (ws.length - 1 - i)) % ws.length := by rw [Nat.mod_add_mod]
    rw [e]
    congr 1
    generalize s % ws.length = q at c
    by_cases hi : i < q
    · rw [mod1 (x := q + (ws.length - 1 - i)) (by omega) (by omega), mod0 (x := ws.length - q + i) (by omega)]
      omega
    · rw [mod0 (x := q + (ws.length - 1 - i)) (by omega), mod1 (x := ws.length - q + i) (by omega) (by omega)]
      omega
  · rw [List.getElem?_eq_none (by rw [List.length_reverse, tornL_len]; omega), List.getElem?_eq_none (by rw [tornL_len, List.length_reverse]; omega)]
theorem st_rev {ws : List Int} (n0 : 0 < ws.length) (k : Nat) : st ws.reverse k = st ws (ws.length - 1 - k % ws.length) := by
  have c := Nat.mod_lt k n0
  unfold st
  rw [List.length_reverse, List.getElem?_reverse c, mod0 (x := ws.length - 1 - k % ws.length) (by omega)]
theorem win_back {ws : List Int} (n0 : 0 < ws.length) {low t : Nat} (hl : low < ws.length) (ht : t < 50) : win ws.reverse (ws.length - low) t = win ws ((low + 50 * ws.length - t) % ws.length) t := by
  rw [win_up (by rw [List.length_reverse]; exact n0), win_up n0]
  refine up_rev fun k hk => ?_
  show st ws.reverse (ws.length - low + k) = st ws ((low + 50 * ws.length - t) % ws.length + (t - 1 - k))
  rw [st_rev n0]
  have hb : 50 ≤ 50 * ws.length := by omega
  have e1 : st ws ((low + 50 * ws.length - t) % ws.length + (t - 1 - k)) = st ws (low + 50 * ws.length - 1 - k) := by
    unfold st
    rw [Nat.mod_add_mod]
    congr 3
    omega
  rw [e1]
  have c := Nat.mod_lt (ws.length - low + k) n0
  have dm := Nat.div_add_mod (ws.length - low + k) ws.length
  -- the quotient q: L q + r = L - low + k
  have hq : (ws.length - low + k) / ws.length ≤ 51 := by
    rw [Nat.div_le_iff_le_mul_add_pred n0]
    omega
  unfold st
  congr 2
  have key : low + 50 * ws.length - 1 - k = (ws.length - 1 - (ws.length - low + k) % ws.length) + (50 - (ws.length - low + k) / ws.length) * ws.length ∨ (ws.length - low + k) / ws.length = 51 := by
    by_cases h51 : (ws.length - low + k) / ws.length = 51
    · exact .inr h51
    · left
      have h50 : (ws.length - low + k) / ws.length ≤ 50 := by omega
      generalize (ws.length - low + k) / ws.length = q at dm h50
      generalize (ws.length - low + k) % ws.length = r at dm c ⊢
      rw [Nat.sub_mul]
      have : ws.length * q = q * ws.length := Nat.mul_comm _ _
      have : q * ws.length ≤ 50 * ws.length := Nat.mul_le_mul_right _ h50
      omega
  rcases key with e | e
  · rw [e, Nat.add_mul_mod_self_right]
  · rw [e] at dm
    omega

/-! ## Steps that the laws share -/
-- a roll's total(n, m); R its RollAt
-- torn(n): the new roll at q, its heap Hn, its facts R2
section
variable {K : PySem.W.Frag} {H : Hp} {Q : VK}
theorem pick2 {a b z : Int} {P : Int → Prop} (h0 : 0 ≤ z) (h : z < 2) (pa : P a) (pb : P b) : ∃ g, atI [V.int a, V.int b] z = some (V.int g) ∧ P g := by
  have : z = 0 ∨ z = 1 := by omega
  rcases this with rfl | rfl
  · exact ⟨a, rfl, pa⟩
  · exact ⟨b, rfl, pb⟩
theorem pick3 {a b c z : Int} {P : Int → Prop} (h0 : 0 ≤ z) (h : z < 3) (pa : P a) (pb : P b) (pc : P c) : ∃ g, atI [V.int a, V.int b, V.int c] z = some (V.int g) ∧ P g := by
  have : z = 0 ∨ z = 1 ∨ z = 2 := by omega
  rcases this with rfl | rfl | rfl
  · exact ⟨a, rfl, pa⟩
  · exact ⟨b, rfl, pb⟩
  · exact ⟨c, rfl, pc⟩
theorem But.tupL {p a : Addr} {H H' : Hp} {l xs : List V} (b : But p H H') (hp : H p = some (.lst l)) (h : SqT K H a xs) : SqT K H' a xs := by
  rcases h with (h | ⟨ob, h⟩) | h
  · exact .inl (.inl (b _ _ (ne_of h hp fun e => by cases e) h))
  · exact .inl (.inr ⟨ob, b _ _ (ne_of h hp fun e => by cases e) h⟩)
  · exact .inr h
theorem RollAt.but {p q : Addr} {H H' : Hp} {ws : List Int} {m : Nat} (R : RollAt K H q ws) (hp : Pu H p m) (b : But p H H') : RollAt K H' q ws := by
  obtain ⟨A, B, C, e, _⟩ := hp
  obtain ⟨r, dx, x, y, h1, h2, h3⟩ := R
  exact ⟨r, dx, x, y, b _ _ (ne_of h1 e fun e => by cases e) h1, b.tupL e h2, b.tupL e h3⟩
/-- a drawing -/
theorem r_draw {p : Addr} {m : Nat} {n : Int} {E : XK} (hp : Pu H p m) (hm : m ≤ 1000000000) (hn : 1 ≤ n ∧ n < 2 ^ 110) (k : ∀ (z : Nat) H', But p H H' → Pu H' p (m + 5) → (z : Int) < n → Q (.int z) H') : spDraw K [.ref p, .int n] H Q E :=
  ⟨p, m, n, rfl, hp, hm, hn, fun z H' b hp' z0 z1 => by
    obtain ⟨j, rfl⟩ := Int.eq_ofNat_of_zero_le z0
    exact k j H' b hp' z1⟩
theorem ne_f {x y : Int} (h : x = y) : (!decide (V.int x = V.int y)) = false := by
  rw [h, decide_eq_true rfl]
  rfl
theorem nl_f {x y : List Int} (h : x = y) : (!decide (x = y)) = false := by
  rw [h, decide_eq_true rfl]
  rfl
end
-- a drawing: of n, what stands for z; the purse's facts hp

-- [a, 10 ** 29][draw of 2], drawn of

section
variable {P : Program} {w : World} {K : PySem.W.Frag} {mg : Str → Option Value} {base : Heap} {H : Hp} {Q : VK}
def spLaw (K : PySem.W.Frag) : Sp := fun vs H Q _ => ∃ (a : Addr) (ns : List Int), vs = [.ref a] ∧ SqL K H a (iv ns) ∧ ns.length ≤ 63 ∧ ∀ H', Q (.bl true) H'
theorem ok_law (T : Txt K mg) : FnOk P w K mg base CX0 5 (He.fAd K ("law", none)) T.fd_law ["_law_script"] (spLaw K) := by
  refine T.F_law.ok sc_law (fun vs H Q E h => ?_) (fun cdv A outer s H vs Q E hr h => ⟨_, PSs.nox ((pss_cons (ps_for PassesOwn.never rfl (pi_range1 rfl T.fr_range (pa_cons pe_int pa_nil)) (pg_name (i := 1) sc_law.nd rfl (by first | exact .inl rfl | exact .inr rfl))
      (pss_cons (ps_set (i := 2) sc_law.nd rfl (by first | exact .inl rfl | exact .inr rfl) (pe_call (ok_l_purse T) (hr.mono (by decide)) rfl T.g_l_purse T.F_l_purse.kp (b_l_purse T) .nil pass0 (pa_cons (pv 0) (pa_cons (pv 1) pa_nil))))
      (pss_cons (ps_set (i := 3) sc_law.nd rfl (by first | exact .inl rfl | exact .inr rfl) (pe_call (ok_l_worths_drawn T) (hr.mono (by decide)) rfl T.g_l_worths_drawn T.F_l_worths_drawn.kp (b_l_worths_drawn T) .nil pass0 (pa_cons (pv 2) (pa_cons pe_int (pa_cons (pe_ix ix_list (pe_lst (pa_cons pe_int (pa_cons (pe_op op_pow pe_int pe_int) (pa_cons (pe_op op_pow pe_int pe_int) pa_nil)))) (pe_call (ok_l_draw T) (hr.mono (by decide)) rfl T.g_l_draw T.F_l_draw.kp (b_l_draw T) .nil pass0 (pa_cons (pv 2) (pa_cons pe_int pa_nil))) (fun _ _ => rfl)) pa_nil)))))
      (pss_cons (ps_par (i := 4) (j := 5) rfl sc_law.nd rfl rfl (by decide) rfl rfl (pa_cons (pe_make T.mk_Roll (ok_Roll_init T) (hr.mono (by decide)) rfl T.g_Roll (b_Roll_init T) .nil pass0 (pa_cons (pv 3) pa_nil)) (pa_cons (pe_callB RC.call_lenS rfl T.fr_len (by decide +kernel) (pa_cons (pv 3) pa_nil)) pa_nil)) rfl)
      (pss_cons (ps_for PassesOwn.never rfl (pi_range1 rfl T.fr_range (pa_cons pe_int pa_nil)) (pg_name (i := 6) sc_law.nd rfl (by first | exact .inl rfl | exact .inr rfl))
      (pss_cons (ps_par (i := 7) (j := 8) rfl sc_law.nd rfl rfl (by decide) rfl rfl (pa_cons (pe_call (ok_l_draw T) (hr.mono (by decide)) rfl T.g_l_draw T.F_l_draw.kp (b_l_draw T) .nil pass0 (pa_cons (pv 2) (pa_cons (pe_ix ix_list (pe_lst (pa_cons pe_int (pa_cons (pe_op op_pow pe_int pe_int) pa_nil))) (pe_call (ok_l_draw T) (hr.mono (by decide)) rfl T.g_l_draw T.F_l_draw.kp (b_l_draw T) .nil pass0 (pa_cons (pv 2) (pa_cons pe_int pa_nil))) (fun _ _ => rfl)) pa_nil))) (pa_cons (pe_call (ok_l_draw T) (hr.mono (by decide)) rfl T.g_l_draw T.F_l_draw.kp (b_l_draw T) .nil pass0 (pa_cons (pv 2) (pa_cons (pe_op op_pow pe_int pe_int) pa_nil))) pa_nil)) rfl)
      (pss_cons (ps_par (i := 9) (j := 10) rfl sc_law.nd rfl rfl (by decide) rfl rfl (pa_cons (pe_call (ok_l_draw T) (hr.mono (by decide)) rfl T.g_l_draw T.F_l_draw.kp (b_l_draw T) .nil pass0 (pa_cons (pv 2) (pa_cons pe_int pa_nil))) (pa_cons (pe_call (ok_l_draw T) (hr.mono (by decide)) rfl T.g_l_draw T.F_l_draw.kp (b_l_draw T) .nil pass0 (pa_cons (pv 2) (pa_cons (pe_ix ix_list (pe_lst (pa_cons pe_int (pa_cons (pe_op op_pow pe_int pe_int) pa_nil))) (pe_call (ok_l_draw T) (hr.mono (by decide)) rfl T.g_l_draw T.F_l_draw.kp (b_l_draw T) .nil pass0 (pa_cons (pv 2) (pa_cons pe_int pa_nil))) (fun _ _ => rfl)) pa_nil))) pa_nil)) rfl)
      (pss_cons (ps_set (i := 11) sc_law.nd rfl (by first | exact .inl rfl | exact .inr rfl) (pe_op op_add (pe_meth (pv 4) T.cl_Roll T.m_Roll_total (ok_Roll_total T) (hr.mono (by decide)) (b_Roll_total T) .nil pass0 (pa_cons (pv 7) (pa_cons (pv 8) pa_nil))) (pe_meth (pv 4) T.cl_Roll T.m_Roll_total (ok_Roll_total T) (hr.mono (by decide)) (b_Roll_total T) .nil pass0 (pa_cons (pe_op op_add (pv 7) (pv 8)) (pa_cons (pv 9) pa_nil)))))
      (pss_cons (ps_if (pt_cmpR op_ne (pe_meth (pv 4) T.cl_Roll T.m_Roll_total (ok_Roll_total T) (hr.mono (by decide)) (b_Roll_total T) .nil pass0 (pa_cons (pv 7) (pa_cons (pe_op op_add (pv 8) (pv 9)) pa_nil))) (pv 11) (nomark _)) (pss_one (ps_ret pe_bl)) pss_nil)
      (pss_cons (ps_if (pt_cmpR op_ne (pe_meth (pv 4) T.cl_Roll T.m_Roll_total (ok_Roll_total T) (hr.mono (by decide)) (b_Roll_total T) .nil pass0 (pa_cons (pv 7) (pa_cons (pe_op op_add (pv 8) (pv 5)) pa_nil))) (pe_op op_add (pe_meth (pv 4) T.cl_Roll T.m_Roll_total (ok_Roll_total T) (hr.mono (by decide)) (b_Roll_total T) .nil pass0 (pa_cons (pv 7) (pa_cons (pv 8) pa_nil))) (pe_meth0 (pv 4) T.cl_Roll T.m_Roll_lap (ok_Roll_lap T) (hr.mono (by decide)) (b_Roll_lap T) .nil pass0)) (nomark _)) (pss_one (ps_ret pe_bl)) pss_nil)
      (pss_cons (ps_set (i := 12) sc_law.nd rfl (by first | exact .inl rfl | exact .inr rfl) (pe_meth (pv 4) T.cl_Roll T.m_Roll_torn (ok_Roll_torn T) (hr.mono (by decide)) (b_Roll_torn T) .nil pass0 (pa_cons (pv 7) pa_nil)))
      (pss_cons (ps_if (PW.pt (pw_or (pt_cmpR op_ne (pe_meth (pv 12) T.cl_Roll T.m_Roll_total (ok_Roll_total T) (hr.mono (by decide)) (b_Roll_total T) .nil pass0 (pa_cons (pv 10) (pa_cons (pv 9) pa_nil))) (pe_meth (pv 4) T.cl_Roll T.m_Roll_total (ok_Roll_total T) (hr.mono (by decide)) (b_Roll_total T) .nil pass0 (pa_cons (pe_op op_add (pv 7) (pv 10)) (pa_cons (pv 9) pa_nil))) (nomark _)) (pw_or1 (pt_cmpR op_ne (pe_meth0 (pv 12) T.cl_Roll T.m_Roll_lap (ok_Roll_lap T) (hr.mono (by decide)) (b_Roll_lap T) .nil pass0) (pe_meth0 (pv 4) T.cl_Roll T.m_Roll_lap (ok_Roll_lap T) (hr.mono (by decide)) (b_Roll_lap T) .nil pass0) (nomark _))))) (pss_one (ps_ret pe_bl)) pss_nil)
      (pss_cons (ps_set (i := 13) sc_law.nd rfl (by first | exact .inl rfl | exact .inr rfl) (pe_meth (pe_meth0 (pv 4) T.cl_Roll T.m_Roll_mirrored (ok_Roll_mirrored T) (hr.mono (by decide)) (b_Roll_mirrored T) .nil pass0) T.cl_Roll T.m_Roll_torn (ok_Roll_torn T) (hr.mono (by decide)) (b_Roll_torn T) .nil pass0 (pa_cons (pe_op op_sub (pv 5) (pe_op op_mod (pe_callTy RC.call_intS rfl T.fr_int (by decide +kernel) (pa_cons (pv 7) pa_nil)) (pv 5))) pa_nil)))
      (pss_cons (ps_if (PW.pt (pw_or (pt_cmpR (RC.op_neR T (hr.mono (by decide))) (pe_meth (pv 12) T.cl_Roll T.m_Roll_torn (ok_Roll_torn T) (hr.mono (by decide)) (b_Roll_torn T) .nil pass0 (pa_cons (pv 10) pa_nil)) (pe_meth (pv 4) T.cl_Roll T.m_Roll_torn (ok_Roll_torn T) (hr.mono (by decide)) (b_Roll_torn T) .nil pass0 (pa_cons (pe_op op_add (pv 7) (pv 10)) pa_nil)) (nomark _)) (pw_or1 (pt_cmpR (RC.op_neR T (hr.mono (by decide))) (pe_meth0 (pv 12) T.cl_Roll T.m_Roll_mirrored (ok_Roll_mirrored T) (hr.mono (by decide)) (b_Roll_mirrored T) .nil pass0) (pv 13) (nomark _))))) (pss_one (ps_ret pe_bl)) pss_nil)
      (pss_cons (ps_set (i := 14) sc_law.nd rfl (by first | exact .inl rfl | exact .inr rfl) (pe_op op_mod (pe_callTy RC.call_intS rfl T.fr_int (by decide +kernel) (pa_cons (pv 7) pa_nil)) (pv 5)))
      (pss_cons (ps_set (i := 15) sc_law.nd rfl (by first | exact .inl rfl | exact .inr rfl) (pe_meth (pe_meth0 (pv 4) T.cl_Roll T.m_Roll_mirrored (ok_Roll_mirrored T) (hr.mono (by decide)) (b_Roll_mirrored T) .nil pass0) T.cl_Roll T.m_Roll_total (ok_Roll_total T) (hr.mono (by decide)) (b_Roll_total T) .nil pass0 (pa_cons (pe_op op_sub (pv 5) (pv 14)) (pa_cons (pv 9) pa_nil))))
      (pss_cons (ps_if (pt_cmpR op_ne (pv 15) (pe_meth (pv 4) T.cl_Roll T.m_Roll_total (ok_Roll_total T) (hr.mono (by decide)) (b_Roll_total T) .nil pass0 (pa_cons (pe_op op_mod (pe_callTy RC.call_intS rfl T.fr_int (by decide +kernel) (pa_cons (pe_op op_sub (pe_op op_add (pv 14) (pe_op op_mul pe_int (pv 5))) (pv 9)) pa_nil)) (pv 5)) (pa_cons (pv 9) pa_nil))) (nomark _)) (pss_one (ps_ret pe_bl)) pss_nil)
      (pss_one (ps_if (PW.pt (pw_or (pt_cmpR (op_neD hr.units) (pe_call (ok_first_form T) (hr.mono (by decide)) rfl T.g_first_form T.F_first_form.kp (b_first_form T) .nil pass0 (pa_cons (pv 12) pa_nil)) (pe_call (ok_first_form T) (hr.mono (by decide)) rfl T.g_first_form T.F_first_form.kp (b_first_form T) .nil pass0 (pa_cons (pv 4) pa_nil)) (nomark _)) (pw_or1 (pt_cmpR (op_neD hr.units) (pe_call (ok_first_form T) (hr.mono (by decide)) rfl T.g_first_form T.F_first_form.kp (b_first_form T) .nil pass0 (pa_cons (pe_meth0 (pv 12) T.cl_Roll T.m_Roll_mirrored (ok_Roll_mirrored T) (hr.mono (by decide)) (b_Roll_mirrored T) .nil pass0) pa_nil)) (pe_call (ok_first_form T) (hr.mono (by decide)) rfl T.g_first_form T.F_first_form.kp (b_first_form T) .nil pass0 (pa_cons (pv 4) pa_nil)) (nomark _))))) (pss_one (ps_ret pe_bl)) pss_nil)))))))))))))))
      (pss_one (ps_if (PW.pt (pw_or (pt_cmpR op_ne (pe_meth0 (pe_make T.mk_Roll (ok_Roll_init T) (hr.mono (by decide)) rfl T.g_Roll (b_Roll_init T) .nil pass0 (pa_cons (pe_call (ok_first_form T) (hr.mono (by decide)) rfl T.g_first_form T.F_first_form.kp (b_first_form T) .nil pass0 (pa_cons (pv 4) pa_nil)) pa_nil)) T.cl_Roll T.m_Roll_lap (ok_Roll_lap T) (hr.mono (by decide)) (b_Roll_lap T) .nil pass0) (pe_meth0 (pv 4) T.cl_Roll T.m_Roll_lap (ok_Roll_lap T) (hr.mono (by decide)) (b_Roll_lap T) .nil pass0) (nomark _)) (pw_or1 (pt_cmpR (op_neD hr.units) (pe_meth0 (pv 4) T.cl_Roll T.m_Roll_worths (ok_Roll_worths T) (hr.mono (by decide)) (b_Roll_worths T) .nil pass0) (pv 3) (nomark _))))) (pss_one (ps_ret pe_bl)) pss_nil)))))))
      (pss_one (ps_ret pe_bl)))), ?_⟩)
  · obtain ⟨_, _, rfl, _⟩ := h
    rfl
  · try dsimp only [L2.cxOf, L2.Cx.nox, L2.Cx.wish]
    obtain ⟨a, ns, rfl, hx, hns, k⟩ := h
    walk_at "go"
    refine r_rng1' (n := 4) rfl (by decide) (for_range (fun i σ H' => ∃ v1 v2 v3 v4 v5 v6 v7 v8 v9 v10 v11 v12 v13 v14 v15, σ = [some (.ref a), v1, v2, v3, v4, v5, v6, v7, v8, v9, v10, v11, v12, v13, v14, v15] ∧ Same H H') ⟨_, _, _, _, _, _, _, _, _, _, _, _, _, _, _, rfl, Same.refl _⟩ ?_ ?_)
    · rintro i σ H0 hi ⟨v1, v2, v3, v4, v5, v6, v7, v8, v9, v10, v11, v12, v13, v14, v15, rfl, sH⟩
      rw [Int.zero_add]
      walk_at "go"
      refine ⟨a, ns, i, rfl, Same.lst sH hx, by omega, fun p H1 np s1 hp => ?_⟩
      walk_at "go"
      refine r_I ⟨by decide, by decide, by decide⟩ ?_
      walk_at "go"
      refine r_I ⟨by decide, by decide, by decide⟩ ?_
      walk_at "go"
      refine r_mk (by show 3 ≤ sizeLine; decide) fun _ H2 n2 s2 e2 => ?_
      walk_at "go"
      refine r_draw (hp.same s2) (by omega) (by decide) fun z _ s3 hp3 zl => ?_
      walk_at "go"
      obtain ⟨g, eg, hg⟩ := pick3 (a := 5) (b := 10 ^ (6 : Int).toNat) (c := 10 ^ (25 : Int).toNat) (P := fun g => 1 ≤ g ∧ g < 2 ^ 110) (Int.natCast_nonneg z) zl (by decide) (by decide) (by decide)
      refine r_ixl (sq_of (s3 _ _ (hp.ne n2).symm e2)) eg ?_
      walk_at "go"
      refine ⟨p, _, 10, g, rfl, hp3, by decide, by decide, hg, fun l ws H4 n4 b4 hp4 el l1 l2 hw => ?_⟩
      have rw0 : Row ws := ⟨fun e => (by rw [e] at l1; simp at l1), fun z hz => (hw z hz).1, fun z hz => (by have := (hw z hz).2; omega), by omega⟩
      have n0 := rw0.n0
      have l9 := rw0.len
      walk_at "go"
      refine r_makeV fun rr dx H5 n5 s5 e5 => ?_
      refine ⟨rr, l, dx, ws, rfl, e5, sq_of (s5 _ _ el), rw0, fun H6 b6 R6 => ⟨rfl, ?_⟩⟩
      have s46 : Same H4 H6 := But.same s5 n5 b6
      walk_at "go"
      refine r_len (n := (ws.length : Int)) (.inl (sq_of (s46 _ _ el))) (by rw [List.length_map]) ?_
      walk_at "go"
      have lp : l ≠ p := (hp3.ne n4).symm
      have sH6 : Same H H6 := (But.same (sH.trans (s1.trans s2)) (sH.free np) (s3.trans b4)).trans s46
      have pn : H p = none := sH.free np
      refine r_rng1' (n := 6) rfl (by decide) (for_range (fun i σ H' => ∃ v1 v6 v7 v8 v9 v10 v11 v12 v13 v14 v15, σ = [some (.ref a), v1, some (.ref p), some (.ref l), some (.ref rr), some (.int ws.length), v6, v7, v8, v9, v10, v11, v12, v13, v14, v15] ∧ Same H H' ∧ Pu H' p (1000000 + 5 + 1000 + 30 * i) ∧ RollAt K H' rr ws ∧ H' l = some (.lst (iv ws))) ⟨_, _, _, _, _, _, _, _, _, _, _, rfl, sH6, hp4.same s46, R6, s46 _ _ el⟩ ?_ ?_)
      · rintro j σ Hc hj ⟨v1, v6, v7, v8, v9, v10, v11, v12, v13, v14, v15, rfl, sc, hc, R, lc⟩
        walk_at "go"
        refine r_I ⟨by decide, by decide, by decide⟩ ?_
        walk_at "go"
        refine r_mk (by show 2 ≤ sizeLine; decide) fun _ _ nA sA eA => ?_
        walk_at "go"
        refine r_draw (hc.same sA) (by omega) (by decide) fun yA _ tA hqA ylA => ?_
        walk_at "go"
        obtain ⟨gA, egA, hgA⟩ := pick2 (a := 9) (b := 10 ^ (29 : Int).toNat) (P := fun g => 1 ≤ g ∧ g < 2 ^ 110) (Int.natCast_nonneg yA) ylA (by decide) (by decide)
        refine r_ixl (sq_of (tA _ _ ((hc.ne nA).symm) eA)) egA ?_
        walk_at "go"
        refine r_draw hqA (by omega) (by omega) fun s _ uA hA zA => ?_
        walk_at "go"
        refine r_I ⟨by decide, by decide, by decide⟩ ?_
        walk_at "go"
        refine r_draw hA (by omega) (by decide) fun o _ tB hB zB => ?_
        walk_at "go"
        have zB2 : (o : Int) < 2 ^ 110 := Int.lt_trans zB (by decide)
        refine r_draw hB (by omega) (by decide) fun t _ tC hC zC => ?_
        walk_at "go"
        refine r_I ⟨by decide, by decide, by decide⟩ ?_
        walk_at "go"
        refine r_mk (by show 2 ≤ sizeLine; decide) fun _ _ nD sD eD => ?_
        walk_at "go"
        refine r_draw (hC.same sD) (by omega) (by decide) fun yD _ tD hqD ylD => ?_
        walk_at "go"
        obtain ⟨gD, egD, hgD⟩ := pick2 (a := 9) (b := 10 ^ (29 : Int).toNat) (P := fun g => 1 ≤ g ∧ g < 2 ^ 110) (Int.natCast_nonneg yD) ylD (by decide) (by decide)
        refine r_ixl (sq_of (tD _ _ ((hC.ne nD).symm) eD)) egD ?_
        walk_at "go"
        refine r_draw hqD (by omega) (by omega) fun u _ uD hD zD => ?_
        walk_at "go"
        have bA := ((But.of sA (p := p)).trans tA).trans uA
        have bD := ((But.of sD (p := p)).trans tD).trans uD
        have R4 := (((R.but hc bA).but hA tB).but hB tC).but hC bD
        have bb := ((bA.trans tB).trans tC).trans bD
        have sc4 := But.same sc pn bb
        have lc4 := bb _ _ lp lc
        refine r_rollm R4 (by decide +kernel) (by decide +kernel) ?_
        walk_at "go"
        refine ⟨_, _, s, o, rfl, R4, by omega, ?_⟩
        walk_at "go"
        refine r_rollm R4 (by decide +kernel) (by decide +kernel) ?_
        walk_at "go"
        refine ⟨_, _, (s + o), t, rfl, R4, by omega, ?_⟩
        walk_at "go"
        refine r_rollm R4 (by decide +kernel) (by decide +kernel) ?_
        walk_at "go"
        refine ⟨_, _, s, (o + t), rfl, R4, by omega, ?_⟩
        walk_at "go"
        refine if_f (ne_f (win_add ws s o t).symm) ?_
        walk_at "go"
        refine r_rollm R4 (by decide +kernel) (by decide +kernel) ?_
        walk_at "go"
        refine ⟨_, _, s, (o + ws.length), rfl, R4, by omega, ?_⟩
        walk_at "go"
        refine r_rollm R4 (by decide +kernel) (by decide +kernel) ?_
        walk_at "go"
        refine ⟨_, _, s, o, rfl, R4, by omega, ?_⟩
        walk_at "go"
        refine r_rollm R4 (by decide +kernel) (by decide +kernel) ?_
        refine ⟨_, _, rfl, R4, ?_⟩
        walk_at "go"
        refine if_f (ne_f (win_lap n0 s o)) ?_
        walk_at "go"
        refine r_rollm R4 (by decide +kernel) (by decide +kernel) ?_
        walk_at "go"
        refine ⟨_, _, s, rfl, R4, fun q _ _ s5 Rq => ?_⟩
        walk_at "go"
        have R5 := Same.roll s5 R4
        refine r_rollm Rq (by decide +kernel) (by decide +kernel) ?_
        walk_at "go"
        refine ⟨_, _, u, t, rfl, Rq, by omega, ?_⟩
        walk_at "go"
        refine r_rollm R5 (by decide +kernel) (by decide +kernel) ?_
        walk_at "go"
        refine ⟨_, _, (s + u), t, rfl, R5, by omega, ?_⟩
        walk_at "go"
        refine if_f (ne_f (win_torn n0 s u t)) ?_
        walk_at "go"
        refine r_rollm Rq (by decide +kernel) (by decide +kernel) ?_
        refine ⟨_, _, rfl, Rq, ?_⟩
        walk_at "go"
        refine r_rollm R5 (by decide +kernel) (by decide +kernel) ?_
        refine ⟨_, _, rfl, R5, ?_⟩
        walk_at "go"
        refine if_f (ne_f (Turned.torn ws s).sum) ?_
        walk_at "go"
        refine r_rollm R5 (by decide +kernel) (by decide +kernel) ?_
        refine ⟨_, _, rfl, R5, fun r _ _ s6 Rr => ?_⟩
        walk_at "go"
        refine r_rollm Rr (by decide +kernel) (by decide +kernel) ?_
        walk_at "go"
        refine r_I (by omega) ?_
        walk_at "go"
        have sm : ((s % ws.length : Nat) : Int) = (s : Int) % (ws.length : Int) := rfl
        have sl := Nat.mod_lt s n0
        have e1 : (ws.length : Int) - (s : Int) % (ws.length : Int) = ((ws.length - s % ws.length : Nat) : Int) := by omega
        rw [e1]
        refine ⟨_, _, ws.length - s % ws.length, rfl, Rr, fun v H7 _ s7 Rv => ?_⟩
        walk_at "go"
        have Rq7 := Same.roll (s6.trans s7) Rq
        have R7 := Same.roll (s6.trans s7) R5
        refine r_rollm Rq7 (by decide +kernel) (by decide +kernel) ?_
        walk_at "go"
        refine ⟨_, _, u, rfl, Rq7, fun x _ _ s8 Rx => ?_⟩
        walk_at "go"
        refine r_rollm (Same.roll s8 R7) (by decide +kernel) (by decide +kernel) ?_
        walk_at "go"
        refine ⟨_, _, (s + u), rfl, (Same.roll s8 R7), fun y _ _ s9 Ry => ?_⟩
        walk_at "go"
        refine r_neR T (Same.roll s9 Rx) Ry ?_
        walk_at "go"
        refine if_f (nl_f (torn_torn s u)) ?_
        walk_at "go"
        have s89 := s8.trans s9
        refine r_rollm (Same.roll s89 Rq7) (by decide +kernel) (by decide +kernel) ?_
        refine ⟨_, _, rfl, (Same.roll s89 Rq7), fun z2 _ _ s10 Rz => ?_⟩
        walk_at "go"
        refine r_neR T Rz (Same.roll (s89.trans s10) Rv) ?_
        walk_at "go"
        refine if_f (nl_f (torn_rev s)) ?_
        walk_at "go"
        refine r_I (by omega) ?_
        walk_at "go"
        have s810 := s89.trans s10
        have R10 := Same.roll s810 R7
        refine r_rollm R10 (by decide +kernel) (by decide +kernel) ?_
        refine ⟨_, _, rfl, R10, fun m2 _ _ s11 Rm => ?_⟩
        walk_at "go"
        refine r_rollm Rm (by decide +kernel) (by decide +kernel) ?_
        walk_at "go"
        rw [e1]
        refine ⟨_, _, ws.length - s % ws.length, t, rfl, Rm, by omega, ?_⟩
        walk_at "go"
        have R11 := Same.roll s11 R10
        refine r_rollm R11 (by decide +kernel) (by decide +kernel) ?_
        walk_at "go"
        refine r_I (.inl ⟨by decide, by decide⟩) ?_
        walk_at "go"
        refine r_I (by omega) ?_
        walk_at "go"
        have e2 : ((s : Int) % (ws.length : Int) + 50 * (ws.length : Int) - (t : Int)) % (ws.length : Int) = (((s % ws.length + 50 * ws.length - t) % ws.length : Nat) : Int) := by
          rw [Int.natCast_emod]
          congr 1
          omega
        rw [e2]
        have sl2 := Nat.mod_lt (s % ws.length + 50 * ws.length - t) n0
        refine ⟨_, _, (s % ws.length + 50 * ws.length - t) % ws.length, t, rfl, R11, by omega, ?_⟩
        walk_at "go"
        refine if_f (ne_f (win_back n0 sl (by omega))) ?_
        walk_at "go"
        have Rq11 := Same.roll (s810.trans s11) Rq7
        have ft := Form.symm (.inl (Turned.torn ws s))
        refine ⟨_, _, rfl, Rq11, fun f1 m3 _ _ s12 f1e L1 => ?_⟩
        walk_at "go"
        refine ⟨_, _, rfl, (Same.roll s12 R11), fun f2 m4 _ _ s13 f2e L2 => ?_⟩
        walk_at "go"
        refine r_neI (sq_of (s13 _ _ f1e)) (sq_of f2e) ?_
        walk_at "go"
        refine if_f (nl_f (Least.same ft L1 L2)) ?_
        walk_at "go"
        have s1213 := s12.trans s13
        refine r_rollm (Same.roll s1213 Rq11) (by decide +kernel) (by decide +kernel) ?_
        refine ⟨_, _, rfl, (Same.roll s1213 Rq11), fun z3 _ _ s14 Rm3 => ?_⟩
        walk_at "go"
        refine ⟨_, _, rfl, Rm3, fun f3 m5 _ _ s15 f3e L3 => ?_⟩
        walk_at "go"
        refine ⟨_, _, rfl, (Same.roll (s1213.trans (s14.trans s15)) R11), fun f4 m6 _ _ s16 f4e L4 => ?_⟩
        walk_at "go"
        refine r_neI (sq_of (s16 _ _ f3e)) (sq_of f4e) ?_
        walk_at "go"
        refine if_f (nl_f (Least.same ((Form.mirror _).symm.trans ft) L3 L4)) ?_
        walk_at "go"
        have sall := s5.trans ((s6.trans s7).trans (s810.trans (s11.trans (s1213.trans (s14.trans (s15.trans s16))))))
        exact ⟨_, _, _, _, _, _, _, _, _, _, _, rfl, sc4.trans sall, (hD.same sall).le (by omega), Same.roll sall R4, sall _ _ lc4⟩
      rintro σ Hc ⟨v1, v6, v7, v8, v9, v10, v11, v12, v13, v14, v15, rfl, sc, hc, R, lc⟩
      walk_at "go"
      refine ⟨_, _, rfl, R, fun f m2 _ _ s7 fe L => ?_⟩
      walk_at "go"
      refine r_makeV fun q dx H8 n8 s8 e8 => ?_
      refine ⟨q, f, dx, m2, rfl, e8, sq_of (s8 _ _ fe), L.1.row R.row, fun H9 b9 R9 => ⟨rfl, ?_⟩⟩
      have s79 := s7.trans (But.same s8 n8 b9)
      have RR := Same.roll s79 R
      walk_at "go"
      refine r_rollm R9 (by decide +kernel) (by decide +kernel) ?_
      refine ⟨_, _, rfl, R9, ?_⟩
      walk_at "go"
      refine r_rollm RR (by decide +kernel) (by decide +kernel) ?_
      refine ⟨_, _, rfl, RR, ?_⟩
      walk_at "go"
      refine if_f (ne_f L.1.sum) ?_
      walk_at "go"
      refine r_rollm RR (by decide +kernel) (by decide +kernel) ?_
      refine ⟨_, _, rfl, RR, fun g2 _ _ s10 e10 => ?_⟩
      walk_at "go"
      refine r_neI (sq_of e10) (sq_of (s10 _ _ (s79 _ _ lc))) ?_
      walk_at "go"
      refine if_f (nl_f rfl) ?_
      walk_at "go"
      exact ⟨_, _, _, _, _, _, _, _, _, _, _, _, _, _, _, rfl, sc.trans (s79.trans s10)⟩
    rintro σ H' ⟨v1, v2, v3, v4, v5, v6, v7, v8, v9, v10, v11, v12, v13, v14, v15, rfl, sH⟩
    walk_at "go"
    exact k H'
end

end RC


open PySem PySem.W PySem.Calls PyProof.Rows
theorem PySem.Challenge.cw_rollclerk_k12_whole_rolls_and_laps_holds : PySem.Challenge.rw_rollclerk_k12_whole_rolls_and_laps.Holds := by
  w_on; o_law
  refine HandSHeadRun.head_any (r := RC.R) (q := view RC.R.prog [20]) (H := RC.hk) (ob := RC.ob) (M := 4000) (loose := RC.loose) (d := HandSHeadRun.topDef RC.R.prog 20) (kwd := []) RC.ob_eq
    (by kernel_rfl) (fun s => by kernel_rfl) RC.run (by kernel_rfl) (by kernel_rfl) (by kernel_rfl) (by rfl) (by first | assumption | decide +kernel) (by decide +kernel) ⟨rfl, rfl, rfl, rfl, rfl, by decide +kernel⟩ ?hw ?hc
  case hw => w_witness2
  case hc =>
    refine L2.walk_ofE (l := PySem.Challenge.rw_rollclerk_k12_whole_rolls_and_laps) (n := 63) (k := 5) (x := "_law_script") (CX := L2.CX0) rfl (by decide) (by kernel_rfl) ⟨rfl, by decide, by decide⟩ ?F (fun _ _ _ _ z => z)
    intro w mg fa h Y G hmg0
    obtain ⟨K, KX, c⟩ := Y
    have hmg : mg ("law" : PySem.Str) = some (.ref fa) := by
      have e : (HandSHeadRun.topDef RC.R.prog 20).name = ("law" : PySem.Str) := by kernel_rfl
      rw [← e]
      exact hmg0
    obtain ⟨T⟩ := RC.txt_of KX G c
    have e := hmg.symm.trans T.g_law
    cases e
    have b := L2.FunD.bindsA (ps := ["_law_script"]) T.F_law fun _ _ _ _ _ _ us hl => match us, hl with | [_], _ => rfl
    exact ⟨K, T.fd_law, RC.spLaw K, KX, fun s v => b s [v] rfl, fun H a ns hl _ hS => ⟨a, ns, rfl, hS, hl, fun _ => rfl⟩, fun base _ _ => RC.ok_law T⟩
