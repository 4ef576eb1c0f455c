import PyProof.Rows.All
import Wide.All
import OpenK.AllK
import Wide.FinOn
import KE.KStateDown
import HandS.ForMost
import HandS.More
import HandS.Exc
import HandS.ExcOwn
import HandS.TryOnly
import HandS.WordsExc
import HandS.Defaults
import HandS.Deep
import HandS.Conv
import HandS.MakeKwOnly
import HandS.Wide
import HandS.WideBits
import HandS.Style
import HandS.IsInst
import HandS.Star
import HandS.OwnEq
import HandS.SortInts
import HandS.Evl
import HandS.SetFor
import KE.KDictSum
import HandS.SortRule
import HandS.Flow
import HandS.Strs
import HandS.TupAny
import KE.DataMinMax
import KE.SortData
import KE.DataCmp
import HandS.Head0
import HandS.Head1
import HandS.Head2
import HandS.HeadEnd
import HandS.HeadHook1
import HandS.HeadHook2
import KE.KExcSuper
import HandS.ExcValue
import HandS.CallSlots
import PyProof.LongRange
import HandS.ExcIs
import KE.KExcIs
import KE.KExcMake
import HandS.NoneIn
import PyProof.ReprBulk
import PyProof.FitsInt
import PySem.Challenge.RW_rollclerk_k01_errors
set_option Elab.async false
set_option linter.all false
set_option maxRecDepth 100000
set_option maxHeartbeats 4000000
/-! ## The steps of a reading, one lemma a construct; heaps that grow -/
namespace RC
open PySem PySem.Spec PyProof.Rows L2

/-! ### heaps -/
theorem small1 {n : Nat} (h : n ≤ 100000) : n < sizeLine := Nat.lt_of_le_of_lt h (by decide)
theorem small2 {n : Nat} (h : n ≤ 100000) : n ≤ sizeLine := Nat.le_trans h (by decide)
theorem same_new {H : Hp} {p : Addr} {o : HO} (h : H p = none) : Same H (upd H p o) := fun b x e => by
  rw [upd_ne (ne_of_none e h)]
  exact e
/-- something new at p: the heap behind it by a name -/
theorem r_new {H : Hp} {o : HO} {Q : VK} (h : ∀ p H1, H p = none → Same H H1 → H1 p = some o → Q (.ref p) H1) : ∀ p, H p = none → Q (.ref p) (upd H p o) := fun p hp => h p _ hp (same_new hp) upd_same
theorem Same.rd {H H' : Hp} (e : Same H H') {a : Addr} {u : HO} (h : Rd H a u) : Rd H' a u := by
  rcases h with h | ⟨o, h⟩
  · exact .inl (e _ _ h)
  · exact .inr ⟨o, e _ _ h⟩
theorem Same.tup {K : PySem.W.Frag} {H H' : Hp} {a : Addr} {xs : List V} (e : Same H H') (h : SqT K H a xs) : SqT K H' a xs := by
  rcases h with h | h
  · exact .inl (Same.rd e h)
  · exact .inr h
theorem Same.lst {K : PySem.W.Frag} {H H' : Hp} {a : Addr} {xs : List V} (e : Same H H') (h : SqL K H a xs) : SqL K H' a xs := by
  rcases h with h | h
  · exact .inl (Same.rd e h)
  · exact .inr h
mutual
theorem Same.dp {K : PySem.W.Frag} {H H' : Hp} (e : Same H H') : ∀ {v : V} {d : PyData}, Dp K H v d → Dp K H' v d
  | _, _, .non => .non
  | _, _, .bl b => .bl b
  | _, _, .int i => .int i
  | _, _, .str x => .str x
  | _, _, .lst h a => .lst (Same.lst e h) (Same.dpa e a)
  | _, _, .tup h a => .tup (Same.tup e h) (Same.dpa e a)
theorem Same.dpa {K : PySem.W.Frag} {H H' : Hp} (e : Same H H') : ∀ {v : List V} {d : List PyData}, DpAll K H v d → DpAll K H' v d
  | _, _, .nil => .nil
  | _, _, .cons h t => .cons (Same.dp e h) (Same.dpa e t)
end
/-- G is a part of H that leaves p out -/
def Cut (p : Addr) (H G : Hp) : Prop := ∀ a o, G a = some o → a ≠ p ∧ H a = some o
theorem Cut.same {p : Addr} {H G : Hp} (c : Cut p H G) : Same G H := fun a o h => (c a o h).2
theorem Cut.of {p : Addr} {H G : Hp} (e : Same G H) (h : G p = none) : Cut p H G := fun a o q => ⟨ne_of_none q h, e a o q⟩
theorem Cut.upd {p : Addr} {H G : Hp} {o : HO} (c : Cut p H G) : Cut p (upd H p o) G := fun a u h => by
  obtain ⟨n, q⟩ := c a u h
  exact ⟨n, by rw [upd_ne n]; exact q⟩
theorem Cut.grow {p : Addr} {H H' G : Hp} (c : Cut p H G) (e : Same H H') : Cut p H' G := fun a o h => ⟨(c a o h).1, e a o (c a o h).2⟩
/-- the largest such part -/
def rest (H : Hp) (p : Addr) : Hp := fun a => if a = p then none else H a
theorem rest_cut (H : Hp) (p : Addr) : Cut p H (rest H p) := fun a o h => by
  unfold rest at h
  by_cases e : a = p
  · rw [if_pos e] at h
    cases h
  · rw [if_neg e] at h
    exact ⟨e, h⟩
theorem rest_ne {H : Hp} {p a : Addr} (e : a ≠ p) : rest H p a = H a := if_neg e
theorem rest_same {H : Hp} {p : Addr} : rest H p p = none := if_pos rfl
theorem same_rest {G H : Hp} {p : Addr} (e : Same G H) (h : G p = none) : Same G (rest H p) := fun a o q => by
  rw [rest_ne (ne_of_none q h)]
  exact e a o q
theorem rest_grow {H H' : Hp} {p : Addr} (e : Same H H') : Same (rest H p) (rest H' p) := fun a o h => by
  have n : a ≠ p := ((rest_cut H p) a o h).1
  rw [rest_ne n] at h ⊢
  exact e a o h
theorem rest_upd {H : Hp} {p : Addr} {o : HO} : rest (L2.upd H p o) p = rest H p := by
  funext a
  unfold rest
  by_cases e : a = p
  · rw [if_pos e, if_pos e]
  · rw [if_neg e, if_neg e, upd_ne e]
/-- all but what stands at p is as it was -/
def But (p : Addr) (H H' : Hp) : Prop := ∀ b o, b ≠ p → H b = some o → H' b = some o
theorem But.refl (p : Addr) (H : Hp) : But p H H := fun _ _ _ h => h
theorem But.of {p : Addr} {H H' : Hp} (e : Same H H') : But p H H' := fun b o _ h => e b o h
theorem But.trans {p : Addr} {H H1 H2 : Hp} (a : But p H H1) (b : But p H1 H2) : But p H H2 := fun c o n h => b c o n (a c o n h)
theorem But.upd {p : Addr} {H : Hp} {o : HO} : But p H (upd H p o) := fun b x n h => by rw [upd_ne n]; exact h
theorem But.same {p : Addr} {H0 H H' : Hp} (e : Same H0 H) (n : H0 p = none) (b : But p H H') : Same H0 H' := fun a o h => b a o (ne_of_none h n) (e a o h)
/-- something written at p: the heap behind it by a name -/
theorem r_mut {H : Hp} {p : Addr} {o : HO} {G : Hp → Prop} (h : ∀ H1, But p H H1 → H1 p = some o → G H1) : G (L2.upd H p o) := h _ But.upd upd_same
def notSeq : HO → Bool
  | .lst _ => false
  | .tup _ => false
  | .frz _ _ => false
  | _ => true
theorem But.lst {K : PySem.W.Frag} {p a : Addr} {H H' : Hp} {o : HO} {xs : List V} (b : But p H H') (hp : H p = some o) (k : notSeq o = true) (h : SqL K H a xs) : SqL K H' a xs := by
  rcases h with (h | ⟨ob, h⟩) | h
  · exact .inl (.inl (b _ _ (ne_of h hp fun e => by rw [← e] at k; cases k) h))
  · exact .inl (.inr ⟨ob, b _ _ (ne_of h hp fun e => by rw [← e] at k; cases k) h⟩)
  · exact .inr h
theorem But.tup {K : PySem.W.Frag} {p a : Addr} {H H' : Hp} {o : HO} {xs : List V} (b : But p H H') (hp : H p = some o) (k : notSeq o = true) (h : SqT K H a xs) : SqT K H' a xs := by
  rcases h with (h | ⟨ob, h⟩) | h
  · exact .inl (.inl (b _ _ (ne_of h hp fun e => by rw [← e] at k; cases k) h))
  · exact .inl (.inr ⟨ob, b _ _ (ne_of h hp fun e => by rw [← e] at k; cases k) h⟩)
  · exact .inr h
theorem Same.app {H H' : Hp} (e : Same H H') {a : Addr} {o : HO} (h : H a = some o) : H' a = some o := e a o h
theorem sq_of {K : PySem.W.Frag} {H : Hp} {a : Addr} {xs : List V} (h : H a = some (.lst xs)) : SqL K H a xs := .inl (.inl h)
theorem st_of {K : PySem.W.Frag} {H : Hp} {a : Addr} {xs : List V} (h : H a = some (.tup xs)) : SqT K H a xs := .inl (.inl h)

/-! ### the constructs -/
section
variable {K : PySem.W.Frag} {σ : L2.St} {H : Hp} {Q : VK} {D : Ends} {ta tb te tc : TE} {t u : TS} {tt uu : TT}
theorem r_seq (h : t { D with nx := u D } σ H) : tSeq t u D σ H := h
theorem r_next (h : D.nx σ H) : tNext D σ H := h
theorem r_ret (h : te σ H D.rt) : tRet te D σ H := h
theorem r_drop (h : te σ H fun _ H1 => D.nx σ H1) : tDrop te D σ H := h
theorem r_ifs (h : tt σ H fun b H1 => if b = true then t D σ H1 else u D σ H1) : tIfS tt t u D σ H := h
theorem r_asg {i : Nat} (h : te σ H fun x H1 => D.nx (σ.set i (some x)) H1) : tAsg te (gName i) D σ H := h
theorem r_var {i : Nat} {v : V} (e : σ[i]? = some (some v)) (h : Q v H) : tVar i σ H Q := ⟨v, e, h⟩
theorem r_c {v : V} (h : Q v H) : tC v σ H Q := h
theorem r_op {r : R2} (h : ta σ H fun x H1 => tb σ H1 fun y H2 => r x y H2 Q) : tOp r ta tb σ H Q := h
theorem r_un {r : V → Hp → VK → Prop} (h : ta σ H fun x H1 => r x H1 Q) : tUn r ta σ H Q := h
theorem r_I0 {g : Int → Int → V} {i j : Int} (h : Q (g i j) H) : rI0 g (.int i) (.int j) H Q := ⟨i, j, rfl, rfl, h⟩
theorem r_I {C : Int → Int → Prop} {g : Int → Int → V} {i j : Int} (c : C i j) (h : Q (g i j) H) : rI C g (.int i) (.int j) H Q := ⟨i, j, rfl, rfl, c, h⟩
theorem r_U {g : Int → V} {i : Int} (h : Q (g i) H) : rU g (.int i) H Q := ⟨i, rfl, h⟩
theorem r_eq {x y : V} (c : scal x y = true) (h : Q (.bl (decide (x = y))) H) : rEq x y H Q := ⟨c, h⟩
theorem r_ne {x y : V} (c : scal x y = true) (h : Q (.bl (!decide (x = y))) H) : rNe x y H Q := ⟨c, h⟩
theorem r_test {P : Bool → Hp → Prop} (h : te σ H fun x H' => ∃ k, x = .bl k ∧ P k H') : tTest te σ H P := h
theorem r_B {P : Bool → Hp → Prop} (h : te σ H fun x H' => ∃ k, x = .bl k ∧ P k H') : tB te σ H P := h
theorem r_bl {k : Bool} {P : Bool → Prop} (h : P k) : ∃ k', V.bl k = V.bl k' ∧ P k' := ⟨k, rfl, h⟩
theorem r_yes {P : Bool → Hp → Prop} (h : P true H) : tYes σ H P := h
theorem r_not {P : Bool → Hp → Prop} (h : tt σ H fun c H1 => P (!c) H1) : tNot tt σ H P := h
theorem r_and {P : Bool → Hp → Prop} (h : tt σ H fun c H1 => if c = true then uu σ H1 P else P false H1) : tAnd tt uu σ H P := h
theorem r_or {P : Bool → Hp → Prop} (h : tt σ H fun c H1 => if c = true then P true H1 else uu σ H1 P) : tOr tt uu σ H P := h
theorem r_andV (h : ta σ H fun x H1 => ∃ c, x = .bl c ∧ if c = true then tb σ H1 Q else Q (.bl false) H1) : tAndV ta tb σ H Q := h
theorem r_orV (h : ta σ H fun x H1 => ∃ c, x = .bl c ∧ if c = true then Q (.bl true) H1 else tb σ H1 Q) : tOrV ta tb σ H Q := h
theorem r_notV (h : ta σ H fun x H1 => ∃ c, x = .bl c ∧ Q (.bl (!c)) H1) : tNotV ta σ H Q := h
theorem r_ifE (h : tt σ H fun c H1 => if c = true then ta σ H1 Q else tb σ H1 Q) : tIf tt ta tb σ H Q := h
/-- a new object o -/
def Mk1 (o : List V → HO) (xs : List V) (H : Hp) (Q : VK) : Prop := xs.length ≤ sizeLine ∧ ∀ p, H p = none → Q (.ref p) (upd H p (o xs))
theorem r_tup {tA : TA} (h : tA σ H fun xs H1 => Mk1 .tup xs H1 Q) : tTup tA σ H Q := h
theorem r_lst {tA : TA} (h : tA σ H fun xs H1 => Mk1 .lst xs H1 Q) : tLst tA σ H Q := h
theorem r_mk {o : List V → HO} {xs : List V} (hl : xs.length ≤ sizeLine) (h : ∀ p H1, H p = none → Same H H1 → H1 p = some (o xs) → Q (.ref p) H1) : Mk1 o xs H Q := ⟨hl, r_new h⟩
theorem r_nil {P : List V → Hp → Prop} (h : P [] H) : tNil σ H P := h
theorem r_cons {tr : TA} {P : List V → Hp → Prop} (h : te σ H fun x H1 => tr σ H1 fun xs H2 => P (x :: xs) H2) : tCons te tr σ H P := h
theorem r_call {sp : Sp} {dvs : List V} {E : XK} {tA : TA} (h : tA σ H fun vs H1 => sp (vs ++ dvs) H1 Q E) : tCall sp dvs E tA σ H Q := h
theorem r_cb {r : List V → Hp → VK → Prop} {tA : TA} (h : tA σ H fun vs H1 => r vs H1 Q) : tCB r tA σ H Q := h
theorem r_slc {r : V → Option Int → Option Int → Hp → VK → Prop} {tl th : TO} (h : te σ H fun x H1 => tl σ H1 fun l H2 => th σ H2 fun w H3 => r x l w H3 Q) : tSl r te tl th σ H Q := h
theorem r_nopart {P : Option Int → Hp → Prop} (h : P none H) : tNoPart σ H P := h
theorem r_part {P : Option Int → Hp → Prop} (h : te σ H fun x H1 => ∃ i, x = .int i ∧ P (some i) H1) : tPart te σ H P := h
theorem r_int {i : Int} {P : Int → Prop} (h : P i) : ∃ i', V.int i = V.int i' ∧ P i' := ⟨i, rfl, h⟩
theorem r_par {i j : Nat} {tA : TA} (h : tA σ H fun vs H1 => ∃ v w, vs = [v, w] ∧ D.nx ((σ.set i (some v)).set j (some w)) H1) : tPar i j tA D σ H := h
theorem r_par2 {v w : V} {P : V → V → Prop} (h : P v w) : ∃ v' w', [v, w] = [v', w'] ∧ P v' w' := ⟨v, w, rfl, h⟩
theorem r_for {wi : TI} {g : TG} (h : wi σ H fun J H1 => ∃ W : Nat → Nat → L2.St → Hp → Prop, (∃ m, W 0 m σ H1) ∧ ∀ i m σ H, W i m σ H →
    (J.stop i H ∧ D.nx σ H) ∨ (J.go i H ∧ ∃ Nx : L2.St → Hp → Prop, (∀ σ' H', Nx σ' H' → ∃ m', m' < m ∧ W (i + 1) m' σ' H') ∧ ∀ x H', J.yld i H x H' → g x σ H' fun σ2 H2 => t { D with nx := Nx, ct := Nx, bk := D.nx } σ2 H2)) : tFor wi g t D σ H := h
/-- a list comprehension, its walk J known -/
theorem r_lc {wi : TI} {g : TG} {vs : List Nat} (h : wi σ H fun J H1 => tLc (fun _ H2 R => R J H2) g tt te vs σ H1 Q) : tLc wi g tt te vs σ H Q := h
def Rn1 (vs : List V) (H : Hp) (R : It → Hp → Prop) : Prop := ∃ j : Int, vs = [.int j] ∧ -(2 ^ 62) ≤ j ∧ j < 2 ^ 62 ∧ R (Itr 0 j.toNat) H
theorem r_rng1 {tA : TA} {R : It → Hp → Prop} (h : tA σ H fun vs H1 => Rn1 vs H1 R) : iRng1 tA σ H R := h
theorem r_rng1' {n : Nat} {j : Int} {R : It → Hp → Prop} (e : j = n) (hn : n ≤ 1000000) (h : R (Itr 0 n) H) : Rn1 [.int j] H R := ⟨j, rfl, by omega, by omega, by rw [e]; exact h⟩
def Rn2 (vs : List V) (H : Hp) (R : It → Hp → Prop) : Prop := ∃ i j : Int, vs = [.int i, .int j] ∧ (-(2 ^ 62) ≤ i ∧ i < 2 ^ 62 ∧ -(2 ^ 62) ≤ j ∧ j < 2 ^ 62) ∧ R (Itr i (j - i).toNat) H
theorem r_rng2 {tA : TA} {R : It → Hp → Prop} (h : tA σ H fun vs H1 => Rn2 vs H1 R) : iRng2 tA σ H R := h
theorem r_rng2' {i j : Int} {n : Nat} {R : It → Hp → Prop} (e : (j - i).toNat = n) (b : -1000000000000000000 ≤ i ∧ i ≤ 1000000000000000000 ∧ -1000000000000000000 ≤ j ∧ j ≤ 1000000000000000000) (h : R (Itr i n) H) : Rn2 [.int i, .int j] H R := ⟨i, j, rfl, by omega, by rw [e]; exact h⟩
def IlV (K : PySem.W.Frag) (x : V) (H : Hp) (R : It → Hp → Prop) : Prop := ∃ a, x = .ref a ∧ (∃ xs, SqL K H a xs) ∧ R (Itl K a) H
theorem r_ilist {R : It → Hp → Prop} (h : te σ H fun x H1 => IlV K x H1 R) : iList K te σ H R := h
def ItV (K : PySem.W.Frag) (x : V) (H : Hp) (R : It → Hp → Prop) : Prop := ∃ a, x = .ref a ∧ (∃ xs, SqT K H a xs) ∧ R (Itt K a) H
theorem r_itup {R : It → Hp → Prop} (h : te σ H fun x H1 => ItV K x H1 R) : iTup K te σ H R := h
theorem r_itup' {a : Addr} {xs : List V} {R : It → Hp → Prop} (hx : SqT K H a xs) (h : R (Itt K a) H) : ItV K (.ref a) H R := ⟨a, rfl, ⟨xs, hx⟩, h⟩
theorem ty_list {a : Addr} {xs : List V} (h : SqL K H a xs) : TyX K H (.ref a) (.type "list") := by
  rcases h with (h | ⟨ob, h⟩) | h
  · exact .base (.lst h)
  · exact .base (.frz h)
  · obtain ⟨o, its, n, h1, h2, _⟩ := h
    exact .kList h1 h2
theorem ty_tup {a : Addr} {xs : List V} (h : H a = some (.tup xs)) : TyX K H (.ref a) (.type "tuple") := .base (.tup h)
theorem r_ilist' {a : Addr} {xs : List V} {R : It → Hp → Prop} (hx : SqL K H a xs) (h : R (Itl K a) H) : IlV K (.ref a) H R := ⟨a, rfl, ⟨xs, hx⟩, h⟩
theorem r_gname {i : Nat} {v : V} {P : L2.St → Hp → Prop} (h : P (σ.set i (some v)) H) : gName i v σ H P := h
theorem r_gtup {K : PySem.W.Frag} {n : Nat} {t : TGs} {a : Addr} {xs : List V} {σ : L2.St} {H : Hp} {P : L2.St → Hp → Prop} (h : SqT K H a xs) (l : xs.length = n) (q : t xs σ H P) : gTup K n t (.ref a) σ H P := ⟨a, xs, rfl, h, l, q⟩
theorem r_gcons {t : TG} {u : TGs} {v : V} {vs : List V} {σ : L2.St} {H : Hp} {P : L2.St → Hp → Prop} (h : t v σ H fun σ2 H2 => u vs σ2 H2 P) : gCons t u (v :: vs) σ H P := ⟨v, vs, rfl, h⟩
theorem r_gnil {σ : L2.St} {H : Hp} {P : L2.St → Hp → Prop} (h : P σ H) : gNil [] σ H P := ⟨rfl, h⟩
/-! ### tests: known, or both ways -/
theorem if_t {b : Bool} {A B : Prop} (e : b = true) (h : A) : if b = true then A else B := by
  rw [if_pos e]
  exact h
theorem if_f {b : Bool} {A B : Prop} (e : b = false) (h : B) : if b = true then A else B := by
  rw [e, if_neg Bool.false_ne_true]
  exact h
theorem if_d {c A B : Prop} [Decidable c] (h1 : c → A) (h2 : ¬ c → B) : if decide c = true then A else B := by
  by_cases h : c
  · rw [if_pos (decide_eq_true h)]
    exact h1 h
  · rw [decide_eq_false h, if_neg Bool.false_ne_true]
    exact h2 h
theorem if_dn {c A B : Prop} [Decidable c] (h1 : ¬ c → A) (h2 : c → B) : if (!decide c) = true then A else B := by
  by_cases h : c
  · rw [decide_eq_true h]
    exact if_f rfl (h2 h)
  · rw [decide_eq_false h]
    exact if_t rfl (h1 h)
theorem r_tt {A B : Prop} (h : A) : if true = true then A else B := if_t rfl h
theorem r_ff {A B : Prop} (h : B) : if false = true then A else B := if_f rfl h
theorem r_ntt {A B : Prop} (h : B) : if (!true) = true then A else B := if_f rfl h
theorem r_nff {A B : Prop} (h : A) : if (!false) = true then A else B := if_t rfl h
theorem r_isi {x c : V} {t u : Value} {b : Bool} (k : ClsV c u) (ty : TyX K H x t) (e : PySem.W.kitOne K t u = some b) (h : Q (.bl b) H) : rIsi K [x, c] H Q := ⟨x, c, t, u, b, rfl, k, ty, e, h⟩
/-! ### lists -/
open Evl (rLenS rListS rMax2)
/-- len(xs), list(xs), tuple(xs) of a list or tuple -/
def rTupS (K : PySem.W.Frag) : List V → Hp → VK → Prop := fun xs H Q => ∃ p ys, xs = [.ref p] ∧ ((SqL K H p ys ∧ ∀ l, H l = none → Q (.ref l) (upd H l (.tup ys))) ∨ (SqT K H p ys ∧ Q (.ref p) H))
theorem call_lenS {X : Cx} : CallR X (.builtin "len") (rLenS X.K) := call_len_seq
theorem call_listS {X : Cx} : CallR X (.type "list") (rListS X.K) := call_list_of
theorem call_tupS {X : Cx} : CallR X (.type "tuple") (rTupS X.K) := call_tuple_of
theorem r_len {p : Addr} {xs : List V} {n : Int} (h : SqL K H p xs ∨ SqT K H p xs) (e : (xs.length : Int) = n) (q : Q (.int n) H) : rLenS K [.ref p] H Q := ⟨p, xs, rfl, h, by rw [e]; exact q⟩
theorem r_list {p : Addr} {xs : List V} (h : SqL K H p xs ∨ SqT K H p xs) (q : ∀ l H1, H l = none → Same H H1 → H1 l = some (.lst xs) → Q (.ref l) H1) : rListS K [.ref p] H Q := ⟨p, xs, rfl, h, r_new q⟩
theorem r_tupL {p : Addr} {xs : List V} (h : SqL K H p xs) (q : ∀ l H1, H l = none → Same H H1 → H1 l = some (.tup xs) → Q (.ref l) H1) : rTupS K [.ref p] H Q := ⟨p, xs, rfl, .inl ⟨h, r_new q⟩⟩
theorem r_tupT {p : Addr} {xs : List V} (h : SqT K H p xs) (q : Q (.ref p) H) : rTupS K [.ref p] H Q := ⟨p, xs, rfl, .inr ⟨h, q⟩⟩
/-- int(n), max(m, n), min(m, n) of ints, n.bit_length() -/
def rInt1 : List V → Hp → VK → Prop := fun xs H Q => (∃ i, xs = [.int i] ∧ Q (.int i) H) ∨ ∃ k, xs = [.bl k] ∧ Q (.int (if k then 1 else 0)) H
theorem call_intS {X : Cx} : CallR X (.type "int") rInt1 := call_int1
theorem r_int1 {i : Int} (h : Q (.int i) H) : rInt1 [.int i] H Q := .inl ⟨i, rfl, h⟩
def rMin2 : List V → Hp → VK → Prop := fun xs H Q => ∃ i j, xs = [.int i, .int j] ∧ Q (.int (if j < i then j else i)) H
theorem call_max2S {X : Cx} (hc : X.calm = true) : CallR X (.builtin "max") rMax2 := call_max2 hc
theorem call_min2S {X : Cx} (hc : X.calm = true) : CallR X (.builtin "min") rMin2 := call_min2 hc
theorem r_max2 {i j : Int} (h : Q (.int (if j > i then j else i)) H) : rMax2 [.int i, .int j] H Q := ⟨i, j, rfl, h⟩
theorem r_min2 {i j : Int} (h : Q (.int (if j < i then j else i)) H) : rMin2 [.int i, .int j] H Q := ⟨i, j, rfl, h⟩
def BitV (x : V) (H : Hp) (Q : VK) : Prop := ∃ i, x = .int i ∧ Q (.int (Builtin.Int.intBits i : Nat)) H
theorem r_bits (h : te σ H fun x H1 => BitV x H1 Q) : tBits te σ H Q := h
theorem r_bitV {i : Int} (h : Q (.int (Builtin.Int.intBits i : Nat)) H) : BitV (.int i) H Q := ⟨i, rfl, h⟩
/-- sum(xs) -/
theorem r_sum {p : Addr} {ns : List Int} (h : SqL K H p (ns.map V.int)) (q : Q (.int ns.sum) H) : rSum K [.ref p] H Q := ⟨p, ns, rfl, h, q⟩
/-- xs[a:b], xs[::-1], xs + ys, xs * k of lists -/
theorem r_sll {p : Addr} {xs : List V} {lo hi : Option Int} (h : SqL K H p xs) (q : ∀ l H1, H l = none → Same H H1 → H1 l = some (.lst (cutV xs lo hi)) → Q (.ref l) H1) : rSlL K (.ref p) lo hi H Q := ⟨p, xs, rfl, h, r_new q⟩
def RevV (K : PySem.W.Frag) (x : V) (H : Hp) (Q : VK) : Prop := ∃ a xs, x = .ref a ∧ SqL K H a xs ∧ ∀ p, H p = none → Q (.ref p) (upd H p (.lst xs.reverse))
theorem r_revl (h : te σ H fun x H1 => RevV K x H1 Q) : tRevL K te σ H Q := h
theorem r_revV {p : Addr} {xs : List V} (h : SqL K H p xs) (q : ∀ l H1, H l = none → Same H H1 → H1 l = some (.lst xs.reverse) → Q (.ref l) H1) : RevV K (.ref p) H Q := ⟨p, xs, rfl, h, r_new q⟩
theorem r_cat {l b : Addr} {xs zs : List V} (h1 : H l = some (.lst xs)) (h2 : H b = some (.lst zs)) (hz : xs.length + zs.length ≤ sizeLine) (q : ∀ p H1, H p = none → Same H H1 → H1 p = some (.lst (xs ++ zs)) → Q (.ref p) H1) : rCat (.ref l) (.ref b) H Q := ⟨l, b, xs, zs, rfl, rfl, h1, h2, hz, r_new q⟩
theorem r_ixl {p : Addr} {xs : List V} {i : Int} {v : V} (h : SqL K H p xs) (e : atI xs i = some v) (q : Q v H) : rIxL K (.ref p) (.int i) H Q := ⟨p, xs, i, v, rfl, rfl, h, e, q⟩
theorem r_ixt {p : Addr} {xs : List V} {i : Int} {v : V} (h : SqT K H p xs) (e : atI xs i = some v) (q : Q v H) : rIxT K (.ref p) (.int i) H Q := ⟨p, xs, i, v, rfl, rfl, h, e, q⟩
theorem r_bm {T : String} {r : V → List V → Hp → VK → Prop} {to : TE} {tA : TA} (h : to σ H fun x H1 => tyV K T x H1 ∧ tA σ H1 fun xs H2 => r x xs H2 Q) : tBM K T r to tA σ H Q := h
theorem r_bm0 {T : String} {r : V → List V → Hp → VK → Prop} {to : TE} (h : to σ H fun x H1 => tyV K T x H1 ∧ r x [] H1 Q) : tBM0 K T r to σ H Q := h
theorem ty_l {p : Addr} {xs : List V} (h : H p = some (.lst xs)) : tyV K "list" (.ref p) H := .inl ⟨rfl, _, sq_of h⟩
theorem r_app {p : Addr} {xs : List V} {y : V} (h : H p = some (.lst xs)) (l : xs.length < sizeLine) (q : ∀ H1, But p H H1 → H1 p = some (.lst (xs ++ [y])) → Q .non H1) : rAppend (.ref p) [y] H Q := ⟨p, xs, y, rfl, rfl, h, l, q _ But.upd upd_same⟩
theorem r_ext {p b : Addr} {xs zs : List V} (h : H p = some (.lst xs)) (hb : H b = some (.lst zs)) (l : xs.length + zs.length ≤ sizeLine) (q : ∀ H1, But p H H1 → H1 p = some (.lst (xs ++ zs)) → Q .non H1) : rExtend (.ref p) [.ref b] H Q := ⟨p, b, xs, zs, rfl, rfl, h, hb, l, q _ But.upd upd_same⟩
theorem r_sub {to ti : TE} {ts : TSet} {v : V} {P : L2.St → Hp → Prop} (h : to σ H fun o H1 => ti σ H1 fun i H2 => ts o i v H2 fun H3 => P σ H3) : gSub to ti ts v σ H P := h
theorem r_asgG {g : TG} (h : te σ H fun x H1 => g x σ H1 D.nx) : tAsg te g D σ H := h
theorem r_setl {p : Addr} {xs : List V} {k : Int} {j : Nat} {v : V} {P : Hp → Prop} (h : H p = some (.lst xs)) (e : ixN xs.length k = some j) (q : ∀ H1, But p H H1 → H1 p = some (.lst (xs.set j v)) → P H1) : rSetL (.ref p) (.int k) v H P := ⟨p, xs, k, j, rfl, rfl, h, e, q _ But.upd upd_same⟩
/-! ### objects -/
def FldV (K : PySem.W.Frag) (f : Str) (x : V) (H : Hp) (Q : VK) : Prop := ∃ a C dx fs v, x = .ref a ∧ H a = some (.ins C dx fs) ∧ Cls K C ∧ NoAttr K C f ∧ fs.lookup f = some v ∧ Q v H
theorem r_fld {f : Str} (h : ta σ H fun x H1 => FldV K f x H1 Q) : tFld K ta f σ H Q := h
def SFldV (K : PySem.W.Frag) (f : Str) (y x : V) (H : Hp) (N : Hp → Prop) : Prop := ∃ a C dx fs, x = .ref a ∧ H a = some (.ins C dx fs) ∧ Cls K C ∧ NoAttr K C f ∧ fs.length < 1000 ∧ N (upd H a (.ins C dx (putF f y fs)))
theorem r_sfld {f : Str} {tv : TE} (h : tv σ H fun y H1 => ta σ H1 fun x H2 => SFldV K f y x H2 fun H3 => D.nx σ H3) : sFld K ta tv f D σ H := h
theorem r_sfldV {f : Str} {y : V} {p C dx : Addr} {fs : List (Str × V)} {N : Hp → Prop} (hp : H p = some (.ins C dx fs)) (cl : Cls K C) (na : NoAttr K C f) (l : fs.length < 1000) (h : ∀ H1, But p H H1 → H1 p = some (.ins C dx (putF f y fs)) → N H1) : SFldV K f y (.ref p) H N := ⟨p, C, dx, fs, rfl, hp, cl, na, l, h _ But.upd upd_same⟩
def MethV (C : Addr) (m : Str) (sp : Sp) (x : V) (t : (List V → Hp → Prop) → Hp → Prop) (dvs : List V) (H : Hp) (Q : VK) (E : XK) : Prop := ∃ a dx fs, x = .ref a ∧ H a = some (.ins C dx fs) ∧ fs.lookup m = none ∧ t (fun vs H2 => sp (x :: (vs ++ dvs)) H2 Q E) H
theorem r_meth {C : Addr} {m : Str} {sp : Sp} {dvs : List V} {E : XK} {tA : TA} (h : ta σ H fun x H1 => MethV C m sp x (fun P H => tA σ H P) dvs H1 Q E) : tMeth C m sp dvs E ta tA σ H Q := h
def MakeV (C : Addr) (sp : Sp) (vs : List V) (H : Hp) (Q : VK) (E : XK) : Prop := ∀ x dx, H x = none → H dx = none → dx ≠ x → sp (.ref x :: vs) (upd (upd H dx (.own x)) x (.ins C dx [])) (fun v H2 => v = .non ∧ Q (.ref x) H2) E
theorem r_make {C : Addr} {sp : Sp} {dvs : List V} {E : XK} {tA : TA} (h : tA σ H fun vs H1 => MakeV C sp (vs ++ dvs) H1 Q E) : tMake C sp dvs E tA σ H Q := h
theorem r_makeV {C : Addr} {sp : Sp} {vs : List V} {E : XK} (h : ∀ x dx H1, H x = none → Same H H1 → H1 x = some (.ins C dx []) → sp (.ref x :: vs) H1 (fun v H2 => v = .non ∧ Q (.ref x) H2) E) : MakeV C sp vs H Q E := fun x dx nx nd ne => h x dx _ nx (fun b o e => by
  rw [upd_ne (ne_of_none e nx), upd_ne (ne_of_none e nd)]
  exact e) upd_same
end
end RC

/-! ### the words: walk_at "go" takes every step that asks nothing; walk_at "hp" looks a fact up along the heaps -/
open RC in
local macro_rules | `(tactic| walk_at "hp") => `(tactic| first
  | assumption
  | exact L2.upd_same
  | exact L2.Same.refl _
  | (with_reducible refine RC.sq_of ?_; walk_at "hp")
  | (with_reducible refine RC.st_of ?_; walk_at "hp")
  | (refine RC.Same.app (by assumption) ?_; walk_at "hp")
  | (refine RC.Same.lst (by assumption) ?_; walk_at "hp")
  | (refine RC.Same.tup (by assumption) ?_; walk_at "hp")
  | (refine RC.Same.dp (by assumption) ?_; walk_at "hp")
  | (refine L2.Same.trans ?_ (by assumption); walk_at "hp"))
local macro_rules | `(tactic| walk_at "st") => `(tactic| first
  | with_reducible refine RC.r_seq ?_
  | with_reducible refine RC.r_asg ?_
  | (with_reducible show L2.tVar _ _ _ _; refine RC.r_var rfl ?_)
  | with_reducible refine RC.r_c ?_
  | with_reducible refine RC.r_op ?_
  | with_reducible refine RC.r_I0 ?_
  | with_reducible refine RC.r_un ?_
  | with_reducible refine RC.r_U ?_
  | (with_reducible show L2.rEq _ _ _ _; refine RC.r_eq rfl ?_)
  | (with_reducible show L2.rNe _ _ _ _; refine RC.r_ne rfl ?_)
  | with_reducible refine RC.r_test ?_
  | with_reducible refine RC.r_B ?_
  | with_reducible refine RC.r_bl ?_
  | with_reducible refine RC.r_int ?_
  | with_reducible refine RC.r_ifs ?_
  | with_reducible refine RC.r_tt ?_
  | with_reducible refine RC.r_ff ?_
  | with_reducible refine RC.r_ntt ?_
  | with_reducible refine RC.r_nff ?_
  | with_reducible refine RC.r_ret ?_
  | with_reducible refine RC.r_drop ?_
  | with_reducible refine RC.r_next ?_
  | with_reducible refine RC.r_cons ?_
  | with_reducible refine RC.r_nil ?_
  | with_reducible refine RC.r_call ?_
  | with_reducible refine RC.r_cb ?_
  | with_reducible refine RC.r_fld ?_
  | with_reducible refine RC.r_sfld ?_
  | with_reducible refine RC.r_meth ?_
  | with_reducible refine RC.r_make ?_
  | with_reducible refine RC.r_not ?_
  | with_reducible refine RC.r_yes ?_
  | with_reducible refine RC.r_and ?_
  | with_reducible refine RC.r_or ?_
  | with_reducible refine RC.r_andV ?_
  | with_reducible refine RC.r_orV ?_
  | with_reducible refine RC.r_notV ?_
  | with_reducible refine RC.r_ifE ?_
  | with_reducible refine RC.r_tup ?_
  | with_reducible refine RC.r_lst ?_
  | with_reducible refine RC.r_slc ?_
  | with_reducible refine RC.r_nopart ?_
  | with_reducible refine RC.r_part ?_
  | with_reducible refine RC.r_par ?_
  | with_reducible refine RC.r_par2 ?_
  | with_reducible refine RC.r_for ?_
  | with_reducible refine RC.r_rng1 ?_
  | with_reducible refine RC.r_ilist ?_
  | with_reducible refine RC.r_itup ?_
  | with_reducible refine RC.r_rng2 ?_
  | with_reducible refine RC.r_bits ?_
  | with_reducible refine RC.r_bitV ?_
  | with_reducible refine RC.r_int1 ?_
  | with_reducible refine RC.r_max2 ?_
  | with_reducible refine RC.r_min2 ?_
  | with_reducible refine RC.r_revl ?_
  | with_reducible refine RC.r_gname ?_
  | with_reducible refine RC.r_gcons ?_
  | with_reducible refine RC.r_gnil ?_
  | with_reducible refine RC.r_bm ?_
  | with_reducible refine RC.r_bm0 ?_
  | with_reducible refine RC.r_sub ?_
  | with_reducible refine RC.r_asgG ?_)
local macro_rules | `(tactic| walk_at "go") => `(tactic| repeat walk_at "st")
/-! ## Operations that the hand layer lacks -/
namespace RC
open PySem PySem.Spec PyProof.Rows L2

/-- a rule of a context, its class table by a name -/
theorem kOf {β : Type _} (F : PySem.W.Frag → β) {G : β → Prop} {K K' : PySem.W.Frag} (h : G (F K')) (e : K' = K) : G (F K) := e ▸ h

/-! ### powers of great numbers -/
def CPowW (i j : Int) : Prop := 0 ≤ j ∧ (Builtin.Int.intBits i : Int) * j ≤ 2 ^ 27
theorem op_powW {X : Cx} : OpR X (binaryOp .Pow) (rI CPowW fun i j => .int (i ^ j.toNat)) := opI fun _ _ _ _ _ _ _ hc q => pow_int hc.1 hc.2 q

/-! ### t[::-1] -/
section
open HT
variable {prog : Program} {w : World} {A : Around} {E : Value → Shared → Prop} {s : Shared}
theorem adjust_rev (n : Nat) : Builtin.Slice.sliceAdjust none none (-1) (n : Int) = ((n : Int) - 1, -1) := rfl
theorem places_rev (n : Nat) : Builtin.Slice.slicePlaces ((n : Int) - 1) (-1) (-1) = n := by
  unfold Builtin.Slice.slicePlaces
  rw [if_neg (by decide)]
  by_cases h : (n : Int) - 1 > -1
  · rw [if_pos h]
    have e : -(-1 : Int) = 1 := rfl
    rw [e, Int.ediv_one]
    omega
  · rw [if_neg h]
    show (0 : Int).toNat = n
    have : n = 0 := by omega
    subst this
    rfl
theorem applied_rev {sl : Addr} {t : Tok} {n : Nat} {Q : Int × Int × Nat → Shared → Prop} (hs : s.heap.IsSliceOf sl .none .none (.int (-1) t))
    (h : Q ((n : Int) - 1, -1, n) s) : wpAny (model prog w) A (Builtin.Slice.sliceApplied (.ref sl) (pure (n : Int))) Q E s := by
  obtain ⟨os, hos, hcs, hds⟩ := id hs
  unfold Builtin.Slice.sliceApplied Builtin.Slice.sliceFields
  refine wpAny_bind (wpAny_bind (wpAny_field hos hds (x := .none) rfl (wpAny_bind (wpAny_field hos hds (x := .none) rfl (wpAny_bind (wpAny_field hos hds (x := .int (-1) t) rfl (wpAny_pure ?_)))))))
  refine wpAny_bind (slicePart_int ?_)
  show wpAny _ _ (if ((-1 : Int) == 0) = true then _ else _) _ _ s
  rw [if_neg (by decide)]
  refine wpAny_bind (slicePart_none (wpAny_bind (slicePart_none (wpAny_bind (wpAny_pure ?_)))))
  show wpAny _ _ (match Builtin.Slice.sliceAdjust none none (-1) (n : Int) with | (lo, hi) => pure (lo, (-1 : Int), Builtin.Slice.slicePlaces lo hi (-1))) _ _ s
  rw [adjust_rev n]
  show wpAny _ _ (pure ((n : Int) - 1, (-1 : Int), Builtin.Slice.slicePlaces ((n : Int) - 1) (-1) (-1))) _ _ s
  rw [places_rev]
  exact wpAny_pure h
theorem pick_rev (xs : Array Value) : ((List.range xs.size).filterMap fun (m : Nat) => xs[(((xs.size : Int) - 1) + (m : Int) * (-1)).toNat]?).toArray = xs.toList.reverse.toArray := by
  congr 1
  apply List.ext_getElem?
  intro i
  have h1 : ∀ k, k ≤ xs.size → (List.range k).filterMap (fun (m : Nat) => xs[(((xs.size : Int) - 1) + (m : Int) * (-1)).toNat]?) = (List.range k).map fun m => xs[xs.size - 1 - m]! := by
    intro k
    induction k with
    | zero => intro _; rfl
    | succ k ih =>
      intro hk
      rw [List.range_succ, List.filterMap_append, List.map_append, ih (by omega)]
      congr 1
      have e : (((xs.size : Int) - 1) + (k : Int) * (-1)).toNat = xs.size - 1 - k := by omega
      have hl : xs.size - 1 - k < xs.size := by omega
      show List.filterMap (fun m : Nat => xs[(((xs.size : Int) - 1) + (m : Int) * (-1)).toNat]?) [k] = [xs[xs.size - 1 - k]!]
      rw [List.filterMap_cons]
      have e2 : xs[(((xs.size : Int) - 1) + (k : Int) * (-1)).toNat]? = some xs[xs.size - 1 - k] := by
        rw [e]
        exact Array.getElem?_eq_getElem hl
      rw [e2]
      show _ :: List.filterMap _ [] = _
      rw [List.filterMap_nil, getElem!_pos xs (xs.size - 1 - k) hl]
  rw [h1 xs.size (Nat.le_refl _), List.getElem?_map]
  by_cases hi : i < xs.size
  · rw [List.getElem?_range hi, List.getElem?_reverse (by simpa using hi)]
    have hl : xs.size - 1 - i < xs.size := by omega
    show some (xs[xs.size - 1 - i]!) = _
    rw [getElem!_pos xs (xs.size - 1 - i) hl, Array.getElem?_toList, Array.length_toList, Array.getElem?_eq_getElem hl]
  · rw [List.getElem?_eq_none (by simpa using hi), List.getElem?_eq_none (by simpa using hi)]
    rfl
/-- what the tuple's own index method does at a key that walks back over the whole -/
theorem back_body {B : Around} {t sl : Addr} {items : Array Value} {tk : Tok} {G : PySem.Fin → Shared → Prop} (ht : IsTup s.heap t items) (hs : s.heap.IsSliceOf sl .none .none (.int (-1) tk)) (few : items.size ≤ sizeLine)
    (done : G (.done (.ret (.ref s.heap.objs.size))) { s with heap := s.heap.push { cls := .type "tuple", data := .seq items.toList.reverse.toArray } }) :
    wpAny (model prog w) B (Builtin.«tuple.__getitem__» ⟨[.ref t, .ref sl], []⟩) G E s := by
  have key : s.TypeIs (.ref sl) "slice" := by
    obtain ⟨o, ho, c, _⟩ := hs
    exact ⟨o, ho, c⟩
  have fits : sizeOk (.seq items.toList.reverse.toArray) := by
    show _ ≤ sizeLine
    simpa using few
  have notWhole : ((((items.size : Int) - 1 : Int) == 0) && ((-1 : Int) == 1) && (items.size == items.size)) = false := by
    rw [show ((-1 : Int) == 1) = false by decide]
    simp
  show wpAny _ _ (Builtin.Tuple.tupleItemsOf (.ref t) >>= _) _ _ s
  refine wpAny_bind (tupleItemsOf_ ht (wpAny_bind (wpAny_typeOf key ?_)))
  rw [if_pos (by decide)]
  refine wpAny_bind (applied_rev hs ?_)
  show wpAny _ _ (if ((((items.size : Int) - 1 : Int) == 0) && ((-1 : Int) == 1) && (items.size == items.size)) = true then _ else _) _ _ s
  rw [notWhole, if_neg Bool.false_ne_true, pick_rev]
  have made := fun (M : Model) (B' : Around) (R : Value → Shared → Prop) (r : R _ _) => wpAny_newObj_type (M := M) (A := B') (E := E) (Q := R) (s := s) (T := "tuple") (dict := none) r fits
  refine wpAny_bind ?_
  first
    | exact made _ _ _ (wpAny_pure done)
    | exact wpAny_bind (made _ _ _ (wpAny_pure (wpAny_pure done)))
theorem tuple_back {t sl : Addr} {items : Array Value} {tk : Tok} {Q : Value → Shared → Prop} (ht : IsTup s.heap t items) (hs : s.heap.IsSliceOf sl .none .none (.int (-1) tk)) (few : items.size ≤ sizeLine)
    (done : Q (.ref s.heap.objs.size) { s with heap := s.heap.push { cls := .type "tuple", data := .seq items.toList.reverse.toArray } }) :
    wpAny (model prog w) A (getItem (.ref t) (.ref sl)) Q E s := by
  have own := ht.typeIs
  have road := PyProof.Rows.slot_tuple_getitem
  unfold getItem
  apply wpAny_holding
  apply wpAny_bind
  apply wpAny_sequenceKey own (by decide)
  apply wpAny_bind
  apply wpAny_callSpecial?_slot own road
  apply wpAny_call_entry road own entry_tuple_getitem _ (args_tuple_getitem _ _)
  exact back_body ht hs few ⟨_, rfl, wpAny_pure done⟩
end
section
variable {X : Cx}
/-- nothing but the part's number is told, and the heap stays -/
def Stays (H : Hp) (n : Option Int) : Option Int → Hp → Prop := fun m H' => m = n ∧ H' = H
/-- the key ::-1 -/
theorem key_back {pins : List (Addr × Obj)} {σ : L2.St} {H : Hp} {s : Shared} {k : Nat} {p1 p2 p3 : Pos} {R : Value → Shared → Prop} (I : Inv X pins σ H s)
    (h : ∀ s' sl tk, Inv X pins σ H s' → s'.heap.IsSliceOf sl .none .none (.int (-1) tk) → R (.ref sl) s') :
    wpAny (model X.prog X.w) X.A (eval (.Slice none none (some (.UnaryOp .USub (.Constant (.int 1) k p1) p2)) p3) X.env) R X.xe s := by
  have minus := po_some (X := X) (pe_un (pos := p2) un_neg (pe_int (i := 1) (j := k) (pos := p1)))
  apply wpAny_Slice
  refine thn (po_none.run pins s σ H (Stays H none) I ⟨rfl, rfl⟩) ?_
  rintro lo s1 ⟨_, _, I1, plo, rfl, rfl⟩
  cases plo
  refine thn (po_none.run pins s1 σ _ (Stays _ none) I1 ⟨rfl, rfl⟩) ?_
  rintro hi s2 ⟨_, _, I2, phi, rfl, rfl⟩
  cases phi
  refine thn (minus.run pins s2 σ _ (Stays _ (some (-1))) I2 ⟨1, rfl, -1, rfl, rfl, rfl⟩) ?_
  rintro st s3 ⟨_, _, I3, pst, rfl, rfl⟩
  cases pst
  rename_i tk
  exact h _ _ tk (I3.kept (t' := s3.toks) fun b ob q => Heap.get?_push_of_some _ q) (Heap.IsSliceOf.new _ .none .none (.int (-1) tk))
def tRevT (K : PySem.W.Frag) (te : TE) : TE := fun σ H Q => te σ H fun x H1 => ∃ a xs, x = .ref a ∧ SqT K H1 a xs ∧ ∀ p, H1 p = none → Q (.ref p) (upd H1 p (.tup xs.reverse))
theorem pe_revT {e : Expr} {te : TE} {k : Nat} {p1 p2 p3 pos : Pos} (he : PE X e te) :
    PE X (.Subscript e (.Slice none none (some (.UnaryOp .USub (.Constant (.int 1) k p1) p2)) p3) pos) (tRevT X.K te) := by
  constructor
  intro pins s σ H Q I h
  apply Subscript_
  refine thn (he.run pins s σ H _ I h) ?_
  rintro v s1 ⟨_, H1, I1, r1, a, xs, rfl, hx, q⟩
  cases r1
  apply key_back I1
  intro s2 sl tk J hsl
  obtain ⟨its, r, ht, hz⟩ := J.tuple hx
  have n := r.length
  refine tail_any (ops := [.ref a, .ref sl]) ht.typeIs PyProof.Rows.slot_tuple_getitem.lookup (tuple_back ht hsl (by simpa [← n] using hz) ?_) (by with_unfolding_all rfl)
  have room : xs.reverse.length ≤ sizeLine := by simpa using hz
  refine ⟨.ref s2.heap.objs.size, _, J.laid (t' := s2.toks) (o := .tup xs.reverse) (fun b ob q => Heap.get?_push_of_some _ q) (Nat.le_refl _) ?there, rfl, q _ (J.hok.fresh (Nat.le_refl _))⟩
  case there => exact ⟨room, its.toArray.toList.reverse, by simpa using r.reverse, _, Heap.get?_push_size _ rfl, rfl, 0, rfl⟩
end

/-! ### a def's promise, called in any surroundings -/
section
variable {X : Cx} {pins : List (Addr × Obj)} {σ : L2.St} {H : Hp} {s : Shared}
theorem run_at {CX : CXT} {A : Around} {k : Nat} {f : Addr} {fd : FuncData} {ps : List Str} {sp : Sp} {E : XK} {Q : VK} {us : List Value} {vs : List V} (F : FnOk X.prog X.w X.K X.mg X.base CX k f fd ps sp) (hr : Room k A)
    (e0 : Env0 X.prog X.w X.K X.mg X.base A X.stack s H) (hb : Binds X.K fd ps []) (hx : Passes CX X E) (I : Inv X pins σ H s) (r : Vals vs us) (h : sp vs H Q E) : wpAny (model X.prog X.w) A (call (.ref f) us) (EP X pins σ Q) X.xe s := by
  have hl : us.length = ps.length := r.length.symm.trans (F.len _ _ _ _ h)
  refine wpAny_call (codeAny_mono (F.run A X.stack s H ⟨us, []⟩ us vs Q E hr e0 (by
    have := hb s us I.kIn (by simpa using hl)
    simpa using this) r h) fun q s' hq => ?_)
  cases q with
  | error e => exact hx pins σ H s e s' I hq
  | ok fl =>
    cases fl with
    | ret w => exact I.after hq
    | next => exact False.elim hq
    | brk => exact False.elim hq
    | cont => exact False.elim hq

/-! ### len(o), o == p, o != p by own methods -/
/-- what an own method of a plain class promises at an object of this class -/
def rLenO (C : Addr) (sp : Sp) (E : XK) : List V → Hp → VK → Prop := fun xs H Q => ∃ a dx fs, xs = [.ref a] ∧ H a = some (.ins C dx fs) ∧ sp [.ref a] H (fun v H' => ∃ n : Int, v = .int n ∧ (0 ≤ n ∧ n < 2 ^ 63) ∧ Q (.int n) H') E
theorem call_lenOwn {CX : CXT} {C f : Addr} {k : Nat} {fd : FuncData} {ps : List Str} {sp : Sp} {E : XK} (hm : Meth X.K C "__len__" f) (F : FnOk X.prog X.w X.K X.mg X.base CX k f fd ps sp) (hr : Room (k + 1) X.A) (hb : Binds X.K fd ps []) (hx : Passes CX X E) :
    CallR X (.builtin "len") (rLenO C sp E) := by
  intro pins s σ H xs us Q I r h
  obtain ⟨a, dx, fs, rfl, ha, h⟩ := h
  obtain ⟨u, rfl, ru⟩ := vals1 r
  cases (show u = Value.ref a from ru)
  obtain ⟨mA, J, _⟩ := ins_get I.hok ha
  obtain ⟨od, J, _⟩ := J.look
  obtain ⟨m, hF⟩ := I.fr
  refine PySem.W.len_K hF I.ok.mod.kin J hm.at_ hm.fn (wpAny_mono (run_at F hr.in1 I.env0.in1 hb hx I r h) (fun v s' hv => ?_) fun _ _ x => x)
  obtain ⟨v', H', I', rv, n, ev, hn, q⟩ := hv
  subst ev
  obtain ⟨t, rfl⟩ := rv
  exact ⟨hn, .int n, H', I'.tok _, ⟨_, rfl⟩, q⟩
/-- what may stand on the other side: a value of a known type, no subclass -/
def Other (K : PySem.W.Frag) (C : Addr) (H : Hp) (y : V) : Prop := ∃ t, TyX K H y t ∧ PySem.W.notFirst K C t = true
theorem other_looks {C : Addr} {y : V} {u : Value} (I : Inv X pins σ H s) (r : RelV y u) (o : Other X.K C H y) : ∃ t, PySem.W.Looks (model X.prog X.w) s.heap (typeOf u) t ∧ PySem.W.notFirst X.K C t = true := by
  obtain ⟨t, ty, nf⟩ := o
  obtain ⟨P, Z, p, _⟩ := kit_of I r ty
  exact ⟨t, Z.ty _ _ I.kIn p, nf⟩
def rEqO (K : PySem.W.Frag) (C : Addr) (sp : Sp) (E : XK) : R2 := fun x y H Q => ∃ a dx fs, x = .ref a ∧ H a = some (.ins C dx fs) ∧ Other K C H y ∧ sp [.ref a, y] H (fun v H' => ∃ k, v = .bl k ∧ Q (.bl k) H') E
theorem op_eqOwn {CX : CXT} {C f : Addr} {k : Nat} {fd : FuncData} {ps : List Str} {sp : Sp} {E : XK} (hm : Meth X.K C "__eq__" f) (F : FnOk X.prog X.w X.K X.mg X.base CX k f fd ps sp) (hr : Room k X.A) (hb : Binds X.K fd ps []) (hx : Passes CX X E) :
    OpR X (compareOp .Eq) (rEqO X.K C sp E) := by
  intro pins s σ H x y v u Q I rx ry h
  obtain ⟨a, dx, fs, rfl, ha, oy, h⟩ := h
  cases (show v = Value.ref a from rx)
  obtain ⟨mA, J, _⟩ := ins_get I.hok ha
  obtain ⟨od, J, _⟩ := J.look
  obtain ⟨m, hF⟩ := I.fr
  obtain ⟨t, lt, nf⟩ := other_looks I ry oy
  show wpAny (model X.prog X.w) X.A (richCompare .Eq (.ref a) u) (EP X pins σ Q) X.xe s
  refine PySem.W.cmp_K (op := .Eq) hr.units0 hF I.ok.mod.kin J lt nf hm.at_ hm.fn (wpAny_mono (run_at F hr I.env0 hb hx I (us := [.ref a, u]) (vs := [.ref a, y]) (.cons rfl (.cons ry .nil)) h) (fun w' s' hv => ?_) fun _ _ x => x)
  obtain ⟨v', H', I', rv, k', ev, q⟩ := hv
  subst ev
  cases (show w' = Value.bool k' from rv)
  exact ⟨.bl k', H', I', rfl, q⟩
theorem bound_builtin {M : Model} {A : Around} {E : Value → Shared → Prop} {s : Shared} {K : PySem.W.Frag} {x C : Addr} {ox : Obj} {od : Option Obj} {name : Str} {id : String} {args : List Value} {Q : Option Value → Shared → Prop} (X : K.In s.heap) (I : PySem.W.InstAt s.heap x ox C od)
    (hs : PySem.W.findIn K (.ref C) name = some (some (.builtin id))) (hb : ∀ self, bindSpecial (.builtin id) self = pure (.builtin id, [self]))
    (h : wpAny M A (call (.builtin id) (.ref x :: args)) (fun v => Q (some v)) E s) : wpAny M A (callSpecialIfBound? (.ref x) name args) Q E s := by
  simp only [callSpecialIfBound?, bindSpecialIfBound?]
  refine wpAny_holding (wpAny_bind (wpAny_bind (wpAny_bind (I.type.here ((PySem.W.looks_findIn X hs).here ?_)))))
  simp only [hb]
  refine wpAny_bind (wpAny_askSetting (wpAny_ite ?_))
  have fin : wpAny M A (call (.builtin id) ([.ref x] ++ args) >>= fun v => pure (some v)) Q E s := wpAny_bind (wpAny_mono h (fun v s' h' => wpAny_pure h') fun _ _ h' => h')
  split
  · exact wpAny_bind (wpAny_pure (wpAny_pure fin))
  · exact wpAny_tryCatch (wpAny_bind (wpAny_pure (wpAny_pure fin)))
/-- object.__ne__ of an own class that has __eq__ alone -/
theorem ne_core {prog : Program} {w : World} {A : Around} {E : Value → Shared → Prop} {s : Shared} {K : PySem.W.Frag} {x C L f : Addr} {h_0 : Heap} {m : Str → Option Value} {ox : Obj} {od : Option Obj} {b tb : Value} {Q : Value → Shared → Prop}
    (hu : A.units + 1 < cLine) (F : Fr h_0 L s.heap m) (X_0 : K.In h_0) (I : PySem.W.InstAt s.heap x ox C od) (hb : PySem.W.Looks (model prog w) s.heap (typeOf b) tb) (hn : PySem.W.notFirst K C tb = true)
    (hne : PySem.W.findIn K (.ref C) "__ne__" = some (some (.builtin "object.__ne__"))) (heq : PySem.W.findIn K (.ref C) "__eq__" = some (some (.ref f))) (hf : PySem.W.isFn K (.ref f) = true) (hob : PySem.W.mroIn K C (.type "object") = some true)
    (h : wpAny (model prog w) A.in1 (call (.ref f) [.ref x, b]) (fun v s' => ∃ k, v = .bool k ∧ Q (.bool (!k)) s') E s) : wpAny (model prog w) A (richCompare .NotEq (.ref x) b) Q E s := by
  have X := X_0.keeps F.keep
  have entry : wpAny (model prog w) A.in1 (Builtin.«object.__ne__» ⟨[.ref x, b], []⟩) (fun f s' => ∃ k : Bool, f = .done (.ret (.bool k)) ∧ Q (.bool k) s') E s := by
    unfold Builtin.«object.__ne__»
    repeat (first
      | with_reducible refine wpAny_cRoomFor hu ?_
      | (refine wpAny_bind (m := callSpecialIfBound? (.ref x) (Str.ofString "__eq__") [b])
          (PySem.W.ifBound_K X I heq hf (wpAny_mono h (fun r s' hr => by
            obtain ⟨k, rfl, hq⟩ := hr
            repeat (first | exact ⟨_, rfl, hq⟩ | exact wpAny_pure ⟨_, rfl, hq⟩ | exact wpAny_truthy_bool ⟨_, rfl, hq⟩ | (refine wpAny_bind (m := truthy (.bool _)) (wpAny_truthy_bool ?_)) | wp_step)) fun _ _ e => e)))
      | wp_step)
  have sub : PySem.W.Looks (model prog w) s.heap (isInstance (.ref x) (.type "object")) true := I.type.andThen (PySem.W.looks_mroIn X hob)
  have S := PySem.F.cmp_object.ne
  have cl : wpAny (model prog w) A (call (.builtin "object.__ne__") [.ref x, b]) (fun v s' => ∃ k : Bool, v = .bool k ∧ Q (.bool k) s') E s := by
    refine wpAny_call (codeAny_call_builtin S.plain PySem.F.cmpEntry_ne (PySem.W.check_slot PySem.F.cmpKind_ne PySem.F.cmpSplit_ne sub (PySem.F.cmpArgs_ne _ _) (wpAny_mono entry (fun f s' hf' => ?_) fun _ _ e => e)))
    obtain ⟨k, rfl, hq⟩ := hf'
    exact ⟨k, rfl, hq⟩
  have one : wpAny (model prog w) A (tryCompare (.ref x) "__ne__" b) (fun r s' => ∃ k : Bool, r = some (.bool k) ∧ Q (.bool k) s') E s := by
    unfold tryCompare
    refine wpAny_bind (bound_builtin X I hne S.bind (wpAny_mono cl (fun v s' hv => ?_) fun _ _ e => e))
    obtain ⟨k, rfl, hq⟩ := hv
    exact wpAny_pure ⟨k, rfl, hq⟩
  unfold richCompare
  simp only [oneThing_ref]
  refine wpAny_holding (wpAny_bind (wpAny_cRoomFor (Nat.lt_of_succ_lt hu) ?_))
  refine wpAny_bind (I.type.here (wpAny_bind (hb.here ?_)))
  split
  · rename_i q
    have e : PySem.W.subIn K tb (.ref C) = some false := by
      rcases Bool.or_eq_true_iff.mp hn with e | e
      · rw [beq_iff_eq.mp e] at q; simp at q
      · exact beq_iff_eq.mp e
    refine wpAny_bind ((PySem.W.looks_subIn X e).here ?_)
    simp only [Bool.false_eq_true, if_false]
    refine wpAny_bind (wpAny_mono one (fun r s' z => ?_) fun _ _ e => e)
    obtain ⟨v, rfl, hq⟩ := z
    exact wpAny_pure hq
  · refine wpAny_bind (wpAny_pure ?_)
    simp only [Bool.false_eq_true, if_false]
    refine wpAny_bind (wpAny_mono one (fun r s' z => ?_) fun _ _ e => e)
    obtain ⟨v, rfl, hq⟩ := z
    exact wpAny_pure hq
def rNeO (K : PySem.W.Frag) (C : Addr) (sp : Sp) (E : XK) : R2 := fun x y H Q => ∃ a dx fs, x = .ref a ∧ H a = some (.ins C dx fs) ∧ Other K C H y ∧ sp [.ref a, y] H (fun v H' => ∃ k, v = .bl k ∧ Q (.bl (!k)) H') E
theorem op_neOwn {CX : CXT} {C f : Addr} {k : Nat} {fd : FuncData} {ps : List Str} {sp : Sp} {E : XK} (hm : Meth X.K C "__eq__" f) (hne : PySem.W.findIn X.K (.ref C) "__ne__" = some (some (.builtin "object.__ne__"))) (hob : PySem.W.mroIn X.K C (.type "object") = some true)
    (F : FnOk X.prog X.w X.K X.mg X.base CX k f fd ps sp) (hr : Room (k + 1) X.A) (hb : Binds X.K fd ps []) (hx : Passes CX X E) :
    OpR X (compareOp .NotEq) (rNeO X.K C sp E) := by
  intro pins s σ H x y v u Q I rx ry h
  obtain ⟨a, dx, fs, rfl, ha, oy, h⟩ := h
  cases (show v = Value.ref a from rx)
  obtain ⟨mA, J, _⟩ := ins_get I.hok ha
  obtain ⟨od, J, _⟩ := J.look
  obtain ⟨m, hF⟩ := I.fr
  obtain ⟨t, lt, nf⟩ := other_looks I ry oy
  show wpAny (model X.prog X.w) X.A (richCompare .NotEq (.ref a) u) (EP X pins σ Q) X.xe s
  refine ne_core (by have := hr.units; omega) hF I.ok.mod.kin J lt nf hne hm.at_ hm.fn hob (wpAny_mono (run_at F hr.in1 I.env0.in1 hb hx I (us := [.ref a, u]) (vs := [.ref a, y]) (.cons rfl (.cons ry .nil)) h) (fun w' s' hv => ?_) fun _ _ x => x)
  obtain ⟨v', H', I', rv, k', ev, q⟩ := hv
  subst ev
  cases (show w' = Value.bool k' from rv)
  exact ⟨k', rfl, .bl (!k'), H', I', rfl, q⟩
end
end RC
/-! ## Data as a whole: ints, lists, tuples; what == and < say of them -/
namespace RC
open PySem PySem.Spec PyProof.Rows L2
abbrev iv (ns : List Int) : List V := ns.map V.int
abbrev dI (ns : List Int) : PyData := .list (ns.map .int)
abbrev tI (ns : List Int) : PyData := .tuple (ns.map .int)
section
variable {K : PySem.W.Frag} {H : Hp} {a b : Addr} {ns ms : List Int}
theorem dpa_ints : ∀ ns : List Int, DpAll K H (iv ns) (ns.map .int)
  | [] => .nil
  | n :: ns => .cons (.int n) (dpa_ints ns)
theorem dp_ints (h : SqL K H a (iv ns)) : Dp K H (.ref a) (dI ns) := .lst h (dpa_ints ns)
theorem dp_tints (h : SqT K H a (iv ns)) : Dp K H (.ref a) (tI ns) := .tup h (dpa_ints ns)
theorem lay_ints : ∀ ns : List Int, PyData.canLayAll0 (ns.map .int) = true
  | [] => by simp [PyData.canLayAll0]
  | n :: ns => by simp [PyData.canLayAll0, PyData.canLay0, lay_ints ns]
theorem dep_ints : ∀ ns : List Int, PyData.depthAll (ns.map .int) = 0
  | [] => by simp [PyData.depthAll]
  | n :: ns => by simp [PyData.depthAll, PyData.depth, dep_ints ns]
theorem shaped_dI (ns : List Int) : SeqAt.shaped (dI ns) = true := by simp [SeqAt.shaped, PyData.canLay0, PyData.depth, lay_ints, dep_ints]
theorem shaped_tI (ns : List Int) : SeqAt.shaped (tI ns) = true := by simp [SeqAt.shaped, PyData.canLay0, PyData.depth, lay_ints, dep_ints]
theorem eqvAll_ints : ∀ ns ms : List Int, PyData.eqvAll (ns.map .int) (ms.map .int) = decide (ns = ms)
  | [], [] => by simp [PyData.eqvAll]
  | [], m :: ms => by simp [PyData.eqvAll]
  | n :: ns, [] => by simp [PyData.eqvAll]
  | n :: ns, m :: ms => by
    rw [List.map_cons, List.map_cons, PyData.eqvAll, eqvAll_ints ns ms, PyData.eqv]
    by_cases h : n = m
    · subst h
      simp
    · have e : (n == m) = false := by simpa using h
      rw [e, Bool.false_and, decide_eq_false]
      intro q
      exact h (List.cons.inj q).1
theorem eqv_dI (ns ms : List Int) : PyData.eqv (dI ns) (dI ms) = decide (ns = ms) := by rw [PyData.eqv, eqvAll_ints]
theorem eqv_tI (ns ms : List Int) : PyData.eqv (tI ns) (tI ms) = decide (ns = ms) := by rw [PyData.eqv, eqvAll_ints]
theorem r_eqD {x y : V} {d e : PyData} {Q : VK} (hx : Dp K H x d) (hy : Dp K H y e) (sd : SeqAt.shaped d = true) (se : SeqAt.shaped e = true) (h : Q (.bl (PyData.eqv d e)) H) : rEqD K x y H Q := ⟨d, e, hx, hy, sd, se, h⟩
theorem r_neD {x y : V} {d e : PyData} {Q : VK} (hx : Dp K H x d) (hy : Dp K H y e) (sd : SeqAt.shaped d = true) (se : SeqAt.shaped e = true) (h : Q (.bl (!PyData.eqv d e)) H) : rNeD K x y H Q := ⟨d, e, hx, hy, sd, se, h⟩
theorem r_eqI {Q : VK} (hx : SqL K H a (iv ns)) (hy : SqL K H b (iv ms)) (h : Q (.bl (decide (ns = ms))) H) : rEqD K (.ref a) (.ref b) H Q := r_eqD (dp_ints hx) (dp_ints hy) (shaped_dI _) (shaped_dI _) (by rw [eqv_dI]; exact h)
theorem r_neI {Q : VK} (hx : SqL K H a (iv ns)) (hy : SqL K H b (iv ms)) (h : Q (.bl (!decide (ns = ms))) H) : rNeD K (.ref a) (.ref b) H Q := r_neD (dp_ints hx) (dp_ints hy) (shaped_dI _) (shaped_dI _) (by rw [eqv_dI]; exact h)
theorem r_eqT {Q : VK} (hx : SqT K H a (iv ns)) (hy : SqT K H b (iv ms)) (h : Q (.bl (decide (ns = ms))) H) : rEqD K (.ref a) (.ref b) H Q := r_eqD (dp_tints hx) (dp_tints hy) (shaped_tI _) (shaped_tI _) (by rw [eqv_tI]; exact h)
theorem at_ints {j : Nat} {v : Int} (h : ns[j]? = some v) : atI (iv ns) (j : Int) = some (.int v) := atI_nat (by rw [List.getElem?_map, h]; rfl)
theorem at_ints_last {v : Int} (h : ns.getLast? = some v) : atI (iv ns) (-1) = some (.int v) := by
  have hne : ns ≠ [] := fun e => by rw [e] at h; cases h
  have e : iv ns = iv ns.dropLast ++ [V.int v] := by
    have h2 : ns.dropLast ++ [v] = ns := by
      have := List.dropLast_concat_getLast hne
      rw [List.getLast?_eq_some_getLast hne] at h
      rw [← Option.some.inj h]
      exact this
    show ns.map V.int = ns.dropLast.map V.int ++ [V.int v]
    rw [← h2]
    simp
  rw [e]
  exact atI_last _ _
end
end RC
/-! ## The head's facts, and what isinstance and != ask of own classes besides -/
namespace RC
open PySem PySem.Spec PyProof.Rows L2 He
/-- what isinstance and != ask of an own class -/
structure ClsX (K : PySem.W.Frag) (C : Addr) : Prop where
  ha : PySem.W.findIn K (.ref C) "__class__" = some (some (.builtin "object.__class__"))
  hn : PySem.W.specialIn K (.builtin "object.__class__") "__get__" = some (some (.builtin "getset_descriptor.__get__"))
  htk : PySem.W.takesIn K (.builtin "object.__class__") = some true
  hm : PySem.W.mroIn K C (.type "object") = some true
  ne : PySem.W.findIn K (.ref C) "__ne__" = some (some (.builtin "object.__ne__"))
def clsB (K : PySem.W.Frag) (x : Str) : Bool :=
  decide (PySem.W.findIn K (.ref (ga K x)) "__class__" = some (some (.builtin "object.__class__"))) && (decide (PySem.W.specialIn K (.builtin "object.__class__") "__get__" = some (some (.builtin "getset_descriptor.__get__"))) &&
    (decide (PySem.W.takesIn K (.builtin "object.__class__") = some true) && (decide (PySem.W.mroIn K (ga K x) (.type "object") = some true) && decide (PySem.W.findIn K (.ref (ga K x)) "__ne__" = some (some (.builtin "object.__ne__"))))))
theorem clsB_ok {K : PySem.W.Frag} {x : Str} (h : clsB K x = true) : ClsX K (ga K x) := by
  obtain ⟨h1, h⟩ := ba h
  obtain ⟨h2, h⟩ := ba h
  obtain ⟨h3, h⟩ := ba h
  obtain ⟨h4, h5⟩ := ba h
  exact ⟨of_decide_eq_true h1, of_decide_eq_true h2, of_decide_eq_true h3, of_decide_eq_true h4, of_decide_eq_true h5⟩
/-- a class by its name: a built-in, an own one -/
inductive Tn where
  | ty (n : String)
  | own (x : Str)
def Tn.v (K : PySem.W.Frag) : Tn → Value
  | .ty n => .type n
  | .own x => .ref (ga K x)
/-- isinstance's answer for a value of the class a, asked of b -/
structure Kq where
  a : Tn
  b : Tn
  r : Bool
def Kq.ok (K : PySem.W.Frag) (q : Kq) : Bool := decide (PySem.W.kitOne K (q.a.v K) (q.b.v K) = some q.r)
theorem kq_ok {K : PySem.W.Frag} {q : Kq} (h : q.ok K = true) : PySem.W.kitOne K (q.a.v K) (q.b.v K) = some q.r := of_decide_eq_true h
/-- is the class a told apart from, and no subclass of, the own class at x -/
structure Nf where
  x : Str
  t : Tn
def Nf.ok (K : PySem.W.Frag) (q : Nf) : Bool := PySem.W.notFirst K (ga K q.x) (q.t.v K)
abbrev AlR : Type := AlD × Bool
def obsR (fa : List Fa) (fn : List DefD) (cs : List Str) (ks : List Kq) (ns : List Nf) (K : PySem.W.Frag) : AlR := (obsD fa fn K, (cs.all fun x => clsB K x) && ((ks.all fun q => q.ok K) && ns.all fun q => q.ok K))
def valR (fn : List DefD) : AlR := (valD fn, true)
def SaysR (fa : List Fa) (fn : List DefD) (cs : List Str) (ks : List Kq) (ns : List Nf) (K : PySem.W.Frag) : Prop := obsR fa fn cs ks ns K = valR fn
def obsRG (n : Nat) (fa : List Fa) (fn : List DefD) (cs : List Str) (ks : List Kq) (ns : List Nf) (g : Addr → Option Obj) : AlR := obsR fa fn cs ks ns (frG g (asD g n))
def hookR (n : Nat) (fa : List Fa) (fn : List DefD) (cs : List Str) (ks : List Kq) (ns : List Nf) : PySem.W.Hook where
  α := AlR
  obs := fun s => obsRG n fa fn cs ks ns s.heap.get?
  val := fun _ => valR fn
  says := fun _ h => ∃ K : PySem.W.Frag, K.In h ∧ SaysR fa fn cs ks ns K
  of := fun _ _ e => ⟨_, frG_in, e⟩
  keeps := fun _ _ _ ⟨K, hK, c⟩ k => ⟨K, PySem.W.Frag.In.keeps hK k, c⟩
theorem obsRG_eq {n : Nat} {fa : List Fa} {fn : List DefD} {cs : List Str} {ks : List Kq} {ns : List Nf} {g : Addr → Option Obj} {s : Shared} (h : ∀ a, g a = s.heap.get? a) : obsRG n fa fn cs ks ns g = (hookR n fa fn cs ks ns).obs s := by
  have e : g = s.heap.get? := funext h
  rw [e] <;> rfl
section
variable {fa : List Fa} {fn : List DefD} {cs : List Str} {ks : List Kq} {ns : List Nf} {K : PySem.W.Frag}
theorem SaysR.d (c : SaysR fa fn cs ks ns K) : SaysD fa fn K := congrArg (fun z : AlR => z.1) c
theorem SaysR.ex (c : SaysR fa fn cs ks ns K) : ((cs.all fun x => clsB K x) && ((ks.all fun q => q.ok K) && ns.all fun q => q.ok K)) = true := congrArg (fun z : AlR => z.2) c
theorem SaysR.cls (c : SaysR fa fn cs ks ns K) (i : Nat) {x : Str} (h : cs[i]? = some x := by rfl) : ClsX K (ga K x) := clsB_ok (List.all_eq_true.mp (ba c.ex).1 x (List.mem_of_getElem? h))
theorem SaysR.kit (c : SaysR fa fn cs ks ns K) (i : Nat) {q : Kq} (h : ks[i]? = some q := by rfl) : PySem.W.kitOne K (q.a.v K) (q.b.v K) = some q.r := kq_ok (List.all_eq_true.mp (ba (ba c.ex).2).1 q (List.mem_of_getElem? h))
theorem SaysR.nf (c : SaysR fa fn cs ks ns K) (i : Nat) {q : Nf} (h : ns[i]? = some q := by rfl) : PySem.W.notFirst K (ga K q.x) (q.t.v K) = true := List.all_eq_true.mp (ba (ba c.ex).2).2 q (List.mem_of_getElem? h)
end
end RC
/-! ## Own errors: class X(ClerkError) with def __init__(self, value=None): super().__init__(value); self.value = value -/
namespace RC
open PySem PySem.Spec PyProof.Rows L2
open PySem.W PySem.Calls
abbrev vB : List Value := [.type "ValueError", .type "Exception", .type "BaseException", .type "object"]
def eAr (p1 p2 p3 : Pos) : Arguments := { posonlyargs := [], args := [{ arg := "self", annotation := none, pos := p1 }, { arg := "value", annotation := none, pos := p2 }], vararg := none, kwonlyargs := [], kw_defaults := [], kwarg := none, defaults := [.Constant .none 0 p3] }
def eBo (q1 q2 q3 q4 q5 q6 q7 q8 q9 q10 : Pos) : List Stmt := [.Expr (.Call (.Attribute (.Call (.Name "super" q1) [] [] q2) "__init__" q3) [.Name "value" q4] [] q5) q6, .Assign [.Attribute (.Name "self" q7) "value" q8] (.Name "value" q9) q10]
def eSc : Scope := { kind := .function, names := [(PySem.Str.ofString "self", .local), (PySem.Str.ofString "value", .local), (PySem.Str.ofString "__class__", .free), (PySem.Str.ofString "super", .globalImplicit)], isGenerator := false, isCoroutine := false, more := [] }
/-- what the written part says of the error class at C and its __init__ at fI -/
structure ErrC (P : Program) (K : Frag) (mg : Str → Option Value) (C fI : Addr) : Prop where
  ini : ∃ nm q N bs bm sn sub ab col dd k0 k1 k2 k3 k5, K.lookup C = some (excClassObj nm q C N bs bm true sn sub ab col dd k0 k1 k2 k3 k5 "ValueError.__new__") ∧ HandSPX.refsVE bm = true
  sa : findIn K (.ref C) "__setattr__" = some (some (.builtin "object.__setattr__"))
  ga : findIn K (.ref C) "__getattribute__" = some (some (.builtin "BaseException.__getattribute__"))
  gg : findIn K (.ref C) "__getattr__" = some none
  no : findIn K (.ref C) "value" = some none
  iC : findIn K (.ref C) "__init__" = some (some (.ref fI))
  tI : typeIn K (.ref fI) = some (.type "function")
  kC : keepIn K (.ref C) = true
  exC : subIn K (.ref C) (.type "BaseException") = some true
  veC : subIn K (.ref C) (.type "ValueError") = some true
  tyC : typeIn K (.ref C) = some (.type "type")
  hdC : hasDictIn K C = true
  mC : mroIn K C (.ref C) = some true
  eI : excInitIn K C vB "ValueError.__new__" = true
  sup : ks_superIn K C C "__init__" = some (some (.builtin "ValueError.__init__"))
  opq : nsIn K cStatics "thirdparty.any" = some none
  nsu : mg "super" = none
  top : (P.main.scope.names.lookup ("super" : Str)).isSome = false
  fn : ∃ (oc cl ccl : Value) (od cdd cld : Option Addr) (qual : Str) (dV kV doc pm ct : Value) (an : Option Addr) (osl ccs csl : Array (Option Value)) (cda cc : Addr) (vs : Array Value) (file : Str) (tf : Tok) (p1 p2 p3 q1 q2 q3 q4 q5 q6 q7 q8 q9 q10 : Pos),
    K.lookup fI = some ⟨oc, od, .func (ksFn "__init__" qual (eAr p1 p2 p3) (eBo q1 q2 q3 q4 q5 q6 q7 q8 q9 q10) eSc dV kV doc pm an (.ref cda) ct cc), osl⟩ ∧ codeIn K (.ref cda) qual = true ∧
      K.lookup cda = some ⟨ccl, cdd, .fields vs, ccs⟩ ∧ vs[2]? = some (.str file tf) ∧ ((P.main.file : Str) == file) = true ∧ K.lookup cc = some ⟨cl, cld, .cell (some (.ref C)), csl⟩ ∧
      (q3.endLine == q5.line) = true ∧ (∃ (Td : Addr) (o : Obj) (n : Nat), dV = .ref Td ∧ K.lookup Td = some o ∧ o.data = .seq #[.none] n)
/-- what stands beside the class table -/
structure Beside (mg : Str → Option Value) (h : Heap) : Prop where
  g : h.Ns mainGlobals mg
  b : ∃ mb, h.Ns builtinsNs mb ∧ ∀ x : Str, x ≠ "__name__" → mb x = bootBuiltins x
  lim : h.NoLimit
/-- an error made: at e, its dict at d -/
structure ErrMade (h h' : Heap) (e C d : Addr) (v : Value) : Prop where
  keep : ∀ b o, h.get? b = some o → h'.get? b = some o
  new : h.objs.size ≤ e
  obj : ∃ oe vs, h'.get? e = some oe ∧ oe.cls = .ref C ∧ oe.dict = some d ∧ oe.data = .fields vs ∧ vs[1]? = some .none
  dbig : h.objs.size ≤ d
  dne : d ≠ e
  ns : h'.Ns1 d (fun y => if y = "value" then some v else none)
theorem ld_loc {M : Model} {A : Around} {E : Value → Shared → Prop} {s : Shared} {env : Env} {m : Str → Option Value} {x : Str} {pos : Pos} {v : Value} {Q : Value → Shared → Prop} (hn : s.heap.Ns env.locals m) (hv : m x = some v) (h : Q v s)
    (hk : env.scope.kind = .function := by rfl) (hl : env.kindOf x = some .local := by rfl) (hd : (x == ("__debug__" : Str)) = false := by decide) : wpAny M A (eval (.Name x pos) env) Q E s :=
  wpAny_Name (wpAny_loadName_local hk hl hn hv h) hd
theorem meth_pos {o : Expr} {env : Env} {apos pos : Pos} (h : (apos.endLine == pos.line) = true) : methodCallPos true o env apos pos = pure pos := by
  unfold methodCallPos
  rw [if_pos (by rw [h]; rfl)]
theorem meth_eval {o e : Expr} {name : Str} {apos pos : Pos} {env : Env} (h : (apos.endLine == pos.line) = true) (hst : starEach [e] env = [(false, eval e env)]) : eval (.Call (.Attribute o name apos) [e] [] pos) env = (do
    let ov ← attributeBase o name env (eval o env)
    standAt apos.atName
    let (f, first) ← holding [ov] (getMethod ov name (do return (← importBound o env).getD true))
    callWith pos f first (backTo pos (starEach [e] env)) []) := by
  rw [arm_eval_Call]
  congr 1
  funext ov
  congr 1
  funext _
  unfold methodCall
  have hf : methodCallForm ([e].length + ([] : List Keyword).length) (backTo pos (starEach [e] env)) (backToKw pos (keywordEach [] env)) = true := by
    rw [hst]
    rfl
  rw [hf]
  unfold calleeOf
  rw [if_pos rfl]
  simp only [meth_pos h, pure_bind]
  rfl
section
variable {prog : Program} {w : World} {A : Around} {E : Value → Shared → Prop} {R : Result → Shared → Prop} {s : Shared} {K : Frag} {mg : Str → Option Value} {C fI : Addr}
/-- the body of __init__, behind the entry: x the new error -/
theorem err_init (T : ErrC prog K mg C fI) {h0 : Heap} {x t0 : Addr} {v : Value} (X : K.In h0) (G : Beside mg h0) (k0 : ∀ b o, h0.get? b = some o → s.heap.get? b = some o) (hx : s.heap.get? x = some (excObj C t0 none .none)) (nx : h0.get? x = none) (hz : h0.objs.size ≤ s.heap.objs.size) (hroom : A.depth < recursionLimit)
    (hq : ∀ h' tk dx t1, (∀ b o, h0.get? b = some o → h'.get? b = some o) → h'.get? x = some { cls := .ref C, dict := some dx, data := .fields #[.ref t1, .none, .none, .none, .bool false, .none] } → h0.objs.size ≤ dx → dx ≠ x → h'.Ns1 dx (fun y => if y = "value" then some v else none) → R (.ok (.ret .none)) { s with heap := h', toks := tk }) :
    codeAny (model prog w) A (.call (.ref fI) ⟨[.ref x, v], []⟩) R s := by
  obtain ⟨oc, cl, ccl, od, cdd, cld, qual, dV, kV, doc, pm, ct, an, osl, ccs, csl, cda, cc, vs, file, tf, p1, p2, p3, q1, q2, q3, q4, q5, q6, q7, q8, q9, q10, ho, hcd, hcode, hvs, hfile, hcell, hpos, Td, oT, nT, rfl, hT, hTd⟩ := T.fn
  obtain ⟨nm, q, N, bs, bm, sn, sub, ab, col, dd, k0', k1, k2, k3, k5, hC, hbm⟩ := T.ini
  have hcl : clsIn K C = some { name := nm, bases := bs, mro := .ref C :: bm, ns := N, qualname := q, hasDict := true, slotNames := sn, subclasses := sub, abstract := ab, collection := col, hasDel := false } := by unfold clsIn; rw [hC] <;> rfl
  have Xs : K.In s.heap := X.keeps k0
  have hbd : BindsTo s (ksFn "__init__" qual (eAr p1 p2 p3) (eBo q1 q2 q3 q4 q5 q6 q7 q8 q9 q10) eSc (.ref Td) kV doc pm an (.ref cda) ct cc) ⟨[.ref x, v], []⟩ [("self", .ref x), ("value", v)] := BindsTo.of_defaults (T := Td) rfl (Xs _ _ hT) hTd rfl rfl
  have hcells : ∀ y ∈ eSc.names, y.2 ≠ .cell := by decide
  have hlocs : ∀ y ∈ [(("self" : Str), Value.ref x), (("value" : Str), v)], eSc.names.lookup y.1 = some .local := fun y hy => by
    rcases List.mem_cons.mp hy with rfl | hy
    · rfl
    · obtain rfl := List.mem_singleton.mp hy
      rfl
  refine ks_codeAny_call_defAt (body := eBo q1 q2 q3 q4 q5 q6 q7 q8 q9 q10) (binds := [("self", .ref x), ("value", v)]) hroom (Xs _ _ ho) rfl (G.lim.keeps k0) (codeRec_of Xs hcd) rfl hbd hcells hlocs (fun h1 hn1 kk => ?_)
  have hxL : s.heap.objs.size ≠ x := Nat.ne_of_gt (Heap.lt_size hx)
  have F1 : Fr h0 s.heap.objs.size h1 (fun y => List.lookup y [(("value" : Str), v), (("self" : Str), .ref x)]) := ⟨hn1, fun b o e => kk b o (k0 b o e), hz⟩
  have N1 : News h0 s.heap.objs.size h1 [(x, excObj C t0 none .none)] := fun p hp => by
    obtain rfl := List.mem_singleton.mp hp
    exact ⟨kk _ _ hx, hxL.symm, nx⟩
  generalize hL : s.heap.objs.size = L at F1 N1 hxL ⊢
  show _root_.PySem.wpAt (model prog w) (A.deeper (ksEnv qual eSc L fI (.ref cda) cc)) (.func (eBo q1 q2 q3 q4 q5 q6 q7 q8 q9 q10) (ksEnv qual eSc L fI (.ref cda) cc)) (execs (eBo q1 q2 q3 q4 q5 q6 q7 q8 q9 q10) (ksEnv qual eSc L fI (.ref cda) cc)) _ _ _
  refine ks_wpAt_execs_cons (ks_wpAt_Expr_any (ks_wpAt_MethodCall (he := meth_eval hpos rfl) ?_))
  have X1 : K.In h1 := X.keeps F1.keep
  obtain ⟨mb, hb1, hb2⟩ := G.b
  obtain ⟨oD, hD1, hD2⟩ : ∃ oD, h1.get? C = some oD ∧ ∃ cd, oD.data = .cls cd := ⟨_, X1 _ _ hC, _, rfl⟩
  obtain ⟨cdD, hD2⟩ := hD2
  refine ks_wpAt_super_base (env := ksEnv qual eSc L fI (.ref cda) cc) (f := fI) (cc := cda) rfl rfl (by decide) rfl (X1 _ _ ho) rfl rfl rfl (X1 _ _ hcode) rfl hvs hfile T.top ?_
  refine ks_loadName_global rfl rfl (loadGlobal_builtin (env := ksEnv qual eSc L fI (.ref cda) cc) (G.g.keeps F1.keep) T.nsu (hb1.keeps F1.keep) ((hb2 _ (by decide +kernel)).trans (by first | boot_by_name | rfl | kernel_rfl)) ⟨rfl, ?_⟩)
  refine wpAny_loadName_free rfl rfl rfl ⟨_, X1 _ _ hcell, rfl⟩ ?_
  refine wpAny_loadName_local (v := .ref x) rfl rfl F1.ns (by first | rfl | with_unfolding_all rfl | kernel_rfl) ?_
  refine ks_wpAny_isType_cls hD1 hD2 ⟨rfl, ?_⟩
  refine ks_wpAny_call_super hD1 hD2 (N1 _ List.mem_cons_self).1 rfl (fun c e => by cases e) (looks_mroIn X1 T.mC) (fun h2 e2 k2 => ?_)
  obtain ⟨F2, N2, l2⟩ := ks_newsPush (s := ⟨h1, s.gens, s.drawn, s.toks + 2, s.os⟩) F1 N1 rfl e2 k2
  refine kxs_method kxs_ValueError F2 X N2 (D := C) (x := x) (C := C) List.mem_cons_self (InstAt.of_exc0 N2 (List.mem_cons_of_mem _ List.mem_cons_self)) T.opq T.sup T.veC (by decide) (fun u h3 F3 N3 l3 => ?_)
  refine kxs_callWith1 (i := "ValueError.__init__") (x := x) N3 List.mem_cons_self ?_
  refine spliced_cons (ld_loc (v := v) F3.ns (by first | rfl | with_unfolding_all rfl | kernel_rfl) (spliced_nil ⟨kxs_at N3 List.mem_cons_self, ?_⟩))
  have ux : u ≠ x := fun z => by
    have := l3 (x, excObj C t0 none .none) (List.mem_cons_of_mem _ List.mem_cons_self)
    rw [z] at this
    exact absurd this (Nat.lt_irrefl _)
  have sx : h1.objs.size ≠ x := Nat.ne_of_gt (Heap.lt_size (N1 _ List.mem_cons_self).1)
  refine kxs_call (dv := none) (c2 := .none) F3 X N3 PySem.F.excBase_ValueError T.eI List.mem_cons_self (.tail ux (.tail sx (.head fun _ z => (nomatch z)))) (by show 1 ≤ sizeLine; decide) (fun t1 h4 F4 N4 l4 => ?_)
  show _root_.PySem.wpAt _ _ _ (execs _ _) _ _ _
  refine wpAt_of_wpAny (wpAny_execs_cons (plainObj_wpAny_Assign_Attribute ?_))
  refine ld_loc (v := v) F4.ns (by first | rfl | with_unfolding_all rfl | kernel_rfl) (ld_loc (v := .ref x) F4.ns (by first | rfl | with_unfolding_all rfl | kernel_rfl) ?_)
  have hx4 : h4.get? x = some (excObj C t1 none .none) := (N4 (x, excObj C t1 none .none) (.tail _ (.tail _ (.tail _ (.head _))))).1
  have X4 : K.In h4 := X.keeps F4.keep
  refine set_plain X4 (ox := excObj C t1 none .none) (od := none) ⟨hx4, rfl, rfl, trivial⟩ T.sa ?_
  refine HandSPX.exc_osa X4 hx4 hcl (show HandSPX.refsVE (.ref C :: bm) = true from hbm) rfl T.no (fun h5 tk5 dx k5 dn dne hx5 hn5 => ?_)
  show wpAny _ _ (execs _ _) _ _ _
  have z : L < h4.objs.size := F4.ns.lt
  have hz' : h0.objs.size ≤ dx := Nat.le_trans F4.above (Nat.le_trans (Nat.le_of_lt z) dn)
  exact wpAny_execs_nil (hq h5 tk5 dx t1 (fun b o e => k5 b o (fun y => by rw [y, nx] at e; cases e) (F4.keep b o e)) hx5 hz' dne hn5)
/-- X(v): the error made -/
theorem err_made (T : ErrC prog K mg C fI) {v : Value} (X : K.In s.heap) (G : Beside mg s.heap) (hroom : A.depth + 1 < recursionLimit)
    (hq : ∀ h' tk e d, ErrMade s.heap h' e C d v → R (.ok (.ret (.ref e))) { s with heap := h', toks := tk }) :
    codeAny (model prog w) A (.call (.ref C) ⟨[v], []⟩) R s := by
  obtain ⟨nm, q, N, bs, bm, sn, sub, ab, col, dd, k0, k1, k2, k3, k5, hC, hbm⟩ := T.ini
  obtain ⟨hp, g, dr, tk, os⟩ := s
  have k : ∀ b o, hp.get? b = some o → ((hp.push (kdv_tup [v])).push (HandSPX.excO C hp.objs.size)).get? b = some o := fun b o e => Heap.get?_push_of_some _ (Heap.get?_push_of_some _ e)
  have hget : ((hp.push (kdv_tup [v])).push (HandSPX.excO C hp.objs.size)).get? (hp.objs.size + 1) = some (HandSPX.excO C hp.objs.size) := by heap_get
  have hnx : hp.get? (hp.objs.size + 1) = none := by
    cases e : hp.get? (hp.objs.size + 1) with
    | none => rfl
    | some o => exact absurd (Nat.lt_of_succ_lt (Heap.lt_size e)) (Nat.lt_irrefl _)
  refine HandSPX.call_own F.excBase_ValueError (fun Y => HandSPX.refsVE_contains Y bm hbm) (X _ _ hC) (looks_findIn X T.iC) (fun self => bind_fn X self T.tI) (by show 1 ≤ sizeLine; decide) ?_
  refine err_init (s := ⟨(hp.push (kdv_tup [v])).push (HandSPX.excO C hp.objs.size), g, dr, tk, os⟩) (h0 := hp) T X G k hget hnx (by rw [Heap.size_push, Heap.size_push]; omega) (by show A.depth + 1 < recursionLimit; exact hroom) fun h' tk' dx t1 k' hx dn dne hns => ?_
  exact ⟨rfl, hq h' tk' (hp.objs.size + 1) dx ⟨k', Nat.le_succ _, ⟨_, _, hx, rfl, rfl, rfl, rfl⟩, dn, dne, hns⟩⟩
end
end RC
/-! ## Errors raised, caught, kept under another name; their field; isinstance of them -/
namespace RC
open PySem PySem.Spec PyProof.Rows L2
open PySem.W (Frag)
abbrev valS : Str := "value"
theorem rel_val {v : V} {v' : Value} (r : RelV v v') (f : Str) : RelO (List.lookup f [(valS, v)]) (if f = "value" then some v' else none) := by
  by_cases hw : f = "value"
  · subst hw
    rw [if_pos rfl]
    have q : List.lookup valS [(valS, v)] = some v := by simp [List.lookup]
    rw [q]
    exact r
  · rw [if_neg hw]
    have qw : (f == valS) = false := by simpa using hw
    have q2 : List.lookup f [(valS, v)] = none := by simp [List.lookup, qw]
    rw [q2]
    trivial
theorem Beside.of {X : Cx} {pins : List (Addr × Obj)} {σ : L2.St} {H : Hp} {s : Shared} (I : Inv X pins σ H s) : Beside X.mg s.heap := by
  obtain ⟨mb, h1, h2⟩ := I.ok.mod.blt
  exact ⟨I.ok.mod.glob.keeps I.bk, ⟨mb, h1.keeps I.bk, h2⟩, I.nolimit⟩
section
variable {X : Cx} {C fI : Addr}
/-- X(e), to be raised -/
def tMkErr (C : Addr) (ta : TA) : L2.St → Hp → XK → Prop := fun σ H Q => ta σ H fun vs H1 => ∃ v, vs = [v] ∧ ∀ d, H1 d = none → Q (.ref C) (some d) (upd H1 d (.xd [(valS, v)]))
theorem pmk_err {x : Str} {a : Expr} {ta : TA} {p pos : Pos} {k : Nat} (T : ErrC X.prog X.K X.mg C fI) (hm : X.mg x = some (.ref C)) (hr : Room k X.A) (ha : PA X [a] ta) (hg : Gl X x := by rfl) (hdb : (x == ("__debug__" : Str)) = false := by decide)
    (he : starEach (a :: []) X.env = (false, eval a X.env) :: starEach [] X.env := by rfl) (hpl : (backTo pos (starEach [] X.env)).any (·.1) = false := by rfl) : PMk X (.Call (.Name x p) [a] [] pos) (tMkErr C ta) := by
  intro pins s σ H Q I h
  refine wpAny_Call_Name_kw (ld_glob I hg hm ?_ hdb)
  refine PySem.W.callWith_K (h₀ := X.base) I.ok.mod.kin T.kC (thn (ha.run pos pins s σ H _ I h) fun us s1 hh => ?_) he hpl
  obtain ⟨vs, H1, I1, r1, v, ev, q1⟩ := hh
  subst ev
  refine ⟨I1.kIn, ?_⟩
  cases r1 with
  | cons rv rn =>
    rename_i v' us'
    cases rn
    show wpAny _ _ (call (.ref C) [v']) _ _ _
    have B1 := Beside.of I1
    obtain ⟨hp, g, dr, tk, os⟩ := s1
    refine wpAny_call (err_made T I1.kIn B1 (by have := hr.dp; omega) fun h' tk' e d M => ?_)
    show MkP X pins σ Q (.ref e) ⟨h', g, dr, tk', os⟩
    obtain ⟨oe, fv, hoe, hc, hd, hdat, h1⟩ := M.obj
    have hns := M.ns
    obtain ⟨G', g1, g2⟩ := restrict h' fun b => decide (b ≠ e)
    have gk : ∀ b, b ≠ e → G'.get? b = h'.get? b := fun b hb => g1 b (decide_eq_true hb)
    have ge : G'.get? e = none := g2 e (by simp)
    have old : ∀ b o, hp.get? b = some o → G'.get? b = some o := fun b o q => (gk b (Nat.ne_of_lt (Nat.lt_of_lt_of_le (Heap.lt_size q) M.new))).trans (M.keep b o q)
    have ob : ObjOk X.prog X.w (upd H1 d (.xd [(valS, v)])) G' d (.xd [(valS, v)]) := ⟨_, hns.at (fun o q => (gk d M.dne).trans q), fun f => rel_val rv f⟩
    have J : Inv X pins σ (upd H1 d (.xd [(valS, v)])) ⟨G', g, dr, tk', os⟩ := I1.laid (t' := tk') old M.dbig ob
    refine ⟨e, oe, fv, ⟨G', g, dr, tk', os⟩, _, .ref C, some d, rfl, J, fun b o q => ?_, ge, hoe, ⟨hc, hd⟩, hdat, h1, ?_, rfl, I1.bare, raises_own T.exC T.tyC, q1 d (I1.hok.fresh M.dbig)⟩
    · by_cases hb : b = e
      · have q' : G'.get? b = some o := q
        rw [hb, ge] at q'
        cases q'
      · exact (gk b hb).symm.trans q
    · rw [upd_ne (Ne.symm M.dne)]
      exact I1.hok.fresh M.new
def tRaiseE (C : Addr) (W : WX) (ta : TA) : TS := fun _ σ H => tMkErr C ta σ H fun cls d H' => W cls d σ H'
theorem ps_raiseE {x : Str} {a : Expr} {ta : TA} {W : WX} {p pos pos2 : Pos} {k : Nat} (hc : X.calm = true) (T : ErrC X.prog X.K X.mg C fI) (hm : X.mg x = some (.ref C)) (hr : Room k X.A) (tk : Takes X W) (ha : PA X [a] ta) (hg : Gl X x := by rfl) (hdb : (x == ("__debug__" : Str)) = false := by decide)
    (he : starEach (a :: []) X.env = (false, eval a X.env) :: starEach [] X.env := by rfl) (hpl : (backTo pos (starEach [] X.env)).any (·.1) = false := by rfl) :
    PS X (.Raise (some (.Call (.Name x p) [a] [] pos)) none pos2) (tRaiseE C W ta) := ps_raise hc tk (pmk_err T hm hr ha hg hdb he hpl)
/-! ### an error that is kept -/
/-- an exception's object of the class cls with the dict d, behind its flight, at a -/
def ErrO (cls : Value) (d : Option Addr) (a : Addr) : HO := .ext fun h => ∃ (oe : Obj) (vs : Array Value), h.get? a = some oe ∧ Zc cls d oe ∧ oe.data = .fields vs
theorem errO_ok {P : Program} {w : World} {H : Hp} {h : Heap} {a : Addr} {cls : Value} {d : Option Addr} {oe : Obj} {vs : Array Value} (e : h.get? a = some oe) (z : Zc cls d oe) (dt : oe.data = .fields vs) : ObjOk P w H h a (ErrO cls d a) :=
  ⟨⟨oe, vs, e, z, dt⟩, ⟨oe, e⟩, fun _ _ ⟨o, v, q, r⟩ k => ⟨o, v, k o q, r⟩⟩
/-- an object that isn't tracked yet, made behind the entry, is tracked from here on -/
theorem Inv.adopt {pins : List (Addr × Obj)} {σ : L2.St} {H : Hp} {s : Shared} {a : Addr} {o : HO} (I : Inv X pins σ H s) (hn : H a = none) (n0 : X.s_0.heap.get? a = none) (nL : a ≠ X.env.locals) (nC : ∀ x c, X.env.cells.lookup x = some c → c ≠ a) (nP : ∀ p ∈ X.pn ++ pins, p.1 ≠ a)
    (new : ObjOk X.prog X.w (upd H a o) s.heap a o) : Inv X pins σ (upd H a o) s := by
  have ne0 : ∀ {b : Addr} {u : Obj}, X.s_0.heap.get? b = some u → b ≠ a := fun {b u} e z => by
    rw [z, n0] at e
    cases e
  have neH : ∀ {b : Addr} {u : HO}, H b = some u → b ≠ a := fun {b u} e z => by
    rw [z, hn] at e
    cases e
  refine ⟨I.ok, I.os, I.bare, ⟨I.base.keep, I.base.slot, fun b u e n x => ?_, I.base.there, fun b xs e => ?_, fun b u v e => ?_, fun b ps e => ?_⟩, I.loc, I.cell, ?_, fun x c e => ?_, fun p hp => ?_, I.hok.laidN (fun _ _ q => q) hn new, I.len⟩
  · rw [upd_ne (ne0 e)]
    exact I.base.free b u e n x
  · have q := I.base.tups b xs e
    rw [upd_ne (neH q)]
    exact q
  · have q := I.base.frzs b u v e
    rw [upd_ne (neH q)]
    exact q
  · obtain ⟨m, q⟩ := I.base.tbls b ps e
    exact ⟨m, by rw [upd_ne (neH q)]; exact q⟩
  · rw [upd_ne nL.symm]
    exact I.free
  · rw [upd_ne (nC x c e)]
    exact I.freeC x c e
  · obtain ⟨q1, q2, q3⟩ := I.pin p hp
    exact ⟨q1, by rw [upd_ne (nP p hp)]; exact q2, q3⟩
/-- the wish: what is caught is of the clause's class, and kept in the slot j -/
def wKeep (K : Frag) (c : Value) (i j : Nat) (D : Ends) : WX := fun cls d σ H => PySem.W.exmOne K cls c = some true ∧ ∀ a, H a = none → D.nx (((σ.set i (some (.ref a))).set j (some (.ref a))).set i none) (upd H a (ErrO cls d a))
/-- try: body, except x as n: y = n -/
theorem ps_keep {x n y : Str} {c : Value} {i j : Nat} {body : List Stmt} {np p1 p2 p3 pos pos' : Pos} {tb : WX → TS} (hs : X.stack = X.env :: X.outer) (hf : X.env.frame = some X.env.locals) (hx : X.ex = []) (hN : X.N.Nodup) (hi : X.N[i]? = some n) (hj : X.N[j]? = some y) (hij : i ≠ j) (hln : X.env.kindOf n = some .local) (hly : X.env.kindOf y = some .local)
    (hc : Names X x c) (hd1 : (n == ("__debug__" : Str)) = false) (hd2 : (n == ("__classdict__" : Str)) = false) (hsw : swapsWith (.Name n p2) (some (.Name y p1)) p3.line X.env = pure false)
    (hb : ∀ (W : WX) (pn : List (Addr × Obj)) (xe : Value → Shared → Prop), Takes (X.tr pn xe) W → PassesOwn (model X.prog X.w) X.A X.env xe → PSs (X.tr pn xe) body (tb W)) :
    PS X (.Try body [.ExceptHandler (some (.Name x np)) (some n) [.Assign [.Name y p1] (.Name n p2) p3] pos'] [] [] pos) (fun D σ H => tb (wKeep X.K c i j D) D σ H) := by
  refine ⟨fun pins s σ H D I h => wpAny_Try_except ?_⟩
  have ok := I.ok
  have fr : X.A.frames = some (X.env :: X.outer) := by rw [ok.frames, hs]
  -- the body, its ways out
  refine wpAny_mono ((hb (wKeep X.K c i j D) (X.pn ++ pins) _ (fun u st air => ?_) PassesOwn.looking).run [] s σ H D (I.toTry _) h) (fun fl st hfl => ?_) (fun _ _ z => z)
  · obtain ⟨a, B, sA, ps, σA, HA, cls, d, rfl, JA, gB, upA, sky, nA, osA, bareA, hm, hk⟩ := air
    have JB : Inv X pins σA HA sA := JA.ofTry ok
    rw [hs] at sky
    refine Sky.land Zc.steady fr hf sky fun hL fly upL => ?_
    obtain ⟨oL, vL, eL, zL, dL⟩ := fly.there
    have away : a ∉ frs (X.env :: X.outer) := fun q => by
      obtain ⟨_, o', e', nd⟩ := fly.2.2.1.mem q
      rw [eL] at e'
      cases e'
      exact nd _ dL
    have nL : a ≠ X.env.locals := fun z => away (List.mem_filterMap.mpr ⟨X.env, List.mem_cons_self, by rw [hf, z]⟩)
    have nF : a ∉ X.fs := fun q => by
      obtain ⟨e, he, q⟩ := List.mem_filterMap.mp q
      exact away (List.mem_filterMap.mpr ⟨e, List.mem_cons_of_mem _ he, q⟩)
    have gone : sA.heap.get? a = none := by
      cases e : sA.heap.get? a with
      | none => rfl
      | some o =>
        have z := gB a o e (by rw [hs]; exact away)
        rw [fly.2.1] at z
        cases z
    have n0 : X.s_0.heap.get? a = none := by
      cases e : X.s_0.heap.get? a with
      | none => rfl
      | some o =>
        obtain ⟨o', z⟩ := JB.base.there a o e (by rw [hx]; exact fun z => nomatch z)
        rw [gone] at z
        cases z
    have nC : ∀ x c, X.env.cells.lookup x = some c → c ≠ a := fun x c e z => by
      obtain ⟨v, o, q, _⟩ := JB.cell x c e
      rw [z, gone] at q
      cases q
    have nP : ∀ p ∈ X.pn ++ pins, p.1 ≠ a := fun p hp z => by
      have q := (JB.pin p hp).1
      rw [z, gone] at q
      cases q
    have JL : Inv X pins σA HA { st with heap := hL } := JB.landed gB fly.1 (upA.trans upL) osA bareA
    have SL := JL.suite eL dL nA nL nF
    refine wpAny_handleBy_cons (codeAny_handlers_test ?_) (by intro q; cases q)
    have ask : ∀ {Q : Value → Shared → Prop} {E : Value → Shared → Prop}, Q c { st with heap := hL } → wpAny (model X.prog X.w) (X.A.mark (some (.ref a))) (eval (.Name x np) X.env) Q E { st with heap := hL } := fun {Q E} q => by
      obtain ⟨hg, hdb, e | ⟨e, hv, hne⟩⟩ := hc
      · exact ld_glob (X := X.suite a ((a, oL) :: (X.pn ++ pins))) SL hg e q hdb
      · exact ld_blt (X := X.suite a ((a, oL) :: (X.pn ++ pins))) SL hg e hv q hne hdb
    have isC : PySem.W.Looks (model X.prog X.w) hL (typeOf (.ref a)) cls := fun A Q E s k q => wpAny_typeOf_ref (k _ _ eL) (by rw [zL.1]; exact q)
    refine ask ((PySem.W.exm_one (M := model X.prog X.w) JL.kIn isC hm).here ?_)
    refine codeAny_handlers_suite_as ?_
    refine HandSPX.lands_againZ fly fun hM flyM upM => ?_
    have JM : Inv X pins σA HA { st with heap := hM } := JB.landed gB flyM.1 ((upA.trans upL).trans upM) osA bareA
    obtain ⟨oM, vM, eM, zM, dM⟩ := flyM.there
    refine store_ok (X := X.suite a ((a, oM) :: (X.pn ++ pins))) (v := .ref a) (JM.suite eM dM nA nL nF) hN hi (.inl hln) rfl (fun s5 S5 => ?_) (.inr hln)
    have one : PSs (X.suite a ((a, oM) :: (X.pn ++ pins))) [.Assign [.Name y p1] (.Name n p2) p3] (tAsg (tVar i) (gName j)) := pss_one (ps_set (X := X.suite a ((a, oM) :: (X.pn ++ pins))) hN hj (.inl hly) (pe_var hi (.inl hln) hd1 hd2) hsw (.inr hly))
    have li : i < σA.length := by
      rw [JM.len]
      exact (List.getElem?_eq_some_iff.mp hi).1
    refine wpAny_mono (one.run [] s5 _ HA { nx := fun σ' H' => σ' = (σA.set i (some (.ref a))).set j (some (.ref a)) ∧ H' = HA, rt := fun _ _ => False } S5 ⟨.ref a, by rw [List.getElem?_set_self li], rfl, rfl⟩) (fun fl s6 hfl => ?_) fun _ _ z => False.elim z
    cases fl with
    | next =>
      obtain ⟨σ6, H6, S6, e1, e2⟩ := hfl
      subst e1 e2
      obtain ⟨q1, _⟩ := S6.pin (a, oM) (List.mem_append_left _ List.mem_cons_self)
      have K6 : Inv X pins _ (upd H6 a (ErrO cls d a)) s6 := Inv.adopt (S6.unsuite ok) nA n0 nL nC nP (errO_ok q1 zM dM)
      exact gone_ok K6 hN hi hln fun s7 J7 => ⟨_, _, J7, hk a nA⟩
    | brk =>
      obtain ⟨_, _, _, z⟩ := hfl
      exact z.elim
    | cont =>
      obtain ⟨_, _, _, z⟩ := hfl
      exact z.elim
    | ret u =>
      obtain ⟨_, _, _, _, _, z⟩ := hfl
      exact z.elim
  · cases fl with
    | next =>
      obtain ⟨σ', H', J', q⟩ := hfl
      exact wpAny_execs_nil ⟨σ', H', J'.ofTry ok, q⟩
    | brk =>
      obtain ⟨σ', H', J', q⟩ := hfl
      exact ⟨σ', H', J'.ofTry ok, q⟩
    | cont =>
      obtain ⟨σ', H', J', q⟩ := hfl
      exact ⟨σ', H', J'.ofTry ok, q⟩
    | ret u =>
      obtain ⟨v, σ', H', J', r, q⟩ := hfl
      exact ⟨v, σ', H', J'.ofTry ok, r, q⟩
/-! ### err.value of a kept error -/
def FldE (P : Program) (K : Frag) (mg : Str → Option Value) (x : V) (H : Hp) (Q : VK) : Prop := ∃ (a C fI d : Addr) (v : V), x = .ref a ∧ H a = some (ErrO (.ref C) (some d) a) ∧ ErrC P K mg C fI ∧ H d = some (.xd [(valS, v)]) ∧ Q v H
def tFldE (P : Program) (K : Frag) (mg : Str → Option Value) (te : TE) : TE := fun σ H Q => te σ H fun x H1 => FldE P K mg x H1 Q
theorem r_fldE {P : Program} {K : Frag} {mg : Str → Option Value} {te : TE} {σ : L2.St} {H : Hp} {Q : VK} (h : te σ H fun x H1 => FldE P K mg x H1 Q) : tFldE P K mg te σ H Q := h
theorem pe_fldE {e : Expr} {te : TE} {pos : Pos} (he : PE X e te) (hb : attributeBase e "value" X.env (eval e X.env) = eval e X.env := by rfl) : PE X (.Attribute e "value" pos) (tFldE X.prog X.K X.mg te) := by
  refine ⟨fun pins s σ H Q I h => attr_of hb (thn (he.run pins s σ H _ I h) fun u s1 ⟨x, H1, I1, rx, a, C, fI, d, v, ex, ea, T, ed, q⟩ => ?_)⟩
  subst ex
  have eu : u = Value.ref a := rx
  subst eu
  obtain ⟨⟨oe, vs, ho, hz, hd⟩, _, _⟩ := I1.hok a _ ea
  obtain ⟨mA, hns, hr⟩ := (show ObjOk X.prog X.w H1 s1.heap d (.xd [(valS, v)]) from I1.hok d _ ed)
  obtain ⟨od, hod, hl⟩ := lookIn_ns hns
  have l : List.lookup valS [(valS, v)] = some v := by simp [List.lookup]
  obtain ⟨u, hu, ru⟩ := RelO.some_of (v := v) (o := mA valS) (by rw [← l]; exact hr valS)
  have J : PySem.W.InstAt s1.heap a oe C (some od) := ⟨ho, hz.1, by unfold PySem.W.notCls; rw [hd] <;> rfl, by rw [hz.2]; exact hod⟩
  exact HandSPX.exc_get I1.kIn J T.ga T.gg T.exC (PySem.W.findObj_own T.hdC T.no rfl (by rw [hl, hu])) (handed_of ru) ⟨v, H1, I1.tok _, ru, q⟩
end
/-! ### o.m(e, ..) in a try -/
section
variable {X : Cx} {k : Nat} {f C : Addr} {fd : FuncData} {ps : List Str} {sp : Sp} {W : WX} {m : Str} {pos apos : Pos} {e o : Expr} {es : List Expr} {ta : TE} {t : TA}
def tMethW (C : Addr) (m : Str) (sp : Sp) (W : WX) (ta : TE) (t : TA) : TE := fun σ H Q => tMeth C m sp [] (WE W σ) ta t σ H Q
theorem pe_methW {pl : Sem Bool} (he : PE X o ta) (c : Cls X.K C) (hm : Meth X.K C m f) (F : FnOk X.prog X.w X.K X.mg X.base (L2.CX X.prog X.w) k f fd ps sp) (hr : Room k X.A) (hb : Binds X.K fd ps []) (tk : Takes X W) (ha : PA X (e :: es) t)
    (hst : starEach (e :: es) X.env = (false, eval e X.env) :: starEach es X.env := by rfl) (hpl : (backTo pos (starEach es X.env)).any (·.1) = false := by rfl)
    (ht : eval (.Call (.Attribute o m apos) (e :: es) [] pos) X.env = (do
      let r ← eval o X.env
      standAt apos.atName
      let (f, first) ← holding [r] (getMethod r m pl)
      callWith pos f first (backTo pos (starEach (e :: es) X.env)) (backToKw pos (keywordEach [] X.env))) := by rfl) : PE X (.Call (.Attribute o m apos) (e :: es) [] pos) (tMethW C m sp W ta t) := by
  refine ⟨fun pins s σ H Q I h => PySem.W.methodCall_KW (pl := pl) (thn (he.run pins s σ H _ I h) fun u s1 ⟨x, H1, I1, rx, a, dx, fs, ex, ea, l, q⟩ => ?_) ht⟩
  subst ex
  have eu : u = Value.ref a := rx
  subst eu
  refine getmeth_ok I1 ea c hm l (PySem.W.callWith_K (first := [.ref a]) (h₀ := X.base) I.ok.mod.kin hm.kp (thn (ha.run pos pins s1 σ H1 _ I1 q) fun us s2 ⟨vs, H2, I2, r, q2⟩ => ⟨I2.kIn, ?_⟩) hst hpl)
  exact run_fnS (us := .ref a :: us) (vs := .ref a :: vs) F hr hb (passAt tk σ) I2 (.cons rfl r) (by simpa using q2)
end
theorem exm_self {P : Program} {K : Frag} {mg : Str → Option Value} {C fI : Addr} (T : ErrC P K mg C fI) (h : PySem.W.subIn K (.ref C) (.ref C) = some true) : PySem.W.exmOne K (.ref C) (.ref C) = some true := PySem.W.exm_ref T.exC T.hdC T.tyC h
end RC
/-! ## Defs that may say repr(..): promised where no repr is under way -/
namespace RC
open PySem PySem.Spec PyProof.Rows L2
open PySem.W (Frag)
/-- as FnOk, in surroundings in which no repr is under way -/
structure FnOkG (P : Program) (w : World) (K : Frag) (mg : Str → Option Value) (base : Heap) (CX : CXT) (k : Nat) (f : Addr) (fd : FuncData) (ps : List Str) (sp : Sp) : Prop where
  len : ∀ vs H Q E, sp vs H Q E → vs.length = ps.length
  run : ∀ (A : Around) (outer : List Env) (s : Shared) (H : Hp) (args : Args) (us : List Value) (vs : List V) (Q : VK) (E : XK), A.guards = some [] → Room k A → Env0 P w K mg base A outer s H → BindsTo s fd args (ps.zip us) → Vals vs us → sp vs H Q E →
    codeAny (model P w) A (.call (.ref f) args) (CR CX outer P w H s Q E) s
section
variable {P : Program} {w : World} {K : Frag} {mg : Str → Option Value} {base : Heap} {x qual : Str} {params : Arguments} {body : List Stmt} {scope : Scope} {dvs : List V} {kws : List (Str × V)} {f : Addr} {fd : FuncData}
theorem okG {CX : CXT} {N ps : List Str} {k : Nat} {sp : Sp} (F : FunD K x qual params body scope dvs kws f fd) (S : FnScope N ps scope) (len : ∀ vs H Q E, sp vs H Q E → vs.length = ps.length)
    (hbody : ∀ (cdv : Value) (A : Around) (outer : List Env) (s : Shared) (H : Hp) (vs : List V) (Q : VK) (E : XK), (A.deeper (envOfC qual scope s.heap.objs.size f cdv)).guards = some [] → Room k (A.deeper (envOfC qual scope s.heap.objs.size f cdv)) → sp vs H Q E →
      ∃ t, PSs (cxOf CX P w K mg base N qual scope f cdv A outer s H E) body t ∧ t { nx := fun _ H' => Q .non H', rt := Q } (start N vs) H) : FnOkG P w K mg base CX (k + 1) f fd ps sp := by
  obtain ⟨oc, od, dV, kV, doc, pm, an, cdv, ct, osl, rfl, lk, hcd, _, _⟩ := F.ex
  refine ⟨len, fun A outer s H args us vs Q E hg hr e0 hb r hsp => ?_⟩
  have Kin : K.In s.heap := e0.mod.kin.keeps fun b o e => (e0.bs b o e).1
  have names : ∀ y ∈ ps.zip us, scope.names.lookup y.1 = some .local ∨ (scope.names.lookup y.1 = some .cell ∧ ((cellsFrom (s.heap.objs.size + 1) scope.names []).lookup y.1).isSome = true) := fun ⟨n, v⟩ hy =>
    (S.par n (List.of_mem_zip hy).1).elim .inl fun q => .inr ⟨q, PySem.W.cellsFrom_some _ _ _ (.inl q)⟩
  refine codeAny_call_function hr.depth (Kin _ _ lk) rfl S.co S.gen rfl (PySem.W.codeRec_of Kin hcd) (hb _ _ _ _ (wpAny_newFunctionEnv_cells S.kind names fun env he s1 y => ?_))
  subst he
  refine ⟨(e0.mod.nolimit.keeps fun b o e => (e0.bs b o e).1).keeps y.toInCall.keep, codeAny_func ?_⟩
  obtain ⟨t, ht, hq⟩ := hbody cdv A outer s H vs Q E hg (hr.deeper _) hsp
  refine wpAny_mono (ht.run [] s1 (start N vs) H _ (inv_start S hr.hd e0 (len _ _ _ _ hsp) r y) hq) (fun fl s' hs => ?_) fun _ _ z => z
  match fl, hs with
  | .ret u, ⟨v, σ', H', J, rv, q⟩ => exact ⟨v, H', J.os, J.bare, J.base, J.hok, rv, q⟩
  | .next, ⟨σ', H', J, q⟩ => exact ⟨V.non, H', J.os, J.bare, J.base, J.hok, rfl, q⟩
  | .brk, ⟨_, _, _, q⟩ => exact q.elim
  | .cont, ⟨_, _, _, q⟩ => exact q.elim
end
section
variable {X : Cx} {CX : CXT} {k : Nat} {f : Addr} {fd : FuncData} {ps : List Str} {sp : Sp} {E : XK} {x : Str} {p pos : Pos} {e : Expr} {es : List Expr} {t : TA} {ds : List Value} {dvs : List V}
theorem runG {pins : List (Addr × Obj)} {σ : L2.St} {H : Hp} {s : Shared} {Q : VK} {us : List Value} {vs : List V} (F : FnOkG X.prog X.w X.K X.mg X.base CX k f fd ps sp) (hg : X.A.guards = some []) (hr : Room k X.A) (hb : Binds X.K fd ps ds) (hd : Vals dvs ds) (hx : Passes CX X E)
    (I : Inv X pins σ H s) (r : Vals vs us) (h : sp (vs ++ dvs) H Q E) : wpAny (model X.prog X.w) X.A (call (.ref f) us) (EP X pins σ Q) X.xe s := by
  have r2 := r.append hd
  have hl : (us ++ ds).length = ps.length := r2.length.symm.trans (F.len _ _ _ _ h)
  refine wpAny_call (codeAny_mono (F.run X.A X.stack s H ⟨us, []⟩ (us ++ ds) (vs ++ dvs) Q E hg hr I.env0 (hb s us I.kIn hl) r2 h) fun r s' hq => ?_)
  match r, hq with
  | .error e, hq => exact hx _ _ _ _ e s' I hq
  | .ok (.ret u), hq => exact I.after hq
theorem pe_callG (F : FnOkG X.prog X.w X.K X.mg X.base CX k f fd ps sp) (hgu : X.A.guards = some []) (hr : Room k X.A) (hg : Gl X x) (hm : X.mg x = some (.ref f)) (hk : PySem.W.keepIn X.K (.ref f) = true) (hb : Binds X.K fd ps ds) (hd : Vals dvs ds) (hx : Passes CX X E)
    (ha : PA X (e :: es) t) (hdb : (x == ("__debug__" : Str)) = false := by decide) (he : starEach (e :: es) X.env = (false, eval e X.env) :: starEach es X.env := by rfl) (hpl : (backTo pos (starEach es X.env)).any (·.1) = false := by rfl) :
    PE X (.Call (.Name x p) (e :: es) [] pos) (tCall sp dvs E t) :=
  ⟨fun pins s σ H Q I h => wpAny_Call_Name_kw (ld_glob I hg hm (PySem.W.callWith_K (h₀ := X.base) I.ok.mod.kin hk (thn (ha.run pos pins s σ H _ I h) fun us s1 ⟨vs, H1, I1, r, q⟩ => ⟨I1.kIn, runG F hgu hr hb hd hx I1 r q⟩) he hpl) hdb)⟩
theorem pe_callG0 (F : FnOkG X.prog X.w X.K X.mg X.base CX k f fd ps sp) (hgu : X.A.guards = some []) (hr : Room k X.A) (hg : Gl X x) (hm : X.mg x = some (.ref f)) (hk : PySem.W.keepIn X.K (.ref f) = true) (hb : Binds X.K fd ps ds) (hd : Vals dvs ds) (hx : Passes CX X E)
    (hdb : (x == ("__debug__" : Str)) = false := by decide) : PE X (.Call (.Name x p) [] [] pos) (tCall sp dvs E tNil) :=
  ⟨fun pins s σ H Q I h => wpAny_Call_Name_kw (ld_glob I hg hm (PySem.W.callWith_K0 I.kIn hk (runG (us := []) F hgu hr hb hd hx I .nil h)) hdb)⟩
/-! ### repr of data -/
def rReprD (K : Frag) : List V → Hp → VK → Prop := fun xs H Q => ∃ v d, xs = [v] ∧ Dp K H v d ∧ d.showable = true ∧ d.canLay0 = true ∧ d.depth ≤ 40 ∧ d.shown.length ≤ sizeLine ∧ Q (.str d.shown) H
theorem call_reprD (hg : X.A.guards = some []) (hr : Room 0 X.A) : CallR X (.builtin "repr") (rReprD X.K) := by
  intro pins s σ H xs us Q I r h
  obtain ⟨v, d, rfl, hd, hs, hcl, hdep, hlen, q⟩ := h
  obtain ⟨u, rfl, ru⟩ := vals1 r
  have hu := hr.units
  cases hd with
  | non =>
    cases ru
    exact PySem.P.repr_of_none ⟨.str _, H, I.tok _, ⟨_, rfl⟩, q⟩
  | bl b =>
    cases ru
    exact PySem.P.repr_of_bool ⟨.str _, H, I.tok _, ⟨_, rfl⟩, q⟩
  | int i =>
    obtain ⟨t, rfl⟩ := ru
    exact PySem.P.repr_of_int (of_decide_eq_true (by simpa [PyData.showable] using hs)) ⟨.str _, H, I.tok _, ⟨_, rfl⟩, q⟩
  | str x =>
    obtain ⟨t, rfl⟩ := ru
    exact PySem.P.repr_of_str ⟨.str _, H, I.tok _, ⟨_, rfl⟩, q⟩ hlen
  | lst hx ha =>
    obtain ⟨as, rd⟩ := Dp.reads I _ _ u (.lst hx ha) ru
    cases ru
    exact repr_of_reads' rd hs (PyData.noDict_hsm (PyData.hasDict_of_canLay _ hcl)) hg (by omega) (fun _ _ z => z) (fun h' t tk k => ⟨.str _, H, I.kept k, ⟨_, rfl⟩, q⟩) hlen
  | tup hx ha =>
    obtain ⟨as, rd⟩ := Dp.reads I _ _ u (.tup hx ha) ru
    cases ru
    exact repr_of_reads' rd hs (PyData.noDict_hsm (PyData.hasDict_of_canLay _ hcl)) hg (by omega) (fun _ _ z => z) (fun h' t tk k => ⟨.str _, H, I.kept k, ⟨_, rfl⟩, q⟩) hlen
/-- v's repr is t -/
inductive ShowV (K : Frag) (H : Hp) : V → Str → Prop where
  | data {v : V} {d : PyData} (h : Dp K H v d) (s : d.showable = true) (c : d.canLay0 = true) (dp : d.depth ≤ 40) (l : d.shown.length ≤ sizeLine) : ShowV K H v d.shown
  | edict {a : Addr} (h : Rd H a (.dK [])) : ShowV K H (.ref a) (PyData.dict []).shown
def rReprX (K : Frag) : List V → Hp → VK → Prop := fun xs H Q => ∃ v t, xs = [v] ∧ ShowV K H v t ∧ Q (.str t) H
theorem call_reprX (hg : X.A.guards = some []) (hr : Room 0 X.A) : CallR X (.builtin "repr") (rReprX X.K) := by
  intro pins s σ H xs us Q I r h
  obtain ⟨v, t, rfl, hv, q⟩ := h
  cases hv with
  | data h1 h2 h3 h4 h5 => exact call_reprD hg hr pins s σ H [v] us Q I r ⟨v, _, rfl, h1, h2, h3, h4, h5, q⟩
  | @edict a ha =>
    obtain ⟨u, rfl, ru⟩ := vals1 r
    have eu : u = Value.ref a := ru
    subst eu
    have hu := hr.units
    obtain ⟨_, ns, vs, kv, ob, es, ep, e1, e2, e3, _, e5, _⟩ := (show ObjOk X.prog X.w H s.heap a (.dK []) from ha.elim (fun q => I.hok a _ q) fun ⟨o, q⟩ => (I.hok a _ q).2)
    have z : vs = [] := by
      cases kv
      rfl
    subst z
    have ez : es.toList = [] := by
      generalize es.toList = l at e5
      cases e5
      rfl
    have rd : Reads s.heap (.ref a) (.dict []) ((a :: []) ++ []) := Reads.dict e1 e2.1 e3 (by rw [ez]; exact .nil) (by rw [ez]; exact .nil)
    refine repr_of_reads' rd (by simp [PyData.showable, PyData.showableKv]) (fun _ hm => ?_) hg ?_ (fun _ _ z => z) (fun h' t tk k => ⟨.str _, H, I.kept k, ⟨_, rfl⟩, q⟩) (by decide +kernel)
    · have hm' : sysModules ∈ [a] := by simpa using hm
      rw [List.mem_singleton.mp hm'] at ns
      simp at ns
    · simp only [PyData.depth, PyData.depthKv]
      omega
end
/-! ### the law's end -/
theorem law_callG {P : Program} {w : World} {K : Frag} {mg mb : Str → Option Value} {k : Nat} {fa a : Addr} {fd : FuncData} {x : Str} {sp : Sp} {s1 : Shared} {vs : List Value} {ns : List Int}
    (KX : K.In s1.heap) (hns : s1.heap.Ns mainGlobals mg) (hb : s1.heap.Ns builtinsNs mb) (hbb : ∀ x : Str, x ≠ "__name__" → mb x = bootBuiltins x) (hlim : s1.heap.NoLimit) (hg : s1.gens = #[])
    (ha : s1.heap.get? a = some { cls := .type "list", data := .seq vs.toArray }) (hi : IntsAre vs ns) (hl : ns.length ≤ sizeLine) (hr : Room k callerA)
    (F : ∀ base : Heap, K.In base → base.Ns mainGlobals mg → FnOkG P w K mg base CX0 k fa fd [x] sp) (hbind : ∀ (s : Shared) (u : Value), BindsTo s fd ⟨[u], []⟩ [(x, u)])
    (hsp : ∀ H : Hp, Only H → SqL K H a (ns.map V.int) → sp [.ref a] H (fun v _ => v = .bl true) fun _ _ _ => False) :
    codeAny (model P w) callerA (.call (.ref fa) ⟨[.ref a], []⟩) (fun r s' => r = .ok (.ret (.bool true)) ∧ OldK s1.heap s'.heap ∧ s'.os = s1.os ∧ AllBare s'.gens) s1 := by
  have rv := vals_ints hi
  have go : ∀ H : Hp, Only H → SqL K H a (ns.map V.int) → HOk P w H s1.heap → (∀ b, H b ≠ none → b = a) → (H a ≠ none → K.lookup a = none) →
      codeAny (model P w) callerA (.call (.ref fa) ⟨[.ref a], []⟩) (fun r s' => r = .ok (.ret (.bool true)) ∧ OldK s1.heap s'.heap ∧ s'.os = s1.os ∧ AllBare s'.gens) s1 := by
    intro H only hS ok own lacks
    have other : ∀ {b : Addr}, b ≠ a → H b = none := fun {b} h => by
      cases q : H b with
      | none => rfl
      | some u => exact absurd (own b (by rw [q]; simp)) h
    have below : ∀ {b : Addr} {m : Str → Option Value}, s1.heap.Ns b m → (hidT s1.heap H).Ns b m := fun {b m} ⟨o, es, ep, e, d, r⟩ => by
      refine ⟨o, es, ep, hidT_get e (other fun z => ?_), d, r⟩
      rw [z, ha] at e
      cases e
      cases d
    have kin : K.In (hidT s1.heap H) := fun b o e => by
      refine hidT_get (KX b o e) ?_
      cases q : H b with
      | none => rfl
      | some u =>
        have z := own b (by rw [q]; simp)
        subst z
        rw [lacks (by rw [q]; simp)] at e
        cases e
    have md : Mod K mg (hidT s1.heap H) := ⟨kin, below hns, ⟨mb, below hb, hbb⟩, by
      obtain ⟨mc, h1, h2⟩ := hlim
      exact ⟨mc, below h1, h2⟩⟩
    have e0 : Env0 P w K mg (hidT s1.heap H) callerA [] s1 H := ⟨rfl, md, fun b o e => of_hidT e, Nat.le_of_eq (hidT_size _ _), trivial, fun b z => absurd (show b ∈ ([] : List Addr) from z) List.not_mem_nil, ok, .of_eq hg⟩
    refine codeAny_mono ((F _ kin (below hns)).run callerA [] s1 H ⟨[.ref a], []⟩ [.ref a] [.ref a] _ _ rfl hr e0 (hbind s1 (.ref a)) (.cons rfl .nil) (hsp H only hS)) fun r s' h => ?_
    match r, h with
    | .ok (.ret u), ⟨v, H', os, bare, un, ok', r', q⟩ =>
      have q' : v = .bl true := q
      subst q'
      have r2 : u = Value.bool true := r'
      subst r2
      refine ⟨rfl, OldK.of_keep fun b o e => ?_, os, bare⟩
      rcases only b with z | ⟨ob, xs, z⟩
      · exact un.keep b o e z (fun y => absurd (show b ∈ ([] : List Addr) from y) List.not_mem_nil) List.not_mem_nil
      · have z2 := un.frzs b ob _ z
        obtain ⟨e1, _⟩ := ok b _ z
        obtain ⟨e2, _⟩ := ok' b _ z2
        rw [e] at e1
        cases e1
        exact e2
  cases hk : K.lookup a with
  | some o =>
    have e := KX a o hk
    rw [ha] at e
    cases e
    exact go (fun _ => none) (fun _ => .inl rfl) (.inr ⟨_, vs.toArray, _, hk, rfl, rfl, rfl, by rw [List.size_toArray, hi.length]; exact hl, by simpa using rv⟩) (fun b u z => by cases z) (fun b z => absurd rfl z) fun z => absurd rfl z
  | none =>
    have at_ : ∀ b, (b = a ∧ (fun b => if b = a then some (HO.frz { cls := .type "list", data := .seq vs.toArray } (.lst (ns.map V.int))) else none) b = some (HO.frz { cls := .type "list", data := .seq vs.toArray } (.lst (ns.map V.int)))) ∨ (b ≠ a ∧ (fun b => if b = a then some (HO.frz { cls := .type "list", data := .seq vs.toArray } (.lst (ns.map V.int))) else none) b = none) := fun b => by
      by_cases hb : b = a
      · exact .inl ⟨hb, if_pos hb⟩
      · exact .inr ⟨hb, if_neg hb⟩
    refine go (fun b => if b = a then some (.frz { cls := .type "list", data := .seq vs.toArray } (.lst (ns.map V.int))) else none) (fun b => ?_) (.inl (.inr ⟨{ cls := .type "list", data := .seq vs.toArray }, if_pos rfl⟩)) (fun b u z => ?_) (fun b z => ?_) fun _ => hk
    · rcases at_ b with ⟨_, e⟩ | ⟨_, e⟩
      · exact .inr ⟨_, _, e⟩
      · exact .inl e
    · rcases at_ b with ⟨e1, e⟩ | ⟨_, e⟩
      · rw [e] at z
        cases z
        subst e1
        exact ⟨ha, by rw [List.length_map]; exact hl, vs, _, rv, ha⟩
      · rw [e] at z
        cases z
    · rcases at_ b with ⟨e1, _⟩ | ⟨_, e⟩
      · exact e1
      · exact absurd e z
theorem walk_ofG {l : PySem.W.OpenLaw} {n k : Nat} {q : Program} {loose : List Str} {XP : (Str → Option Value) → Heap → Prop} {YP : World → Heap → Prop} {d : DefRec} {x : Str}
    (hn : l.most = some n) (hn2 : n ≤ sizeLine) (hdf : d.params.defaults = []) (hr : Room k callerA)
    (F : ∀ (w : World) (mg : Str → Option Value) (fa : Addr) (h : Heap), YP w h → h.Ns mainGlobals mg → mg d.name = some (.ref fa) →
      ∃ (K : Frag) (fd : FuncData) (sp : Sp), K.In h ∧ (∀ (s : Shared) (u : Value), BindsTo s fd ⟨[u], []⟩ [(x, u)]) ∧ (∀ (H : Hp) (a : Addr) (ns : List Int), ns.length ≤ n → Only H → SqL K H a (ns.map V.int) → sp [.ref a] H (fun v _ => v = .bl true) fun _ _ _ => False) ∧
        ∀ base : Heap, K.In base → base.Ns mainGlobals mg → FnOkG l.prog w K mg base CX0 k fa fd [x] sp) : PySem.W.WalkO q loose XP YP l.row.toRowW d [] (fun f vs => PySem.call f vs) := by
  refine Att.attach_call hn hdf fun w s0 s1 mg mb fa o pm cd doc a vs ns G Y ho hd hcd hmg hobj hints hlen hg => ?_
  obtain ⟨K, fd, sp, KX, hb, hsp, hF⟩ := F w mg fa _ Y G.T.g hmg
  exact law_callG KX G.T.g G.T.b G.T.builtins G.T.nolimit hg hobj hints (Nat.le_trans hlen hn2) hr hF hb fun H hO hS => hsp H a ns hlen hO hS
end RC
/-! ## The head's facts of own errors besides -/
namespace RC
open PySem PySem.Spec PyProof.Rows L2 He
open PySem.W (Frag findIn keepIn subIn typeIn hasDictIn mroIn nsIn codeIn)
/-- an error class, its __init__ as the text has it -/
structure ErrD where
  x : Str
  st : Stmt
abbrev EfW : Type := Option (Str × Arguments × FuncBody × Scope × Addr × List Str × Addr)
def efW (K : Frag) (e : ErrD) : EfW := match K.lookup (ma K (ga K e.x) "__init__") with
  | some ⟨_, _, .func fd, _⟩ => some (fd.name, fd.params, fd.body, fd.scope, fd.globals, fd.closure.map (·.1), fd.builtins)
  | _ => none
def ErrD.val (e : ErrD) : EfW := some ("__init__", defArgs e.st, .stmts (defBody e.st), defScope e.st, mainGlobals, ["__class__"], builtinsNs)
/-- the class's object -/
def eClsB (K : Frag) (C : Addr) : Bool := match K.lookup C with
  | some ⟨.type t, _, .cls cd, sl⟩ => t == "type" && (match cd.mro, sl.toList with
    | .ref C' :: bm, [_, _, _, _, some (.builtin n), _] => C' == C && (n == "ValueError.__new__" && (!cd.hasDel && (cd.hasDict && HandSPX.refsVE bm)))
    | _, _ => false)
  | _ => false
theorem eClsB_ok {K : Frag} {C : Addr} (h : eClsB K C = true) : ∃ nm q N bs bm sn sub ab col dd k0 k1 k2 k3 k5, K.lookup C = some (excClassObj nm q C N bs bm true sn sub ab col dd k0 k1 k2 k3 k5 "ValueError.__new__") ∧ HandSPX.refsVE bm = true := by
  unfold eClsB at h
  split at h
  · rename_i t dd cd sl ho
    obtain ⟨h0, h⟩ := ba h
    split at h
    · rename_i C' bm k0 k1 k2 k3 n k5 hm hs
      obtain ⟨h1, h⟩ := ba h
      obtain ⟨h2, h⟩ := ba h
      obtain ⟨h3, h⟩ := ba h
      obtain ⟨h4, h5⟩ := ba h
      have e0 := beq_iff_eq.mp h0
      have e1 := beq_iff_eq.mp h1
      have e2 := beq_iff_eq.mp h2
      have e3 : cd.hasDel = false := by simpa using h3
      subst e0 e1 e2
      obtain ⟨nm, bs, mro, ns, qn, hd, sn, sub, ab, col, del⟩ := cd
      dsimp only at hm e3 h4
      subst hm e3 h4
      have hsl : sl = #[k0, k1, k2, k3, some (.builtin "ValueError.__new__"), k5] := by
        obtain ⟨l⟩ := sl
        have z : l = [k0, k1, k2, k3, some (.builtin "ValueError.__new__"), k5] := hs
        rw [z]
      subst hsl
      exact ⟨nm, qn, ns, bs, bm, sn, sub, ab, col, dd, k0, k1, k2, k3, k5, ho, h5⟩
    · cases h
  · cases h
/-- the cell of __class__ -/
def celB (K : Frag) (cl : List (Str × Addr)) (C : Addr) : Bool := match cl with
  | [(_, cc)] => (match K.lookup cc with
    | some ⟨_, _, .cell (some (.ref D)), _⟩ => D == C
    | _ => false)
  | _ => false
theorem celB_ok {K : Frag} {cl : List (Str × Addr)} {C : Addr} (h : celB K cl C = true) : ∃ y cc v d s, cl = [(y, cc)] ∧ K.lookup cc = some ⟨v, d, .cell (some (.ref C)), s⟩ := by
  unfold celB at h
  split at h
  · split at h
    · rename_i cc _ v d D s q
      have e := beq_iff_eq.mp h
      subst e
      exact ⟨_, _, _, _, _, rfl, q⟩
    · cases h
  · cases h
/-- the code's file -/
def filB (K : Frag) (cd : Value) (file : Str) : Bool := match cd with
  | .ref c => (match K.lookup c with
    | some ⟨_, _, .fields vs, _⟩ => (match (vs[2]? : Option Value) with
      | some (Value.str f _) => file == f
      | _ => false)
    | _ => false)
  | _ => false
theorem filB_ok {K : Frag} {cd : Value} {file : Str} (h : filB K cd file = true) : ∃ c v d vs s f t, cd = .ref c ∧ K.lookup c = some ⟨v, d, .fields vs, s⟩ ∧ vs[2]? = some (.str f t) ∧ (file == f) = true := by
  unfold filB at h
  split at h
  · split at h
    · rename_i q
      split at h
      · rename_i q2
        exact ⟨_, _, _, _, _, _, _, rfl, q, q2, h⟩
      · cases h
    · cases h
  · cases h
/-- the defaults: None -/
def dnoB (K : Frag) (d : Value) : Bool := match d with
  | .ref t => (match K.lookup t with
    | some ⟨_, _, .seq its _, _⟩ => its.toList.length == 1 && its.toList.all fun v => v == Value.none
    | _ => false)
  | _ => false
theorem one_none {its : Array Value} (h1 : (its.toList.length == 1) = true) (h2 : (its.toList.all fun v => v == Value.none) = true) : its = #[.none] := by
  obtain ⟨l⟩ := its
  match l, h1, h2 with
  | [v], _, h2 =>
    have e : v = .none := by simpa using h2
    rw [e]
theorem dnoB_ok {K : Frag} {d : Value} (h : dnoB K d = true) : ∃ (t : Addr) (o : Obj) (n : Nat), d = .ref t ∧ K.lookup t = some o ∧ o.data = .seq #[.none] n := by
  unfold dnoB at h
  split at h
  · split at h
    · rename_i its n _ q
      obtain ⟨h1, h2⟩ := ba h
      have e := one_none h1 h2
      subst e
      exact ⟨_, _, _, rfl, q, rfl⟩
    · cases h
  · cases h
def eFnB (K : Frag) (C f : Addr) (file : Str) : Bool := match K.lookup f with
  | some ⟨_, _, .func fd, _⟩ => codeIn K fd.code fd.qualname && (celB K fd.closure C && (filB K fd.code file && dnoB K fd.defaults))
  | _ => false
/-- the class's facts; file: the program's -/
def eFacB (K : Frag) (file : Str) (x : Str) : Bool :=
  eClsB K (ga K x) && (decide (findIn K (.ref (ga K x)) "__setattr__" = some (some (.builtin "object.__setattr__"))) && (decide (findIn K (.ref (ga K x)) "__getattribute__" = some (some (.builtin "BaseException.__getattribute__"))) && (decide (findIn K (.ref (ga K x)) "__getattr__" = some none) &&
    (decide (findIn K (.ref (ga K x)) "value" = some none) && (decide (findIn K (.ref (ga K x)) "__init__" = some (some (.ref (ma K (ga K x) "__init__")))) && (decide (typeIn K (.ref (ma K (ga K x) "__init__")) = some (.type "function")) && (keepIn K (.ref (ga K x)) &&
      (decide (subIn K (.ref (ga K x)) (.type "BaseException") = some true) && (decide (subIn K (.ref (ga K x)) (.type "ValueError") = some true) && (decide (typeIn K (.ref (ga K x)) = some (.type "type")) && (hasDictIn K (ga K x) && (decide (mroIn K (ga K x) (.ref (ga K x)) = some true) &&
        (PySem.W.excInitIn K (ga K x) vB "ValueError.__new__" && (decide (PySem.W.ks_superIn K (ga K x) (ga K x) "__init__" = some (some (.builtin "ValueError.__init__"))) && (decide (nsIn K cStatics "thirdparty.any" = some none) && (decide (subIn K (.ref (ga K x)) (.ref (ga K x)) = some true) &&
          eFnB K (ga K x) (ma K (ga K x) "__init__") file))))))))))))))))
/-- together: what the rules for the error ask -/
theorem err_of {P : Program} {K : Frag} {mg : Str → Option Value} {e : ErrD} {file : Str} (nsu : mg "super" = none) (top : (P.main.scope.names.lookup ("super" : Str)).isSome = false) (hfile : (P.main.file : Str) = file)
    (ha : ∃ p1 p2 p3, defArgs e.st = eAr p1 p2 p3) (hbo : ∃ q1 q2 q3 q4 q5 q6 q7 q8 q9 q10, defBody e.st = eBo q1 q2 q3 q4 q5 q6 q7 q8 q9 q10 ∧ (q3.endLine == q5.line) = true) (hsc : defScope e.st = eSc)
    (c : efW K e = e.val) (b : eFacB K file e.x = true) : ErrC P K mg (ga K e.x) (ma K (ga K e.x) "__init__") := by
  obtain ⟨b1, b⟩ := ba b
  obtain ⟨b2, b⟩ := ba b
  obtain ⟨b3, b⟩ := ba b
  obtain ⟨b4, b⟩ := ba b
  obtain ⟨b5, b⟩ := ba b
  obtain ⟨b6, b⟩ := ba b
  obtain ⟨b7, b⟩ := ba b
  obtain ⟨b8, b⟩ := ba b
  obtain ⟨b9, b⟩ := ba b
  obtain ⟨b10, b⟩ := ba b
  obtain ⟨b11, b⟩ := ba b
  obtain ⟨b12, b⟩ := ba b
  obtain ⟨b13, b⟩ := ba b
  obtain ⟨b14, b⟩ := ba b
  obtain ⟨b15, b⟩ := ba b
  obtain ⟨b16, b⟩ := ba b
  obtain ⟨b17, b18⟩ := ba b
  refine ⟨eClsB_ok b1, of_decide_eq_true b2, of_decide_eq_true b3, of_decide_eq_true b4, of_decide_eq_true b5, of_decide_eq_true b6, of_decide_eq_true b7, b8, of_decide_eq_true b9, of_decide_eq_true b10, of_decide_eq_true b11, b12, of_decide_eq_true b13, b14, of_decide_eq_true b15, of_decide_eq_true b16, nsu, top, ?_⟩
  clear b1 b2 b3 b4 b5 b6 b7 b8 b9 b10 b11 b12 b13 b14 b15 b16 b17
  obtain ⟨p1, p2, p3, ea⟩ := ha
  obtain ⟨q1, q2, q3, q4, q5, q6, q7, q8, q9, q10, eb, hpos⟩ := hbo
  unfold efW at c
  unfold eFnB at b18
  cases q : K.lookup (ma K (ga K e.x) "__init__") with
  | none =>
    rw [q] at b18
    cases b18
  | some o =>
    obtain ⟨oc, od, dt, osl⟩ := o
    rw [q] at b18 c
    cases dt with
    | func fd =>
      obtain ⟨n1, n2, n3, n4, n5, n6, n7, n8, n9, n10, n11, n12, n13, n14, n15⟩ := fd
      have c2 : (some (n1, n3, n4, n5, n6, n7.map (·.1), n15) : EfW) = some (("__init__" : Str), defArgs e.st, FuncBody.stmts (defBody e.st), defScope e.st, mainGlobals, [("__class__" : Str)], builtinsNs) := c
      rw [ea, eb, hsc] at c2
      simp only [Option.some.injEq, Prod.mk.injEq] at c2
      obtain ⟨h1, h3, h4, h5, h6, h7, h8⟩ := c2
      subst h1 h3 h4 h5 h6 h8
      have b19 : (codeIn K n13 n2 && (celB K n7 (ga K e.x) && (filB K n13 file && dnoB K n8))) = true := b18
      obtain ⟨d1, d⟩ := ba b19
      obtain ⟨d2, d⟩ := ba d
      obtain ⟨d3, d4⟩ := ba d
      obtain ⟨y, cc, cl, cld, csl, rfl, k1⟩ := celB_ok d2
      obtain ⟨cda, ccl, cdd, vs, ccs, f, tf, rfl, k2, k3, k4⟩ := filB_ok d3
      obtain ⟨Td, oT, nT, rfl, k5, k6⟩ := dnoB_ok d4
      have ey : y = "__class__" := by simpa using h7
      subst ey
      exact ⟨_, _, _, _, _, _, _, _, _, _, _, _, _, _, _, _, cda, cc, vs, f, tf, p1, p2, p3, q1, q2, q3, q4, q5, q6, q7, q8, q9, q10, rfl, d1, k2, k3, by rw [hfile]; exact k4, k1, hpos, Td, oT, nT, rfl, k5, k6⟩
    | _ => cases b18
/-! ### the hook: HookR's and the errors' -/
abbrev AlE : Type := AlR × (List EfW × Bool)
def obsE (fa : List Fa) (fn : List DefD) (cs : List Str) (ks : List Kq) (ns : List Nf) (es : List ErrD) (file : Str) (K : Frag) : AlE := (obsR fa fn cs ks ns K, (es.map (efW K), es.all fun e => eFacB K file e.x))
def valE (fn : List DefD) (es : List ErrD) : AlE := (valR fn, (es.map ErrD.val, true))
def SaysE (fa : List Fa) (fn : List DefD) (cs : List Str) (ks : List Kq) (ns : List Nf) (es : List ErrD) (file : Str) (K : Frag) : Prop := obsE fa fn cs ks ns es file K = valE fn es
def obsEG (n : Nat) (fa : List Fa) (fn : List DefD) (cs : List Str) (ks : List Kq) (ns : List Nf) (es : List ErrD) (file : Str) (g : Addr → Option Obj) : AlE := obsE fa fn cs ks ns es file (frG g (cStatics :: asD g n))
def hookE (n : Nat) (fa : List Fa) (fn : List DefD) (cs : List Str) (ks : List Kq) (ns : List Nf) (es : List ErrD) (file : Str) : PySem.W.Hook where
  α := AlE
  obs := fun s => obsEG n fa fn cs ks ns es file s.heap.get?
  val := fun _ => valE fn es
  says := fun _ h => ∃ K : Frag, K.In h ∧ SaysE fa fn cs ks ns es file K
  of := fun _ _ e => ⟨_, frG_in, e⟩
  keeps := fun _ _ _ ⟨K, hK, c⟩ k => ⟨K, PySem.W.Frag.In.keeps hK k, c⟩
theorem obsEG_eq {n : Nat} {fa : List Fa} {fn : List DefD} {cs : List Str} {ks : List Kq} {ns : List Nf} {es : List ErrD} {file : Str} {g : Addr → Option Obj} {s : Shared} (h : ∀ a, g a = s.heap.get? a) : obsEG n fa fn cs ks ns es file g = (hookE n fa fn cs ks ns es file).obs s := by
  have e : g = s.heap.get? := funext h
  rw [e] <;> rfl
section
variable {fa : List Fa} {fn : List DefD} {cs : List Str} {ks : List Kq} {ns : List Nf} {es : List ErrD} {file : Str} {K : Frag}
theorem SaysE.r (c : SaysE fa fn cs ks ns es file K) : SaysR fa fn cs ks ns K := congrArg (fun z : AlE => z.1) c
theorem SaysE.err (c : SaysE fa fn cs ks ns es file K) (i : Nat) {e : ErrD} (h : es[i]? = some e := by rfl) : efW K e = e.val ∧ eFacB K file e.x = true := by
  have c1 : es.map (efW K) = es.map ErrD.val := congrArg (fun z : AlE => z.2.1) c
  have c2 : (es.all fun e => eFacB K file e.x) = true := congrArg (fun z : AlE => z.2.2) c
  refine ⟨?_, List.all_eq_true.mp c2 e (List.mem_of_getElem? h)⟩
  have z : (es.map (efW K))[i]? = (es.map ErrD.val)[i]? := by rw [c1]
  rw [List.getElem?_map, List.getElem?_map, h] at z
  exact Option.some.inj z
theorem sub_self {x : Str} (b : eFacB K file x = true) : subIn K (.ref (ga K x)) (.ref (ga K x)) = some true := by
  unfold eFacB at b
  exact of_decide_eq_true (ba (ba (ba (ba (ba (ba (ba (ba (ba (ba (ba (ba (ba (ba (ba (ba (ba b).2).2).2).2).2).2).2).2).2).2).2).2).2).2).2).2).1
end
end RC
/-! ## for i in range(a, b), a and b of any size -/
namespace RC
open PySem PySem.Spec PyProof.Rows L2
theorem turn_long {P : Program} {w : World} {K : PySem.W.Frag} {tg : Expr} (it : Addr) (lo : Int) (n : Nat) : Turn P w K tg (Itr lo n) [it] it (fun i h => IsLongIter h it (lo + (i : Nat) * 1) ((n : Int) - (i : Nat)) 1) where
  mem := List.mem_cons_self
  obj := fun i h st b hb => by
    obtain rfl := List.mem_singleton.mp hb
    exact ⟨_, st, fun v z => by
      have z2 : Data.fields _ = Data.cell v := z
      cases z2⟩
  keep := fun i h h' st k => k it List.mem_cons_self _ st
  item := fun X hP hw hK hc i pins s σ H E I hf st hg => by
    subst hP hw hK
    obtain ⟨f0, f1, f2, f3, f4, f5⟩ := hf it List.mem_cons_self
    refine (Walks.longrange (prog := X.prog) (w := X.w) (A := X.A) (I.ok.hd hc) it lo 1 n).item i s _ _ hg st fun v h' tk ⟨t, e⟩ st' kk => ?_
    subst e
    have I1 : Inv X pins σ H { s with heap := h', toks := tk } := I.turned (fun b o hb e => kk b o (fun z => hb (List.mem_singleton.mp z)) e) f0 f1 f3 f4 f5
    exact ⟨_, rfl, go_of (s := { s with heap := h', toks := tk }) (n := "longrange_iterator") st' rfl rfl (by decide) ⟨.int (lo + i), H, I1, ⟨t, by rw [Int.mul_one]⟩, ⟨rfl, rfl⟩, st', fun b hb => (hf b hb).1⟩⟩
  done := fun X hP hw hK hc i pins s σ H E I hf st hg => by
    subst hP hw hK
    obtain ⟨f0, f1, f2, f3, f4, f5⟩ := hf it List.mem_cons_self
    have le : n ≤ i := hg
    exact wpAny_pyNext_long_end (I.ok.hd hc) st (by omega) fun h' eb => ⟨rfl, I.turned (t' := s.toks) (fun b o hb e => eb b o hb e) f0 f1 f3 f4 f5⟩
  self := fun _ _ _ _ _ st h => wpAny_pyIter_longiter st h
section
variable {X : Cx} {tg : Expr}
def iRngL (ta : TA) : TI := fun σ H R => ta σ H fun vs H1 => ∃ i j : Int, vs = [.int i, .int j] ∧ R (Itr i (j - i).toNat) H1
theorem pi_rangeL {a b : Expr} {ta : TA} {p pos : Pos} (hg : Gl X "range") (hm : X.mg "range" = none) (ha : PA X [a, b] ta) (hs : starEach [a, b] X.env = [(false, eval a X.env), (false, eval b X.env)] := by rfl) (hs2 : starEach [b] X.env = [(false, eval b X.env)] := by rfl) : PI X tg (.Call (.Name "range" p) [a, b] [] pos) (iRngL ta) := by
  refine ⟨fun pins s σ H R I h => Call_ (ld_blt I hg hm boot_range (PyProof.Rows.callWith_type1 (thn (ha.run pos pins s σ H _ I h) fun us s1 ⟨vs, H1, I1, r1, i, j, e, q⟩ => ?_) (by rw [hs, hs2]) (by rw [hs2]; rfl)))⟩
  subst e
  cases r1 with
  | cons r rr =>
    cases rr with
    | cons r' rr =>
      cases rr
      obtain ⟨t, rfl⟩ := r
      obtain ⟨t', rfl⟩ := r'
      refine call_range_2 ?_
      have size : (((j - i).toNat : Nat) : Int) - ((0 : Nat) : Int) = Builtin.Range.rangeSize i j 1 := by
        rw [rangeSize_one]
        split <;> omega
      have first : i + ((0 : Nat) : Int) * 1 = i := by simp
      have new : ∀ {o o' : Obj} {tk : Nat}, Inv X pins σ H1 { s1 with heap := (s1.heap.push o).push o', toks := tk } := fun {o o' tk} => I1.kept fun b u e => Heap.get?_push_of_some _ (Heap.get?_push_of_some _ e)
      have fp : ∀ {o : Obj} {tk : Nat} {b : Addr}, b ∈ [(s1.heap.push o).objs.size] → FpOk X pins H1 b := fun {o tk b} hb => by
        obtain rfl := List.mem_singleton.mp hb
        have J : Inv X pins σ H1 { s1 with heap := s1.heap.push o, toks := tk } := I1.kept fun b u e => Heap.get?_push_of_some _ e
        exact J.fpOk (Nat.le_refl _) (J.hok.fresh (Nat.le_refl _))
      cases hb : Builtin.Range.small i j 1 with
      | true =>
        refine wpAny_pyIter_range (IsRange.new ..) hb ⟨_, [_], _, _, H1, rfl, new, turn_range _ i (j - i).toNat, ?_, fun b hb => fp (tk := 0) hb, q⟩
        show IsRangeIter _ _ (i + ((0 : Nat) : Int) * 1) ((((j - i).toNat : Nat) : Int) - ((0 : Nat) : Int)) 1
        rw [first, size]
        exact Heap.get?_push_size _ rfl
      | false =>
        refine wpAny_pyIter_longrange (IsRange.new ..) hb ⟨_, [_], _, _, H1, rfl, new, turn_long _ i (j - i).toNat, ?_, fun b hb => fp (tk := 0) hb, q⟩
        show IsLongIter _ _ (i + ((0 : Nat) : Int) * 1) ((((j - i).toNat : Nat) : Int) - ((0 : Nat) : Int)) 1
        rw [first, size]
        exact Heap.get?_push_size _ rfl
def RnL (vs : List V) (H : Hp) (R : It → Hp → Prop) : Prop := ∃ i j : Int, vs = [.int i, .int j] ∧ R (Itr i (j - i).toNat) H
theorem r_rngL {tA : TA} {σ : L2.St} {H : Hp} {R : It → Hp → Prop} (h : tA σ H fun vs H1 => RnL vs H1 R) : iRngL tA σ H R := h
theorem r_rngL' {H : Hp} {i j : Int} {n : Nat} {R : It → Hp → Prop} (e : (j - i).toNat = n) (h : R (Itr i n) H) : RnL [.int i, .int j] H R := ⟨i, j, rfl, by rw [e]; exact h⟩
end
end RC
/-! ## isinstance of a kept error; C(e, ..) in a try -/
namespace RC
open PySem PySem.Spec PyProof.Rows L2
open PySem.W (Frag)
section
variable {X : Cx}
/-- isinstance(err, c), err a kept error -/
def rIsErr (P : Program) (K : Frag) (mg : Str → Option Value) : List V → Hp → VK → Prop := fun xs H Q => ∃ (a C fI d : Addr) (v c : V) (cv : Value) (b : Bool), xs = [.ref a, c] ∧ H a = some (ErrO (.ref C) (some d) a) ∧ H d = some (.xd [(valS, v)]) ∧ ErrC P K mg C fI ∧ ClsX K C ∧ ClsV c cv ∧ PySem.W.kitOne K (.ref C) cv = some b ∧ Q (.bl b) H
theorem call_isErr : CallR X (.builtin "isinstance") (rIsErr X.prog X.K X.mg) := by
  intro pins s σ H xs us Q I r h
  obtain ⟨a, C, fI, d, v, c, cv, b, rfl, ea, ed, T, x, k, e, q⟩ := h
  obtain ⟨u1, u2, rfl, r1, r2⟩ := vals2 r
  have e2 := k.eq r2
  subst e2
  have e1 : u1 = Value.ref a := r1
  subst e1
  obtain ⟨⟨oe, vs, ho, hz, hd⟩, _, _⟩ := I.hok a _ ea
  obtain ⟨mA, hns, hr⟩ := (show ObjOk X.prog X.w H s.heap d (.xd [(valS, v)]) from I.hok d _ ed)
  obtain ⟨od, hod, _⟩ := lookIn_ns hns
  have J : PySem.W.InstAt s.heap a oe C (some od) := ⟨ho, hz.1, by unfold PySem.W.notCls; rw [hd] <;> rfl, by rw [hz.2]; exact hod⟩
  have hcl : (PySem.W.clsIn X.K C).isSome = true := by
    obtain ⟨nm, q, N, bs, bm, sn, sub, ab, col, dd, k0, k1, k2, k3, k5, hC, _⟩ := T.ini
    unfold PySem.W.clsIn
    rw [hC]
    rfl
  exact PySem.W.kia_one (PySem.W.kitx_exc hcl T.ga T.gg T.exC x.ha x.hn x.htk x.hm) I.kIn J e (fun z => nomatch z) fun tk => ⟨.bl b, H, I.tok tk, rfl, q⟩
end
section
variable {X : Cx} {k : Nat} {f C : Addr} {fd : FuncData} {ps : List Str} {sp : Sp} {W : WX} {x : Str} {p pos : Pos} {e : Expr} {es : List Expr} {t : TA}
def tMakeW (C : Addr) (sp : Sp) (W : WX) (t : TA) : TE := fun σ H Q => tMake C sp [] (WE W σ) t σ H Q
theorem r_makeW {σ : L2.St} {H : Hp} {Q : VK} (h : t σ H fun vs H1 => MakeV C sp (vs ++ []) H1 Q (WE W σ)) : tMakeW C sp W t σ H Q := h
theorem pe_makeW (M : Mk X.K C f) (F : FnOk X.prog X.w X.K X.mg X.base (L2.CX X.prog X.w) k f fd ps sp) (hr : Room (k + 1) X.A) (hg : Gl X x) (hm : X.mg x = some (.ref C)) (hb : Binds X.K fd ps []) (tk : Takes X W)
    (ha : PA X (e :: es) t) (hdb : (x == ("__debug__" : Str)) = false := by decide) (he : starEach (e :: es) X.env = (false, eval e X.env) :: starEach es X.env := by rfl) (hpl : (backTo pos (starEach es X.env)).any (·.1) = false := by rfl) :
    PE X (.Call (.Name x p) (e :: es) [] pos) (tMakeW C sp W t) := by
  refine ⟨fun pins s σ H Q I h => wpAny_Call_Name_kw (ld_glob I hg hm (PySem.W.callWith_K (h₀ := X.base) I.ok.mod.kin M.kp (thn (ha.run pos pins s σ H _ I h) fun us s1 ⟨vs, H1, I1, r, q⟩ => ⟨I1.kIn, ?_⟩) he hpl) hdb)⟩
  have hq := q (s1.heap.objs.size + 1) s1.heap.objs.size (I1.hok.fresh (Nat.le_succ _)) (I1.hok.fresh (Nat.le_refl _)) (Nat.ne_of_lt (Nat.lt_succ_self _))
  rw [List.append_nil] at hq
  have I2 := Inv.made (C := C) I1
  have r2 : Vals (V.ref (s1.heap.objs.size + 1) :: vs) (Value.ref (s1.heap.objs.size + 1) :: us) := .cons rfl r
  have hl : (Value.ref (s1.heap.objs.size + 1) :: us ++ []).length = ps.length := by
    rw [List.append_nil, ← r2.length]
    exact F.len _ _ _ _ hq
  have bind := hb _ (Value.ref (s1.heap.objs.size + 1) :: us) I2.kIn hl
  rw [List.append_nil] at bind
  refine wpAny_call (make_map (f := f) I1.kIn M.makes M.init (beq_iff_eq.mp M.fn) (codeAny_mono (F.run _ X.stack _ _ ⟨Value.ref (s1.heap.objs.size + 1) :: us, []⟩ (Value.ref (s1.heap.objs.size + 1) :: us) _ _ (WE W σ) (hr.make C us []) (I2.env0.make C us []) bind r2 hq) fun r s' hq' => ?_))
  match r, hq' with
  | .error er, hq' => exact passAt tk σ pins _ _ er s' I2 hq'
  | .ok (.ret u), hq' =>
    obtain ⟨v, H', I3, rv, ev, q3⟩ := I2.after hq'
    subst ev
    exact ⟨rv, ⟨V.ref (s1.heap.objs.size + 1), H', I3, rfl, q3⟩⟩
end
end RC
/-! ## calls by keywords alone -/
namespace RC
open PySem PySem.Spec PyProof.Rows L2
/-- these of the values, in this order -/
def pick {α : Type} (p : List Nat) (zs : List α) : List α := p.filterMap fun i => zs[i]?
theorem vals_get : ∀ {vs : List V} {us : List Value}, Vals vs us → ∀ i : Nat, (vs[i]? = none ∧ us[i]? = none) ∨ ∃ v u, vs[i]? = some v ∧ us[i]? = some u ∧ RelV v u
  | _, _, .nil, i => .inl ⟨rfl, rfl⟩
  | _, _, .cons r _, 0 => .inr ⟨_, _, rfl, rfl, r⟩
  | _, _, .cons _ t, i + 1 => vals_get t i
theorem pick_vals {vs : List V} {us : List Value} (r : Vals vs us) : ∀ p : List Nat, Vals (pick p vs) (pick p us)
  | [] => .nil
  | i :: p => by
    have h := pick_vals r p
    rcases vals_get r i with ⟨a, b⟩ | ⟨v, u, a, b, rv⟩
    · unfold pick at h ⊢
      rw [List.filterMap_cons_none a, List.filterMap_cons_none b]
      exact h
    · unfold pick at h ⊢
      rw [List.filterMap_cons_some a, List.filterMap_cons_some b]
      exact .cons rv h
theorem pick_rel {vs zs : List V} {us ws : List Value} (r : Vals vs us) (p : List Nat) (q : Vals zs ws) : Vals (vs ++ pick p zs) (us ++ pick p ws) := r.append (pick_vals q p)
section
variable {K : PySem.W.Frag} {x qual : Str} {params : Arguments} {body : List Stmt} {scope : Scope} {f : Addr} {fd : FuncData} {ps : List Str}
theorem kb_of (F : FunD K x qual params body scope [] [] f fd) {n : Nat} {ks : List Str} {p : List Nat}
    (h : ∀ (kV doc pm : Value) (an : Option Addr) (cdv ct : Value) (us ws : List Value), us.length = n → ws.length = ks.length → bindArgs (PySem.W.fnOf x qual params body scope .none kV doc pm an cdv ct) ⟨us, ks.zip ws⟩ = pure (ps.zip (us ++ pick p ws))) :
    KBn K fd ps n ks (fun us ws => us ++ pick p ws) (fun vs zs => vs ++ pick p zs) where
  rel a b := pick_rel a p b
  to s us ws _ l1 l2 := by
    have ⟨_, _, _, kv, dc, pm, an, cd, ct, _, made, _, _, dfl, _⟩ := F.ex
    subst made
    match dfl with
    | .inl ⟨_, none_⟩ =>
      subst none_
      exact .of_eq (h kv dc pm an cd ct us ws l1 l2)
    | .inr ⟨some_, _⟩ => exact absurd rfl some_
end
/-- the keywords' values, put in the parameters' order -/
def tPick (p : List Nat) (m : Nat) (tk : TA) : TA := fun σ H Q => tk σ H fun zs H1 => zs.length = m ∧ Q (pick p zs) H1
/-- how a call by keywords alone is written: each has a name, these are the names, nothing is starred -/
structure Named (X : Cx) (at_ : Pos) (kws : List Keyword) (ks : List Str) : Prop where
  each : List.all (backToKw at_ (keywordEach kws X.env)) (fun q => q.1.isSome) = true
  names : List.filterMap (fun q => q.1) (backToKw at_ (keywordEach kws X.env)) = ks
  plain : (List.any (backTo at_ (starEach [] X.env)) (fun q => q.1) || List.any (backToKw at_ (keywordEach kws X.env)) fun q => q.1.isNone) = false
section
variable {X : Cx} {CX : CXT} {n : Nat} {fn C : Addr} {fd : FuncData} {ps ks : List Str} {sp : Sp} {E : XK} {id mn : Str} {p1 p2 p3 : Pos} {obj : Expr} {kws : List Keyword} {ta : TE} {tk : TA} {pi : List Nat}
/-- the values, then what stands behind them -/
theorem kw_run (kw : PK X kws tk) (N : Named X p2 kws ks) {f : Value} {first : List Value} {pins : List (Addr × Obj)} {σ : L2.St} {H : Hp} {s : Shared} {Q : Value → Shared → Prop} {T : List V → Hp → Prop} (I : Inv X pins σ H s) (keep : PySem.W.keepIn X.K f = true) (h : tk σ H T)
    (go : ∀ ws zs s2 H2, Inv X pins σ H2 s2 → Vals zs ws → T zs H2 → wpAny (model X.prog X.w) X.A (call f (first ++ []) (ks.zip ws)) Q X.xe s2) :
    wpAny (model X.prog X.w) X.A (callWith p2 f first (backTo p2 (starEach [] X.env)) (backToKw p2 (keywordEach kws X.env))) Q X.xe s := by
  have run := kw.run p2 pins s σ H T I h
  exact PySem.W.callWith_KW0 (h₀ := X.base) I.ok.mod.kin keep N.each (thn run fun ws s2 ⟨zs, H2, J, r, t⟩ => ⟨J.kIn, N.names.symm ▸ go ws zs s2 H2 J r t⟩) N.plain
/-- f(k = v, ..) -/
theorem pe_fnK (F : FnOk X.prog X.w X.K X.mg X.base CX n fn fd ps sp) (room : Room n X.A) (gl : Gl X id) (here : X.mg id = some (.ref fn)) (keep : PySem.W.keepIn X.K (.ref fn) = true) (kb : KBn X.K fd ps 0 ks (fun us ws => us ++ pick pi ws) (fun vs zs => vs ++ pick pi zs)) (pass : Passes CX X E) (kw : PK X kws tk)
    (N : Named X p2 kws ks := by exact ⟨by rfl, by rfl, by rfl⟩) (db : (id == ("__debug__" : Str)) = false := by decide) : PE X (.Call (.Name id p1) [] kws p2) (tCall sp [] E (tPick pi ks.length tk)) where
  run pins s σ H Q I h := wpAny_Call_Name_kw (ld_glob I gl here (kw_run kw N I keep h fun ws zs s2 H2 J r t => by
    have t2 : sp (pick pi zs ++ []) H2 Q E := t.2
    rw [List.append_nil] at t2
    exact run_fnN (us := []) (vs := []) F room kb pass J .nil r rfl t.1 t2) db)
/-- o.m(k = v, ..) -/
theorem pe_methK {pl : Sem Bool} (he : PE X obj ta) (cl : Cls X.K C) (me : Meth X.K C mn fn) (F : FnOk X.prog X.w X.K X.mg X.base CX n fn fd ps sp) (room : Room n X.A) (kb : KBn X.K fd ps 1 ks (fun us ws => us ++ pick pi ws) (fun vs zs => vs ++ pick pi zs)) (pass : Passes CX X E) (kw : PK X kws tk)
    (N : Named X p2 kws ks := by exact ⟨by rfl, by rfl, by rfl⟩)
    (way : eval (.Call (.Attribute obj mn p3) [] kws p2) X.env = (do
      let o ← eval obj X.env
      standAt p3.atName
      let (m, own) ← holding [o] (getMethod o mn pl)
      callWith p2 m own (backTo p2 (starEach [] X.env)) (backToKw p2 (keywordEach kws X.env))) := by rfl) :
    PE X (.Call (.Attribute obj mn p3) [] kws p2) (tMeth C mn sp [] E ta (tPick pi ks.length tk)) where
  run pins s σ H Q I h := PySem.W.methodCall_KW (pl := pl) (thn (he.run pins s σ H _ I h) fun u s1 ⟨y, H1, I1, ry, a, dx, fs, ey, ea, none_, q⟩ => by
    subst ey
    have same : u = .ref a := ry
    subst same
    exact getmeth_ok I1 ea cl me none_ (kw_run (first := [.ref a]) kw N I1 me.kp q fun ws zs s2 H2 J r t => by
      have t2 : sp (.ref a :: (pick pi zs ++ [])) H2 Q E := t.2
      rw [List.append_nil] at t2
      exact run_fnN (us := [.ref a]) (vs := [.ref a]) F room kb pass J (.cons rfl .nil) r rfl t.1 t2)) way
/-- C(k = v, ..) -/
theorem pe_makeK (M : Mk X.K C fn) (F : FnOk X.prog X.w X.K X.mg X.base CX n fn fd ps sp) (room : Room (n + 1) X.A) (gl : Gl X id) (here : X.mg id = some (.ref C)) (kb : KBn X.K fd ps 1 ks (fun us ws => us ++ pick pi ws) (fun vs zs => vs ++ pick pi zs)) (pass : Passes CX X E) (kw : PK X kws tk)
    (N : Named X p2 kws ks := by exact ⟨by rfl, by rfl, by rfl⟩) (db : (id == ("__debug__" : Str)) = false := by decide) : PE X (.Call (.Name id p1) [] kws p2) (tMake C sp [] E (tPick pi ks.length tk)) where
  run pins s σ H Q I h := wpAny_Call_Name_kw (ld_glob I gl here (kw_run kw N I M.kp h fun ws zs s2 H2 J r t => run_makeK (us := []) (vs := []) M F room kb pass J .nil r rfl t.1 fun y dx f1 f2 f3 => by
    have t2 : sp (.ref y :: (pick pi zs ++ [])) (upd (upd H2 dx (.own y)) y (.ins C dx [])) (fun v H3 => v = .non ∧ Q (.ref y) H3) E := t.2 y dx f1 f2 f3
    rw [List.append_nil] at t2
    exact t2) db)
end
end RC
/-! ## Errors made as values: classes, ways to call them -/
namespace RC
open PySem PySem.Spec PyProof.Rows L2
open PySem.W PySem.Calls
/-- the arguments of __init__(self, f=None): self at x, the field v -/
inductive ArO (f : Str) : Args → Addr → Value → Prop
  | pos {x : Addr} {v : Value} : ArO f ⟨[.ref x, v], []⟩ x v
  | kw {x : Addr} {v : Value} : ArO f ⟨[.ref x], [(f, v)]⟩ x v
  | bare {x : Addr} : ArO f ⟨[.ref x], []⟩ x .none
/-- an error made: at e, its dict at d -/
structure ErrMadeF (f : Str) (h h' : Heap) (e C d : Addr) (v : Value) : Prop where
  keep : ∀ b o, h.get? b = some o → h'.get? b = some o
  new : h.objs.size ≤ e
  obj : ∃ oe vs, h'.get? e = some oe ∧ oe.cls = .ref C ∧ oe.dict = some d ∧ oe.data = .fields vs ∧ vs[1]? = some .none
  dbig : h.objs.size ≤ d
  dne : d ≠ e
  ns : h'.Ns1 d (fun y => if y = f then some v else none)
section
variable {prog : Program} {w : World} {A : Around} {E : Value → Shared → Prop} {R : Result → Shared → Prop} {h : Heap} {g : Array GenState} {d : Drawn} {t : Nat} {os : OsState}
variable {nm q : Str} {C N : Addr} {bs bm bmB : List Value} {hdct : Bool} {sn : List Str} {sub : List Value} {ab : Bool} {col : Option Bool} {dd : Option Addr} {k0 k1 k2 k3 k5 : Option Value} {B newId initId : String}
theorem chk_new (F : ExcBaseFacts B newId initId bmB) (same : ∀ X : String, bm.contains (.type X) = bmB.contains (.type X)) {rest : List Value} {kw : List (Str × Value)} {Q : Unit → Shared → Prop}
    (hC : h.get? C = some (excClassObj nm q C N bs bm hdct sn sub ab col dd k0 k1 k2 k3 k5 newId)) (fin : Q () ⟨h, g, d, t, os⟩) : wpAny (model prog w) A (checkBuiltinCall newId ⟨.ref C :: rest, kw⟩) Q E ⟨h, g, d, t, os⟩ := by
  have inB : (Value.ref C :: bm).contains (.type B) = true := by
    rw [List.contains_cons, same, F.hasB, Bool.or_true]
  have ns := F.noStar
  simp only [checkBuiltinCall, F.newKind, F.newSplit, F.newRow]
  repeat (first
    | refine wpAny_loadPart_at hC ?_
    | refine wpAny_staticBase_exc hC ?_
    | refine wpAny_madeBy_exc hC ?_
    | (refine wpAny_isSubtype_exc hC ?_; rw [inB])
    | simp only [bne_self_eq_false, Bool.false_eq_true, if_false]
    | wp_step)
  exact fin
theorem chk_call {rest : List Value} {kw : List (Str × Value)} {Q : Unit → Shared → Prop} (hC : h.get? C = some (excClassObj nm q C N bs bm hdct sn sub ab col dd k0 k1 k2 k3 k5 newId))
    (fin : Q () ⟨h, g, d, t, os⟩) : wpAny (model prog w) A (checkBuiltinCall "type.__call__" ⟨.ref C :: rest, kw⟩) Q E ⟨h, g, d, t, os⟩ := by
  have f3 := tc_sub
  have ty : (⟨h, g, d, t, os⟩ : Shared).TypeIs (.ref C) "type" := ⟨_, hC, rfl⟩
  simp only [checkBuiltinCall, tc_kind, tc_split]
  repeat (any_goals (first
    | assumption
    | with_reducible refine wpAny_loadPart_at hC ?_
    | with_reducible refine wpAny_onRaise ?_
    | with_reducible refine wpAny_map ?_
    | wp_step))
theorem new_kw (F : ExcBaseFacts B newId initId bmB) (same : ∀ X : String, bm.contains (.type X) = bmB.contains (.type X)) {rest : List Value} {kw : List (Str × Value)}
    (hC : h.get? C = some (excClassObj nm q C N bs bm hdct sn sub ab col dd k0 k1 k2 k3 k5 newId)) (hl : rest.length ≤ sizeLine)
    (fin : R (.ok (.ret (.ref (h.objs.size + 1)))) ⟨(h.push (kdv_tup rest)).push (HandSPX.excO C h.objs.size), g, d, t, os⟩) :
    codeAny (model prog w) A (.builtin newId ⟨.ref C :: rest, kw⟩) R ⟨h, g, d, t, os⟩ := by
  have ends := F.ends
  have isB : (Value.ref C :: bm).contains (.type B) = true := by
    rw [List.contains_cons, same, F.hasB, Bool.or_true]
  have noA : (Value.ref C :: bm).contains (.type "AttributeError") = false := by
    rw [List.contains_cons, same, F.noAttr]
    rfl
  have noN : (Value.ref C :: bm).contains (.type "NameError") = false := by
    rw [List.contains_cons, same, F.noName]
    rfl
  refine codeAny_builtinAt F.entry ?_
  unfold Builtin.«BaseException.__new__»
  refine _root_.PySem.wpAt_bind ?_
  show _root_.PySem.wpAt _ _ _ (stack >>= _) _ _ _
  refine _root_.PySem.wpAt_bind (_root_.PySem.wpAt_stack fun p below => _root_.PySem.wpAt_of_wpAny ?_)
  wp_walk
  refine _root_.PySem.wpAt_of_wpAny ?_
  rw [F.owner]
  repeat (first
    | with_reducible refine wpAny_loadPart_at hC ?_
    | with_reducible refine wpAny_madeHere_exc F.canon hC ?_
    | (with_reducible refine wpAny_isSubtype_exc hC ?_; first | rw [isB] | rw [noA] | rw [noN])
    | wp_step)
  show R _ _
  rw [Heap.size_push]
  exact fin
theorem exc_callT (F : ExcBaseFacts B newId initId bmB) (same : ∀ X : String, bm.contains (.type X) = bmB.contains (.type X)) {rest : List Value} {kw : List (Str × Value)} {fI : Addr} {Q : Fin → Shared → Prop}
    (hC : h.get? C = some (excClassObj nm q C N bs bm hdct sn sub ab col dd k0 k1 k2 k3 k5 newId))
    (hi : Looks (model prog w) h (typeLookup (.ref C) "__init__") (some (.ref fI))) (hb : ∀ self, Looks (model prog w) h (bindSpecial (.ref fI) self) (.ref fI, [self])) (hl : rest.length ≤ sizeLine)
    (fin : codeAny (model prog w) A (.call (.ref fI) ⟨.ref (h.objs.size + 1) :: rest, kw⟩)
      (fun r s' => match r with | .ok (.ret v) => v = .none ∧ Q (.done (.ret (.ref (h.objs.size + 1)))) s' | .ok _ => False | .error e => E e s')
      ⟨(h.push (kdv_tup rest)).push (HandSPX.excO C h.objs.size), g, d, t, os⟩) :
    wpAny (model prog w) A (Builtin.«type.__call__» ⟨.ref C :: rest, kw⟩) Q E ⟨h, g, d, t, os⟩ := by
  repeat (first | with_reducible refine wpAny_madeBy_exc hC ?_ | with_reducible refine wpAny_loadPart_at hC ?_ | wp_step)
  refine codeAny_call_builtin_code (Code.quiet_builtin _ F.quiet) (chk_new F same hC ?_)
  refine new_kw F same hC hl ?_
  show wpAny _ _ _ _ _ _
  have k : ∀ b o, h.get? b = some o → ((h.push (kdv_tup rest)).push (HandSPX.excO C h.objs.size)).get? b = some o := fun b o e => Heap.get?_push_of_some _ (Heap.get?_push_of_some _ e)
  have hC2 := k _ _ hC
  have self : ((h.push (kdv_tup rest)).push (HandSPX.excO C h.objs.size)).get? (h.objs.size + 1) = some (HandSPX.excO C h.objs.size) := by heap_get
  have me : (Value.ref C :: bm).contains (.ref C) = true := by simp
  have i2 := hi.keeps k
  have b2 := (hb (.ref (h.objs.size + 1))).keeps k
  unfold isInstance
  repeat (first
    | with_reducible refine wpAny_loadPart_at self ?_
    | (with_reducible refine wpAny_isSubtype_exc hC2 ?_; rw [me])
    | wp_step)
  show wpAny _ _ (typeLookup (.ref C) _) _ _ _
  refine i2.at (wpAny_holding (wpAny_bind (b2.at ?_)))
  refine wpAny_bind (wpAny_call (codeAny_mono fin fun r s2 z => ?_))
  match r, z with
  | .error e, z => exact z
  | .ok (.ret v), z =>
    obtain ⟨rfl, z⟩ := z
    first
      | exact wpAny_pure (wpAny_pure z)
      | (wp_walk
         exact z)
  | .ok .next, z => exact z.elim
  | .ok .brk, z => exact z.elim
  | .ok .cont, z => exact z.elim
/-- C(.., k = v): the new error, then __init__ -/
theorem exc_callK (F : ExcBaseFacts B newId initId bmB) (same : ∀ X : String, bm.contains (.type X) = bmB.contains (.type X)) {rest : List Value} {kw : List (Str × Value)} {fI : Addr}
    (hC : h.get? C = some (excClassObj nm q C N bs bm hdct sn sub ab col dd k0 k1 k2 k3 k5 newId))
    (hi : Looks (model prog w) h (typeLookup (.ref C) "__init__") (some (.ref fI))) (hb : ∀ self, Looks (model prog w) h (bindSpecial (.ref fI) self) (.ref fI, [self])) (hl : rest.length ≤ sizeLine)
    (fin : codeAny (model prog w) (A.under (.builtin "type.__call__" ⟨.ref C :: rest, kw⟩)) (.call (.ref fI) ⟨.ref (h.objs.size + 1) :: rest, kw⟩) (InitBack (h.objs.size + 1) R)
      ⟨(h.push (kdv_tup rest)).push (HandSPX.excO C h.objs.size), g, d, t, os⟩) :
    codeAny (model prog w) A (.call (.ref C) ⟨rest, kw⟩) R ⟨h, g, d, t, os⟩ := by
  have f1 := tc_lookup
  have f2 := tc_bind (.ref C)
  have ty : (⟨h, g, d, t, os⟩ : Shared).TypeIs (.ref C) "type" := ⟨_, hC, rfl⟩
  refine codeAny_of_tree ?_
  show wpAny _ _ (callAny (.ref C) _) _ _ _
  repeat (any_goals (first | assumption | wp_step | with_reducible refine wpAny_loadPart_at hC ?_))
  refine ⟨rfl, ?_⟩
  refine codeAny_call_builtin_at (Code.quiet_builtin _ (by decide +kernel)) entry_typeCall (chk_call hC (exc_callT F same hC hi hb hl ?_))
  refine codeAny_mono fin fun r s2 z => ?_
  rcases r with e | (v | _ | _ | _) <;> exact z
end
end RC
/-! ## Errors made as values: the field value -/
namespace ErV
open PySem PySem.Spec PyProof.Rows L2 RC
open PySem.W PySem.Calls
def eAr (p1 p2 p3 : Pos) : Arguments := { posonlyargs := [], args := [{ arg := "self", annotation := none, pos := p1 }, { arg := "value", annotation := none, pos := p2 }], vararg := none, kwonlyargs := [], kw_defaults := [], kwarg := none, defaults := [.Constant .none 0 p3] }
def eBo (q1 q2 q3 q4 q5 q6 q7 q8 q9 q10 : Pos) : List Stmt := [.Expr (.Call (.Attribute (.Call (.Name "super" q1) [] [] q2) "__init__" q3) [.Name "value" q4] [] q5) q6, .Assign [.Attribute (.Name "self" q7) "value" q8] (.Name "value" q9) q10]
def eSc : Scope := { kind := .function, names := [(PySem.Str.ofString "self", .local), (PySem.Str.ofString "value", .local), (PySem.Str.ofString "__class__", .free), (PySem.Str.ofString "super", .globalImplicit)], isGenerator := false, isCoroutine := false, more := [] }
/-- what the written part says of the error class at C and its __init__ at fI -/
structure ErrC (P : Program) (K : Frag) (mg : Str → Option Value) (C fI : Addr) : Prop where
  ini : ∃ nm q N bs bm sn sub ab col dd k0 k1 k2 k3 k5, K.lookup C = some (excClassObj nm q C N bs bm true sn sub ab col dd k0 k1 k2 k3 k5 "ValueError.__new__") ∧ HandSPX.refsVE bm = true
  sa : findIn K (.ref C) "__setattr__" = some (some (.builtin "object.__setattr__"))
  ga : findIn K (.ref C) "__getattribute__" = some (some (.builtin "BaseException.__getattribute__"))
  gg : findIn K (.ref C) "__getattr__" = some none
  no : findIn K (.ref C) "value" = some none
  iC : findIn K (.ref C) "__init__" = some (some (.ref fI))
  tI : typeIn K (.ref fI) = some (.type "function")
  kC : keepIn K (.ref C) = true
  exC : subIn K (.ref C) (.type "BaseException") = some true
  veC : subIn K (.ref C) (.type "ValueError") = some true
  tyC : typeIn K (.ref C) = some (.type "type")
  hdC : hasDictIn K C = true
  mC : mroIn K C (.ref C) = some true
  eI : excInitIn K C vB "ValueError.__new__" = true
  sup : ks_superIn K C C "__init__" = some (some (.builtin "ValueError.__init__"))
  opq : nsIn K cStatics "thirdparty.any" = some none
  nsu : mg "super" = none
  top : (P.main.scope.names.lookup ("super" : Str)).isSome = false
  fn : ∃ (oc cl ccl : Value) (od cdd cld : Option Addr) (qual : Str) (dV kV doc pm ct : Value) (an : Option Addr) (osl ccs csl : Array (Option Value)) (cda cc : Addr) (vs : Array Value) (file : Str) (tf : Tok) (p1 p2 p3 q1 q2 q3 q4 q5 q6 q7 q8 q9 q10 : Pos),
    K.lookup fI = some ⟨oc, od, .func (ksFn "__init__" qual (eAr p1 p2 p3) (eBo q1 q2 q3 q4 q5 q6 q7 q8 q9 q10) eSc dV kV doc pm an (.ref cda) ct cc), osl⟩ ∧ codeIn K (.ref cda) qual = true ∧
      K.lookup cda = some ⟨ccl, cdd, .fields vs, ccs⟩ ∧ vs[2]? = some (.str file tf) ∧ ((P.main.file : Str) == file) = true ∧ K.lookup cc = some ⟨cl, cld, .cell (some (.ref C)), csl⟩ ∧
      (q3.endLine == q5.line) = true ∧ (∃ (Td : Addr) (o : Obj) (n : Nat), dV = .ref Td ∧ K.lookup Td = some o ∧ o.data = .seq #[.none] n)
section
variable {prog : Program} {w : World} {A : Around} {E : Value → Shared → Prop} {R : Result → Shared → Prop} {s : Shared} {K : Frag} {mg : Str → Option Value} {C fI : Addr}
/-- the body of __init__, behind the entry: x the new error -/
theorem err_init (T : ErrC prog K mg C fI) {h0 : Heap} {x t0 : Addr} {v : Value} {ar : Args} (hm : ArO "value" ar x v) (X : K.In h0) (G : Beside mg h0) (k0 : ∀ b o, h0.get? b = some o → s.heap.get? b = some o) (hx : s.heap.get? x = some (excObj C t0 none .none)) (nx : h0.get? x = none) (hz : h0.objs.size ≤ s.heap.objs.size) (hroom : A.depth < recursionLimit)
    (hq : ∀ h' tk dx t1, (∀ b o, h0.get? b = some o → h'.get? b = some o) → h'.get? x = some { cls := .ref C, dict := some dx, data := .fields #[.ref t1, .none, .none, .none, .bool false, .none] } → h0.objs.size ≤ dx → dx ≠ x → h'.Ns1 dx (fun y => if y = "value" then some v else none) → R (.ok (.ret .none)) { s with heap := h', toks := tk }) :
    codeAny (model prog w) A (.call (.ref fI) ar) R s := by
  obtain ⟨oc, cl, ccl, od, cdd, cld, qual, dV, kV, doc, pm, ct, an, osl, ccs, csl, cda, cc, vs, file, tf, p1, p2, p3, q1, q2, q3, q4, q5, q6, q7, q8, q9, q10, ho, hcd, hcode, hvs, hfile, hcell, hpos, Td, oT, nT, rfl, hT, hTd⟩ := T.fn
  obtain ⟨nm, q, N, bs, bm, sn, sub, ab, col, dd, k0', k1, k2, k3, k5, hC, hbm⟩ := T.ini
  have hcl : clsIn K C = some { name := nm, bases := bs, mro := .ref C :: bm, ns := N, qualname := q, hasDict := true, slotNames := sn, subclasses := sub, abstract := ab, collection := col, hasDel := false } := by unfold clsIn; rw [hC] <;> rfl
  have Xs : K.In s.heap := X.keeps k0
  have hbd : BindsTo s (ksFn "__init__" qual (eAr p1 p2 p3) (eBo q1 q2 q3 q4 q5 q6 q7 q8 q9 q10) eSc (.ref Td) kV doc pm an (.ref cda) ct cc) ar [("self", .ref x), ("value", v)] := by
    cases hm with
    | pos => exact BindsTo.of_defaults (T := Td) rfl (Xs _ _ hT) hTd rfl rfl
    | kw => exact BindsTo.of_defaults (T := Td) rfl (Xs _ _ hT) hTd rfl rfl
    | bare => exact BindsTo.of_defaults (T := Td) rfl (Xs _ _ hT) hTd rfl rfl
  have hcells : ∀ y ∈ eSc.names, y.2 ≠ .cell := by decide
  have hlocs : ∀ y ∈ [(("self" : Str), Value.ref x), (("value" : Str), v)], eSc.names.lookup y.1 = some .local := fun y hy => by
    rcases List.mem_cons.mp hy with rfl | hy
    · rfl
    · obtain rfl := List.mem_singleton.mp hy
      rfl
  refine ks_codeAny_call_defAt (body := eBo q1 q2 q3 q4 q5 q6 q7 q8 q9 q10) (binds := [("self", .ref x), ("value", v)]) hroom (Xs _ _ ho) rfl (G.lim.keeps k0) (codeRec_of Xs hcd) rfl hbd hcells hlocs (fun h1 hn1 kk => ?_)
  have hxL : s.heap.objs.size ≠ x := Nat.ne_of_gt (Heap.lt_size hx)
  have F1 : Fr h0 s.heap.objs.size h1 (fun y => List.lookup y [(("value" : Str), v), (("self" : Str), .ref x)]) := ⟨hn1, fun b o e => kk b o (k0 b o e), hz⟩
  have N1 : News h0 s.heap.objs.size h1 [(x, excObj C t0 none .none)] := fun p hp => by
    obtain rfl := List.mem_singleton.mp hp
    exact ⟨kk _ _ hx, hxL.symm, nx⟩
  generalize hL : s.heap.objs.size = L at F1 N1 hxL ⊢
  show _root_.PySem.wpAt (model prog w) (A.deeper (ksEnv qual eSc L fI (.ref cda) cc)) (.func (eBo q1 q2 q3 q4 q5 q6 q7 q8 q9 q10) (ksEnv qual eSc L fI (.ref cda) cc)) (execs (eBo q1 q2 q3 q4 q5 q6 q7 q8 q9 q10) (ksEnv qual eSc L fI (.ref cda) cc)) _ _ _
  refine ks_wpAt_execs_cons (ks_wpAt_Expr_any (ks_wpAt_MethodCall (he := meth_eval hpos rfl) ?_))
  have X1 : K.In h1 := X.keeps F1.keep
  obtain ⟨mb, hb1, hb2⟩ := G.b
  obtain ⟨oD, hD1, hD2⟩ : ∃ oD, h1.get? C = some oD ∧ ∃ cd, oD.data = .cls cd := ⟨_, X1 _ _ hC, _, rfl⟩
  obtain ⟨cdD, hD2⟩ := hD2
  refine ks_wpAt_super_base (env := ksEnv qual eSc L fI (.ref cda) cc) (f := fI) (cc := cda) rfl rfl (by decide) rfl (X1 _ _ ho) rfl rfl rfl (X1 _ _ hcode) rfl hvs hfile T.top ?_
  refine ks_loadName_global rfl rfl (loadGlobal_builtin (env := ksEnv qual eSc L fI (.ref cda) cc) (G.g.keeps F1.keep) T.nsu (hb1.keeps F1.keep) ((hb2 _ (by decide +kernel)).trans (by first | boot_by_name | rfl | kernel_rfl)) ⟨rfl, ?_⟩)
  refine wpAny_loadName_free rfl rfl rfl ⟨_, X1 _ _ hcell, rfl⟩ ?_
  refine wpAny_loadName_local (v := .ref x) rfl rfl F1.ns (by first | rfl | with_unfolding_all rfl | kernel_rfl) ?_
  refine ks_wpAny_isType_cls hD1 hD2 ⟨rfl, ?_⟩
  refine ks_wpAny_call_super hD1 hD2 (N1 _ List.mem_cons_self).1 rfl (fun c e => by cases e) (looks_mroIn X1 T.mC) (fun h2 e2 k2 => ?_)
  obtain ⟨F2, N2, l2⟩ := ks_newsPush (s := ⟨h1, s.gens, s.drawn, s.toks + 2, s.os⟩) F1 N1 rfl e2 k2
  refine kxs_method kxs_ValueError F2 X N2 (D := C) (x := x) (C := C) List.mem_cons_self (InstAt.of_exc0 N2 (List.mem_cons_of_mem _ List.mem_cons_self)) T.opq T.sup T.veC (by decide) (fun u h3 F3 N3 l3 => ?_)
  refine kxs_callWith1 (i := "ValueError.__init__") (x := x) N3 List.mem_cons_self ?_
  refine spliced_cons (ld_loc (v := v) F3.ns (by first | rfl | with_unfolding_all rfl | kernel_rfl) (spliced_nil ⟨kxs_at N3 List.mem_cons_self, ?_⟩))
  have ux : u ≠ x := fun z => by
    have := l3 (x, excObj C t0 none .none) (List.mem_cons_of_mem _ List.mem_cons_self)
    rw [z] at this
    exact absurd this (Nat.lt_irrefl _)
  have sx : h1.objs.size ≠ x := Nat.ne_of_gt (Heap.lt_size (N1 _ List.mem_cons_self).1)
  refine kxs_call (dv := none) (c2 := .none) F3 X N3 PySem.F.excBase_ValueError T.eI List.mem_cons_self (.tail ux (.tail sx (.head fun _ z => (nomatch z)))) (by show 1 ≤ sizeLine; decide) (fun t1 h4 F4 N4 l4 => ?_)
  show _root_.PySem.wpAt _ _ _ (execs _ _) _ _ _
  refine wpAt_of_wpAny (wpAny_execs_cons (plainObj_wpAny_Assign_Attribute ?_))
  refine ld_loc (v := v) F4.ns (by first | rfl | with_unfolding_all rfl | kernel_rfl) (ld_loc (v := .ref x) F4.ns (by first | rfl | with_unfolding_all rfl | kernel_rfl) ?_)
  have hx4 : h4.get? x = some (excObj C t1 none .none) := (N4 (x, excObj C t1 none .none) (.tail _ (.tail _ (.tail _ (.head _))))).1
  have X4 : K.In h4 := X.keeps F4.keep
  refine set_plain X4 (ox := excObj C t1 none .none) (od := none) ⟨hx4, rfl, rfl, trivial⟩ T.sa ?_
  refine HandSPX.exc_osa X4 hx4 hcl (show HandSPX.refsVE (.ref C :: bm) = true from hbm) rfl T.no (fun h5 tk5 dx k5 dn dne hx5 hn5 => ?_)
  show wpAny _ _ (execs _ _) _ _ _
  have z : L < h4.objs.size := F4.ns.lt
  have hz' : h0.objs.size ≤ dx := Nat.le_trans F4.above (Nat.le_trans (Nat.le_of_lt z) dn)
  exact wpAny_execs_nil (hq h5 tk5 dx t1 (fun b o e => k5 b o (fun y => by rw [y, nx] at e; cases e) (F4.keep b o e)) hx5 hz' dne hn5)
/-- C(..): the error made -/
theorem err_new (T : ErrC prog K mg C fI) {v : Value} {rest : List Value} {kw : List (Str × Value)} (hm : ∀ x, ArO "value" ⟨.ref x :: rest, kw⟩ x v) (X : K.In s.heap) (G : Beside mg s.heap) (hroom : A.depth + 1 < recursionLimit) (hl : rest.length ≤ sizeLine)
    (hq : ∀ h' tk e d, ErrMadeF "value" s.heap h' e C d v → R (.ok (.ret (.ref e))) { s with heap := h', toks := tk }) :
    codeAny (model prog w) A (.call (.ref C) ⟨rest, kw⟩) R s := by
  obtain ⟨nm, q, N, bs, bm, sn, sub, ab, col, dd, k0, k1, k2, k3, k5, hC, hbm⟩ := T.ini
  obtain ⟨hp, g, dr, tk, os⟩ := s
  have k : ∀ b o, hp.get? b = some o → ((hp.push (kdv_tup rest)).push (HandSPX.excO C hp.objs.size)).get? b = some o := fun b o e => Heap.get?_push_of_some _ (Heap.get?_push_of_some _ e)
  have hget : ((hp.push (kdv_tup rest)).push (HandSPX.excO C hp.objs.size)).get? (hp.objs.size + 1) = some (HandSPX.excO C hp.objs.size) := by heap_get
  have hnx : hp.get? (hp.objs.size + 1) = none := by
    cases e : hp.get? (hp.objs.size + 1) with
    | none => rfl
    | some o => exact absurd (Nat.lt_of_succ_lt (Heap.lt_size e)) (Nat.lt_irrefl _)
  refine exc_callK PySem.F.excBase_ValueError (fun Y => HandSPX.refsVE_contains Y bm hbm) (X _ _ hC) (looks_findIn X T.iC) (fun self => bind_fn X self T.tI) hl ?_
  refine err_init (s := ⟨(hp.push (kdv_tup rest)).push (HandSPX.excO C hp.objs.size), g, dr, tk, os⟩) (h0 := hp) T (hm _) X G k hget hnx (by rw [Heap.size_push, Heap.size_push]; omega) (by show A.depth + 1 < recursionLimit; exact hroom) fun h' tk' dx t1 k' hx dn dne hns => ?_
  exact ⟨rfl, hq h' tk' (hp.objs.size + 1) dx ⟨k', Nat.le_succ _, ⟨_, _, hx, rfl, rfl, rfl, rfl⟩, dn, dne, hns⟩⟩
end
end ErV
/-! ## Errors made as values: the field name -/
namespace ErN
open PySem PySem.Spec PyProof.Rows L2 RC
open PySem.W PySem.Calls
def eAr (p1 p2 p3 : Pos) : Arguments := { posonlyargs := [], args := [{ arg := "self", annotation := none, pos := p1 }, { arg := "name", annotation := none, pos := p2 }], vararg := none, kwonlyargs := [], kw_defaults := [], kwarg := none, defaults := [.Constant .none 0 p3] }
def eBo (q1 q2 q3 q4 q5 q6 q7 q8 q9 q10 : Pos) : List Stmt := [.Expr (.Call (.Attribute (.Call (.Name "super" q1) [] [] q2) "__init__" q3) [.Name "name" q4] [] q5) q6, .Assign [.Attribute (.Name "self" q7) "name" q8] (.Name "name" q9) q10]
def eSc : Scope := { kind := .function, names := [(PySem.Str.ofString "self", .local), (PySem.Str.ofString "name", .local), (PySem.Str.ofString "__class__", .free), (PySem.Str.ofString "super", .globalImplicit)], isGenerator := false, isCoroutine := false, more := [] }
/-- what the written part says of the error class at C and its __init__ at fI -/
structure ErrC (P : Program) (K : Frag) (mg : Str → Option Value) (C fI : Addr) : Prop where
  ini : ∃ nm q N bs bm sn sub ab col dd k0 k1 k2 k3 k5, K.lookup C = some (excClassObj nm q C N bs bm true sn sub ab col dd k0 k1 k2 k3 k5 "ValueError.__new__") ∧ HandSPX.refsVE bm = true
  sa : findIn K (.ref C) "__setattr__" = some (some (.builtin "object.__setattr__"))
  ga : findIn K (.ref C) "__getattribute__" = some (some (.builtin "BaseException.__getattribute__"))
  gg : findIn K (.ref C) "__getattr__" = some none
  no : findIn K (.ref C) "name" = some none
  iC : findIn K (.ref C) "__init__" = some (some (.ref fI))
  tI : typeIn K (.ref fI) = some (.type "function")
  kC : keepIn K (.ref C) = true
  exC : subIn K (.ref C) (.type "BaseException") = some true
  veC : subIn K (.ref C) (.type "ValueError") = some true
  tyC : typeIn K (.ref C) = some (.type "type")
  hdC : hasDictIn K C = true
  mC : mroIn K C (.ref C) = some true
  eI : excInitIn K C vB "ValueError.__new__" = true
  sup : ks_superIn K C C "__init__" = some (some (.builtin "ValueError.__init__"))
  opq : nsIn K cStatics "thirdparty.any" = some none
  nsu : mg "super" = none
  top : (P.main.scope.names.lookup ("super" : Str)).isSome = false
  fn : ∃ (oc cl ccl : Value) (od cdd cld : Option Addr) (qual : Str) (dV kV doc pm ct : Value) (an : Option Addr) (osl ccs csl : Array (Option Value)) (cda cc : Addr) (vs : Array Value) (file : Str) (tf : Tok) (p1 p2 p3 q1 q2 q3 q4 q5 q6 q7 q8 q9 q10 : Pos),
    K.lookup fI = some ⟨oc, od, .func (ksFn "__init__" qual (eAr p1 p2 p3) (eBo q1 q2 q3 q4 q5 q6 q7 q8 q9 q10) eSc dV kV doc pm an (.ref cda) ct cc), osl⟩ ∧ codeIn K (.ref cda) qual = true ∧
      K.lookup cda = some ⟨ccl, cdd, .fields vs, ccs⟩ ∧ vs[2]? = some (.str file tf) ∧ ((P.main.file : Str) == file) = true ∧ K.lookup cc = some ⟨cl, cld, .cell (some (.ref C)), csl⟩ ∧
      (q3.endLine == q5.line) = true ∧ (∃ (Td : Addr) (o : Obj) (n : Nat), dV = .ref Td ∧ K.lookup Td = some o ∧ o.data = .seq #[.none] n)
section
variable {prog : Program} {w : World} {A : Around} {E : Value → Shared → Prop} {R : Result → Shared → Prop} {s : Shared} {K : Frag} {mg : Str → Option Value} {C fI : Addr}
/-- the body of __init__, behind the entry: x the new error -/
theorem err_init (T : ErrC prog K mg C fI) {h0 : Heap} {x t0 : Addr} {v : Value} {ar : Args} (hm : ArO "name" ar x v) (X : K.In h0) (G : Beside mg h0) (k0 : ∀ b o, h0.get? b = some o → s.heap.get? b = some o) (hx : s.heap.get? x = some (excObj C t0 none .none)) (nx : h0.get? x = none) (hz : h0.objs.size ≤ s.heap.objs.size) (hroom : A.depth < recursionLimit)
    (hq : ∀ h' tk dx t1, (∀ b o, h0.get? b = some o → h'.get? b = some o) → h'.get? x = some { cls := .ref C, dict := some dx, data := .fields #[.ref t1, .none, .none, .none, .bool false, .none] } → h0.objs.size ≤ dx → dx ≠ x → h'.Ns1 dx (fun y => if y = "name" then some v else none) → R (.ok (.ret .none)) { s with heap := h', toks := tk }) :
    codeAny (model prog w) A (.call (.ref fI) ar) R s := by
  obtain ⟨oc, cl, ccl, od, cdd, cld, qual, dV, kV, doc, pm, ct, an, osl, ccs, csl, cda, cc, vs, file, tf, p1, p2, p3, q1, q2, q3, q4, q5, q6, q7, q8, q9, q10, ho, hcd, hcode, hvs, hfile, hcell, hpos, Td, oT, nT, rfl, hT, hTd⟩ := T.fn
  obtain ⟨nm, q, N, bs, bm, sn, sub, ab, col, dd, k0', k1, k2, k3, k5, hC, hbm⟩ := T.ini
  have hcl : clsIn K C = some { name := nm, bases := bs, mro := .ref C :: bm, ns := N, qualname := q, hasDict := true, slotNames := sn, subclasses := sub, abstract := ab, collection := col, hasDel := false } := by unfold clsIn; rw [hC] <;> rfl
  have Xs : K.In s.heap := X.keeps k0
  have hbd : BindsTo s (ksFn "__init__" qual (eAr p1 p2 p3) (eBo q1 q2 q3 q4 q5 q6 q7 q8 q9 q10) eSc (.ref Td) kV doc pm an (.ref cda) ct cc) ar [("self", .ref x), ("name", v)] := by
    cases hm with
    | pos => exact BindsTo.of_defaults (T := Td) rfl (Xs _ _ hT) hTd rfl rfl
    | kw => exact BindsTo.of_defaults (T := Td) rfl (Xs _ _ hT) hTd rfl rfl
    | bare => exact BindsTo.of_defaults (T := Td) rfl (Xs _ _ hT) hTd rfl rfl
  have hcells : ∀ y ∈ eSc.names, y.2 ≠ .cell := by decide
  have hlocs : ∀ y ∈ [(("self" : Str), Value.ref x), (("name" : Str), v)], eSc.names.lookup y.1 = some .local := fun y hy => by
    rcases List.mem_cons.mp hy with rfl | hy
    · rfl
    · obtain rfl := List.mem_singleton.mp hy
      rfl
  refine ks_codeAny_call_defAt (body := eBo q1 q2 q3 q4 q5 q6 q7 q8 q9 q10) (binds := [("self", .ref x), ("name", v)]) hroom (Xs _ _ ho) rfl (G.lim.keeps k0) (codeRec_of Xs hcd) rfl hbd hcells hlocs (fun h1 hn1 kk => ?_)
  have hxL : s.heap.objs.size ≠ x := Nat.ne_of_gt (Heap.lt_size hx)
  have F1 : Fr h0 s.heap.objs.size h1 (fun y => List.lookup y [(("name" : Str), v), (("self" : Str), .ref x)]) := ⟨hn1, fun b o e => kk b o (k0 b o e), hz⟩
  have N1 : News h0 s.heap.objs.size h1 [(x, excObj C t0 none .none)] := fun p hp => by
    obtain rfl := List.mem_singleton.mp hp
    exact ⟨kk _ _ hx, hxL.symm, nx⟩
  generalize hL : s.heap.objs.size = L at F1 N1 hxL ⊢
  show _root_.PySem.wpAt (model prog w) (A.deeper (ksEnv qual eSc L fI (.ref cda) cc)) (.func (eBo q1 q2 q3 q4 q5 q6 q7 q8 q9 q10) (ksEnv qual eSc L fI (.ref cda) cc)) (execs (eBo q1 q2 q3 q4 q5 q6 q7 q8 q9 q10) (ksEnv qual eSc L fI (.ref cda) cc)) _ _ _
  refine ks_wpAt_execs_cons (ks_wpAt_Expr_any (ks_wpAt_MethodCall (he := meth_eval hpos rfl) ?_))
  have X1 : K.In h1 := X.keeps F1.keep
  obtain ⟨mb, hb1, hb2⟩ := G.b
  obtain ⟨oD, hD1, hD2⟩ : ∃ oD, h1.get? C = some oD ∧ ∃ cd, oD.data = .cls cd := ⟨_, X1 _ _ hC, _, rfl⟩
  obtain ⟨cdD, hD2⟩ := hD2
  refine ks_wpAt_super_base (env := ksEnv qual eSc L fI (.ref cda) cc) (f := fI) (cc := cda) rfl rfl (by decide) rfl (X1 _ _ ho) rfl rfl rfl (X1 _ _ hcode) rfl hvs hfile T.top ?_
  refine ks_loadName_global rfl rfl (loadGlobal_builtin (env := ksEnv qual eSc L fI (.ref cda) cc) (G.g.keeps F1.keep) T.nsu (hb1.keeps F1.keep) ((hb2 _ (by decide +kernel)).trans (by first | boot_by_name | rfl | kernel_rfl)) ⟨rfl, ?_⟩)
  refine wpAny_loadName_free rfl rfl rfl ⟨_, X1 _ _ hcell, rfl⟩ ?_
  refine wpAny_loadName_local (v := .ref x) rfl rfl F1.ns (by first | rfl | with_unfolding_all rfl | kernel_rfl) ?_
  refine ks_wpAny_isType_cls hD1 hD2 ⟨rfl, ?_⟩
  refine ks_wpAny_call_super hD1 hD2 (N1 _ List.mem_cons_self).1 rfl (fun c e => by cases e) (looks_mroIn X1 T.mC) (fun h2 e2 k2 => ?_)
  obtain ⟨F2, N2, l2⟩ := ks_newsPush (s := ⟨h1, s.gens, s.drawn, s.toks + 2, s.os⟩) F1 N1 rfl e2 k2
  refine kxs_method kxs_ValueError F2 X N2 (D := C) (x := x) (C := C) List.mem_cons_self (InstAt.of_exc0 N2 (List.mem_cons_of_mem _ List.mem_cons_self)) T.opq T.sup T.veC (by decide) (fun u h3 F3 N3 l3 => ?_)
  refine kxs_callWith1 (i := "ValueError.__init__") (x := x) N3 List.mem_cons_self ?_
  refine spliced_cons (ld_loc (v := v) F3.ns (by first | rfl | with_unfolding_all rfl | kernel_rfl) (spliced_nil ⟨kxs_at N3 List.mem_cons_self, ?_⟩))
  have ux : u ≠ x := fun z => by
    have := l3 (x, excObj C t0 none .none) (List.mem_cons_of_mem _ List.mem_cons_self)
    rw [z] at this
    exact absurd this (Nat.lt_irrefl _)
  have sx : h1.objs.size ≠ x := Nat.ne_of_gt (Heap.lt_size (N1 _ List.mem_cons_self).1)
  refine kxs_call (dv := none) (c2 := .none) F3 X N3 PySem.F.excBase_ValueError T.eI List.mem_cons_self (.tail ux (.tail sx (.head fun _ z => (nomatch z)))) (by show 1 ≤ sizeLine; decide) (fun t1 h4 F4 N4 l4 => ?_)
  show _root_.PySem.wpAt _ _ _ (execs _ _) _ _ _
  refine wpAt_of_wpAny (wpAny_execs_cons (plainObj_wpAny_Assign_Attribute ?_))
  refine ld_loc (v := v) F4.ns (by first | rfl | with_unfolding_all rfl | kernel_rfl) (ld_loc (v := .ref x) F4.ns (by first | rfl | with_unfolding_all rfl | kernel_rfl) ?_)
  have hx4 : h4.get? x = some (excObj C t1 none .none) := (N4 (x, excObj C t1 none .none) (.tail _ (.tail _ (.tail _ (.head _))))).1
  have X4 : K.In h4 := X.keeps F4.keep
  refine set_plain X4 (ox := excObj C t1 none .none) (od := none) ⟨hx4, rfl, rfl, trivial⟩ T.sa ?_
  refine HandSPX.exc_osa X4 hx4 hcl (show HandSPX.refsVE (.ref C :: bm) = true from hbm) rfl T.no (fun h5 tk5 dx k5 dn dne hx5 hn5 => ?_)
  show wpAny _ _ (execs _ _) _ _ _
  have z : L < h4.objs.size := F4.ns.lt
  have hz' : h0.objs.size ≤ dx := Nat.le_trans F4.above (Nat.le_trans (Nat.le_of_lt z) dn)
  exact wpAny_execs_nil (hq h5 tk5 dx t1 (fun b o e => k5 b o (fun y => by rw [y, nx] at e; cases e) (F4.keep b o e)) hx5 hz' dne hn5)
/-- C(..): the error made -/
theorem err_new (T : ErrC prog K mg C fI) {v : Value} {rest : List Value} {kw : List (Str × Value)} (hm : ∀ x, ArO "name" ⟨.ref x :: rest, kw⟩ x v) (X : K.In s.heap) (G : Beside mg s.heap) (hroom : A.depth + 1 < recursionLimit) (hl : rest.length ≤ sizeLine)
    (hq : ∀ h' tk e d, ErrMadeF "name" s.heap h' e C d v → R (.ok (.ret (.ref e))) { s with heap := h', toks := tk }) :
    codeAny (model prog w) A (.call (.ref C) ⟨rest, kw⟩) R s := by
  obtain ⟨nm, q, N, bs, bm, sn, sub, ab, col, dd, k0, k1, k2, k3, k5, hC, hbm⟩ := T.ini
  obtain ⟨hp, g, dr, tk, os⟩ := s
  have k : ∀ b o, hp.get? b = some o → ((hp.push (kdv_tup rest)).push (HandSPX.excO C hp.objs.size)).get? b = some o := fun b o e => Heap.get?_push_of_some _ (Heap.get?_push_of_some _ e)
  have hget : ((hp.push (kdv_tup rest)).push (HandSPX.excO C hp.objs.size)).get? (hp.objs.size + 1) = some (HandSPX.excO C hp.objs.size) := by heap_get
  have hnx : hp.get? (hp.objs.size + 1) = none := by
    cases e : hp.get? (hp.objs.size + 1) with
    | none => rfl
    | some o => exact absurd (Nat.lt_of_succ_lt (Heap.lt_size e)) (Nat.lt_irrefl _)
  refine exc_callK PySem.F.excBase_ValueError (fun Y => HandSPX.refsVE_contains Y bm hbm) (X _ _ hC) (looks_findIn X T.iC) (fun self => bind_fn X self T.tI) hl ?_
  refine err_init (s := ⟨(hp.push (kdv_tup rest)).push (HandSPX.excO C hp.objs.size), g, dr, tk, os⟩) (h0 := hp) T (hm _) X G k hget hnx (by rw [Heap.size_push, Heap.size_push]; omega) (by show A.depth + 1 < recursionLimit; exact hroom) fun h' tk' dx t1 k' hx dn dne hns => ?_
  exact ⟨rfl, hq h' tk' (hp.objs.size + 1) dx ⟨k', Nat.le_succ _, ⟨_, _, hx, rfl, rfl, rfl, rfl⟩, dn, dne, hns⟩⟩
end
end ErN
/-! ## C(e), C(f = e), C(): an error as a value -/
namespace RC
open PySem PySem.Spec PyProof.Rows L2
open PySem.W (Frag)
/-- how an error of the class C comes to be of these arguments, with the field f = v -/
def NewE (P : Program) (w : World) (K : Frag) (mg : Str → Option Value) (C : Addr) (f : Str) (rest : List Value) (kw : List (Str × Value)) (v : Value) : Prop :=
  ∀ {A : Around} {R : Result → Shared → Prop} {s : Shared}, K.In s.heap → Beside mg s.heap → A.depth + 1 < recursionLimit → (∀ h' tk e d, ErrMadeF f s.heap h' e C d v → R (.ok (.ret (.ref e))) { s with heap := h', toks := tk }) → codeAny (model P w) A (.call (.ref C) ⟨rest, kw⟩) R s
theorem rel_fld {v : V} {v' : Value} (r : RelV v v') (f x : Str) : RelO (List.lookup x [(f, v)]) (if x = f then some v' else none) := by
  by_cases h : x = f
  · subst h
    rw [if_pos rfl]
    have q : List.lookup x [(x, v)] = some v := by simp [List.lookup]
    rw [q]
    exact r
  · rw [if_neg h]
    have q : (x == f) = false := by simpa using h
    have q2 : List.lookup x [(f, v)] = none := by simp [List.lookup, q]
    rw [q2]
    trivial
section
variable {X : Cx} {C : Addr} {f x : Str} {p pos : Pos} {k : Nat} {pins : List (Addr × Obj)} {σ : L2.St} {H : Hp} {s : Shared}
/-- what holds behind it -/
def Behind (C : Addr) (f : Str) (v : V) (H : Hp) (Q : VK) : Prop := ∀ d e, H d = none → H e = none → d ≠ e → Q (.ref e) (upd (upd H d (.xd [(f, v)])) e (ErrO (.ref C) (some d) e))
theorem made_ok {v : V} {v' : Value} {rest : List Value} {kw : List (Str × Value)} {Q : VK} (I : Inv X pins σ H s) (hr : Room k X.A) (r : RelV v v') (N : NewE X.prog X.w X.K X.mg C f rest kw v') (h : Behind C f v H Q) :
    wpAny (model X.prog X.w) X.A (call (.ref C) rest kw) (EP X pins σ Q) X.xe s := by
  have B := Beside.of I
  obtain ⟨hp, g, dr, tk, os⟩ := s
  refine wpAny_call (N I.kIn B (by have := hr.dp; omega) fun h' tk' e d M => ?_)
  obtain ⟨oe, fv, hoe, hc, hd, hdat, _⟩ := M.obj
  have ns := M.ns
  obtain ⟨G, g1, g2⟩ := restrict h' fun b => decide (b ≠ e)
  have gk : ∀ b, b ≠ e → G.get? b = h'.get? b := fun b hb => g1 b (decide_eq_true hb)
  have ge : G.get? e = none := g2 e (by simp)
  have old : ∀ b o, hp.get? b = some o → G.get? b = some o := fun b o q => (gk b (Nat.ne_of_lt (Nat.lt_of_lt_of_le (Heap.lt_size q) M.new))).trans (M.keep b o q)
  have ob : ObjOk X.prog X.w (upd H d (.xd [(f, v)])) G d (.xd [(f, v)]) := ⟨_, ns.at (fun o q => (gk d M.dne).trans q), fun y => rel_fld r f y⟩
  have J : Inv X pins σ (upd H d (.xd [(f, v)])) ⟨G, g, dr, tk', os⟩ := I.laid (t' := tk') old M.dbig ob
  have he : upd H d (.xd [(f, v)]) e = none := by
    rw [upd_ne (Ne.symm M.dne)]
    exact I.hok.fresh M.new
  have back : ∀ b u, G.get? b = some u → h'.get? b = some u := fun b u q => by
    by_cases hb : b = e
    · rw [hb, ge] at q
      cases q
    · exact (gk b hb).symm.trans q
  have J2 := J.laidN (t' := tk') back ge he (errO_ok (P := X.prog) (w := X.w) (H := upd (upd H d (.xd [(f, v)])) e (ErrO (.ref C) (some d) e)) (cls := .ref C) (d := some d) hoe ⟨hc, hd⟩ hdat)
  exact ⟨.ref e, _, J2, rfl, h d e (I.hok.fresh M.dbig) (I.hok.fresh M.new) M.dne⟩
/-- C(a) -/
def tMkP (C : Addr) (f : Str) (ta : TA) : TE := fun σ H Q => ta σ H fun vs H1 => ∃ v, vs = [v] ∧ Behind C f v H1 Q
theorem pe_mkP {a : Expr} {ta : TA} (kC : PySem.W.keepIn X.K (.ref C) = true) (hm : X.mg x = some (.ref C)) (hr : Room k X.A) (N : ∀ v, NewE X.prog X.w X.K X.mg C f [v] [] v) (ha : PA X [a] ta) (hg : Gl X x := by rfl) (hdb : (x == ("__debug__" : Str)) = false := by decide)
    (he : starEach (a :: []) X.env = (false, eval a X.env) :: starEach [] X.env := by rfl) (hpl : (backTo pos (starEach [] X.env)).any (·.1) = false := by rfl) : PE X (.Call (.Name x p) [a] [] pos) (tMkP C f ta) := by
  refine ⟨fun pins s σ H Q I h => wpAny_Call_Name_kw (ld_glob I hg hm ?_ hdb)⟩
  refine PySem.W.callWith_K (h₀ := X.base) I.ok.mod.kin kC (thn (ha.run pos pins s σ H _ I h) fun us s1 hh => ?_) he hpl
  obtain ⟨vs, H1, I1, r1, v, ev, q1⟩ := hh
  subst ev
  refine ⟨I1.kIn, ?_⟩
  cases r1 with
  | cons rv rn =>
    cases rn
    exact made_ok I1 hr rv (N _) q1
/-- C(f = a) -/
theorem pe_mkK {kws : List Keyword} {tk : TA} (kC : PySem.W.keepIn X.K (.ref C) = true) (hm : X.mg x = some (.ref C)) (hr : Room k X.A) (N : ∀ v, NewE X.prog X.w X.K X.mg C f [] [(f, v)] v) (kw : PK X kws tk) (hg : Gl X x := by rfl)
    (na : Named X pos kws [f] := by exact ⟨by rfl, by rfl, by rfl⟩) (hdb : (x == ("__debug__" : Str)) = false := by decide) : PE X (.Call (.Name x p) [] kws pos) (tMkP C f tk) := by
  refine ⟨fun pins s σ H Q I h => wpAny_Call_Name_kw (ld_glob I hg hm (kw_run kw na I kC h fun ws zs s2 H2 J r t => ?_) hdb)⟩
  obtain ⟨v, rfl, q⟩ := t
  cases r with
  | cons rv rn =>
    cases rn
    exact made_ok J hr rv (N _) q
/-- C() -/
def tMk0 (C : Addr) (f : Str) : TE := fun _ H Q => Behind C f .non H Q
theorem pe_mk0 (kC : PySem.W.keepIn X.K (.ref C) = true) (hm : X.mg x = some (.ref C)) (hr : Room k X.A) (N : NewE X.prog X.w X.K X.mg C f [] [] .none) (hg : Gl X x := by rfl) (hdb : (x == ("__debug__" : Str)) = false := by decide) :
    PE X (.Call (.Name x p) [] [] pos) (tMk0 C f) :=
  ⟨fun pins s σ H Q I h => wpAny_Call_Name_kw (ld_glob I hg hm (PySem.W.callWith_K0 I.kIn kC (made_ok (v := .non) I hr rfl N h)) hdb)⟩
end
/-! ### what is asked of an error -/
/-- the class of an error, asked of its objects -/
structure ErrB (K : Frag) (C : Addr) : Prop where
  cls : (PySem.W.clsIn K C).isSome = true
  ga : PySem.W.findIn K (.ref C) "__getattribute__" = some (some (.builtin "BaseException.__getattribute__"))
  gg : PySem.W.findIn K (.ref C) "__getattr__" = some none
  exC : PySem.W.subIn K (.ref C) (.type "BaseException") = some true
  hdC : PySem.W.hasDictIn K C = true
section
variable {X : Cx}
/-- isinstance(err, c) -/
def rIsB (K : Frag) : List V → Hp → VK → Prop := fun xs H Q => ∃ (a C : Addr) (d : Option Addr) (c : V) (cv : Value) (b : Bool), xs = [.ref a, c] ∧ H a = some (ErrO (.ref C) d a) ∧ (∀ d', d = some d' → ∃ fs, H d' = some (.xd fs)) ∧ ErrB K C ∧ ClsX K C ∧ ClsV c cv ∧ PySem.W.kitOne K (.ref C) cv = some b ∧ Q (.bl b) H
theorem call_isB : CallR X (.builtin "isinstance") (rIsB X.K) := by
  intro pins s σ H xs us Q I r h
  obtain ⟨a, C, d, c, cv, b, rfl, ea, hd, T, x, k, e, q⟩ := h
  obtain ⟨u1, u2, rfl, r1, r2⟩ := vals2 r
  have e2 := k.eq r2
  subst e2
  have e1 : u1 = Value.ref a := r1
  subst e1
  obtain ⟨⟨oe, vs, ho, hz, hdt⟩, _, _⟩ := I.hok a _ ea
  have J : PySem.W.InstAt s.heap a oe C (match d with | none => none | some d' => s.heap.get? d') := by
    refine ⟨ho, hz.1, by unfold PySem.W.notCls; rw [hdt] <;> rfl, ?_⟩
    cases d with
    | none =>
      rw [hz.2]
      trivial
    | some d' =>
      obtain ⟨fs, ed⟩ := hd d' rfl
      obtain ⟨mA, hns, _⟩ := (show ObjOk X.prog X.w H s.heap d' (.xd fs) from I.hok d' _ ed)
      obtain ⟨od, hod, _⟩ := lookIn_ns hns
      rw [hz.2]
      dsimp only
      rw [hod]
      exact hod
  exact PySem.W.kia_one (PySem.W.kitx_exc T.cls T.ga T.gg T.exC x.ha x.hn x.htk x.hm) I.kIn J e (fun z => nomatch z) fun tk => ⟨.bl b, H, I.tok tk, rfl, q⟩
/-- err.f -/
def FldB (K : Frag) (f : Str) (x : V) (H : Hp) (Q : VK) : Prop := ∃ (a C d : Addr) (v : V), x = .ref a ∧ H a = some (ErrO (.ref C) (some d) a) ∧ ErrB K C ∧ PySem.W.findIn K (.ref C) f = some none ∧ H d = some (.xd [(f, v)]) ∧ Q v H
def tFldB (K : Frag) (f : Str) (te : TE) : TE := fun σ H Q => te σ H fun x H1 => FldB K f x H1 Q
theorem pe_fldB {e : Expr} {te : TE} {pos : Pos} {f : Str} (he : PE X e te) (hb : attributeBase e f X.env (eval e X.env) = eval e X.env := by rfl) : PE X (.Attribute e f pos) (tFldB X.K f te) := by
  refine ⟨fun pins s σ H Q I h => attr_of hb (thn (he.run pins s σ H _ I h) fun u s1 ⟨x, H1, I1, rx, a, C, d, v, ex, ea, T, no, ed, q⟩ => ?_)⟩
  subst ex
  have eu : u = Value.ref a := rx
  subst eu
  obtain ⟨⟨oe, vs, ho, hz, hd⟩, _, _⟩ := I1.hok a _ ea
  obtain ⟨mA, hns, hr⟩ := (show ObjOk X.prog X.w H1 s1.heap d (.xd [(f, v)]) from I1.hok d _ ed)
  obtain ⟨od, hod, hl⟩ := lookIn_ns hns
  have l : List.lookup f [(f, v)] = some v := by simp [List.lookup]
  obtain ⟨u, hu, ru⟩ := RelO.some_of (v := v) (o := mA f) (by rw [← l]; exact hr f)
  have J : PySem.W.InstAt s1.heap a oe C (some od) := ⟨ho, hz.1, by unfold PySem.W.notCls; rw [hd] <;> rfl, by rw [hz.2]; exact hod⟩
  exact HandSPX.exc_get I1.kIn J T.ga T.gg T.exC (PySem.W.findObj_own T.hdC no rfl (by rw [hl, hu])) (handed_of ru) ⟨v, H1, I1.tok _, ru, q⟩
end
end RC
/-! ## The head's facts of errors made as values -/
namespace RC
open PySem PySem.Spec PyProof.Rows L2 He
open PySem.W (Frag findIn keepIn subIn typeIn hasDictIn mroIn nsIn codeIn)
/-- the class's facts; file: the program's -/
def eFacN (K : Frag) (file : Str) (x : Str) : Bool :=
  eClsB K (ga K x) && (decide (findIn K (.ref (ga K x)) "__setattr__" = some (some (.builtin "object.__setattr__"))) && (decide (findIn K (.ref (ga K x)) "__getattribute__" = some (some (.builtin "BaseException.__getattribute__"))) && (decide (findIn K (.ref (ga K x)) "__getattr__" = some none) &&
    (decide (findIn K (.ref (ga K x)) "name" = some none) && (decide (findIn K (.ref (ga K x)) "__init__" = some (some (.ref (ma K (ga K x) "__init__")))) && (decide (typeIn K (.ref (ma K (ga K x) "__init__")) = some (.type "function")) && (keepIn K (.ref (ga K x)) &&
      (decide (subIn K (.ref (ga K x)) (.type "BaseException") = some true) && (decide (subIn K (.ref (ga K x)) (.type "ValueError") = some true) && (decide (typeIn K (.ref (ga K x)) = some (.type "type")) && (hasDictIn K (ga K x) && (decide (mroIn K (ga K x) (.ref (ga K x)) = some true) &&
        (PySem.W.excInitIn K (ga K x) vB "ValueError.__new__" && (decide (PySem.W.ks_superIn K (ga K x) (ga K x) "__init__" = some (some (.builtin "ValueError.__init__"))) && (decide (nsIn K cStatics "thirdparty.any" = some none) && (decide (subIn K (.ref (ga K x)) (.ref (ga K x)) = some true) &&
          eFnB K (ga K x) (ma K (ga K x) "__init__") file))))))))))))))))
/-- together: what the rules for the error ask -/
theorem err_ofN {P : Program} {K : Frag} {mg : Str → Option Value} {e : ErrD} {file : Str} (nsu : mg "super" = none) (top : (P.main.scope.names.lookup ("super" : Str)).isSome = false) (hfile : (P.main.file : Str) = file)
    (ha : ∃ p1 p2 p3, defArgs e.st = ErN.eAr p1 p2 p3) (hbo : ∃ q1 q2 q3 q4 q5 q6 q7 q8 q9 q10, defBody e.st = ErN.eBo q1 q2 q3 q4 q5 q6 q7 q8 q9 q10 ∧ (q3.endLine == q5.line) = true) (hsc : defScope e.st = ErN.eSc)
    (c : efW K e = e.val) (b : eFacN K file e.x = true) : ErN.ErrC P K mg (ga K e.x) (ma K (ga K e.x) "__init__") := by
  obtain ⟨b1, b⟩ := ba b
  obtain ⟨b2, b⟩ := ba b
  obtain ⟨b3, b⟩ := ba b
  obtain ⟨b4, b⟩ := ba b
  obtain ⟨b5, b⟩ := ba b
  obtain ⟨b6, b⟩ := ba b
  obtain ⟨b7, b⟩ := ba b
  obtain ⟨b8, b⟩ := ba b
  obtain ⟨b9, b⟩ := ba b
  obtain ⟨b10, b⟩ := ba b
  obtain ⟨b11, b⟩ := ba b
  obtain ⟨b12, b⟩ := ba b
  obtain ⟨b13, b⟩ := ba b
  obtain ⟨b14, b⟩ := ba b
  obtain ⟨b15, b⟩ := ba b
  obtain ⟨b16, b⟩ := ba b
  obtain ⟨b17, b18⟩ := ba b
  refine ⟨eClsB_ok b1, of_decide_eq_true b2, of_decide_eq_true b3, of_decide_eq_true b4, of_decide_eq_true b5, of_decide_eq_true b6, of_decide_eq_true b7, b8, of_decide_eq_true b9, of_decide_eq_true b10, of_decide_eq_true b11, b12, of_decide_eq_true b13, b14, of_decide_eq_true b15, of_decide_eq_true b16, nsu, top, ?_⟩
  clear b1 b2 b3 b4 b5 b6 b7 b8 b9 b10 b11 b12 b13 b14 b15 b16 b17
  obtain ⟨p1, p2, p3, ea⟩ := ha
  obtain ⟨q1, q2, q3, q4, q5, q6, q7, q8, q9, q10, eb, hpos⟩ := hbo
  unfold efW at c
  unfold eFnB at b18
  cases q : K.lookup (ma K (ga K e.x) "__init__") with
  | none =>
    rw [q] at b18
    cases b18
  | some o =>
    obtain ⟨oc, od, dt, osl⟩ := o
    rw [q] at b18 c
    cases dt with
    | func fd =>
      obtain ⟨n1, n2, n3, n4, n5, n6, n7, n8, n9, n10, n11, n12, n13, n14, n15⟩ := fd
      have c2 : (some (n1, n3, n4, n5, n6, n7.map (·.1), n15) : EfW) = some (("__init__" : Str), defArgs e.st, FuncBody.stmts (defBody e.st), defScope e.st, mainGlobals, [("__class__" : Str)], builtinsNs) := c
      rw [ea, eb, hsc] at c2
      simp only [Option.some.injEq, Prod.mk.injEq] at c2
      obtain ⟨h1, h3, h4, h5, h6, h7, h8⟩ := c2
      subst h1 h3 h4 h5 h6 h8
      have b19 : (codeIn K n13 n2 && (celB K n7 (ga K e.x) && (filB K n13 file && dnoB K n8))) = true := b18
      obtain ⟨d1, d⟩ := ba b19
      obtain ⟨d2, d⟩ := ba d
      obtain ⟨d3, d4⟩ := ba d
      obtain ⟨y, cc, cl, cld, csl, rfl, k1⟩ := celB_ok d2
      obtain ⟨cda, ccl, cdd, vs, ccs, f, tf, rfl, k2, k3, k4⟩ := filB_ok d3
      obtain ⟨Td, oT, nT, rfl, k5, k6⟩ := dnoB_ok d4
      have ey : y = "__class__" := by simpa using h7
      subst ey
      exact ⟨_, _, _, _, _, _, _, _, _, _, _, _, _, _, _, _, cda, cc, vs, f, tf, p1, p2, p3, q1, q2, q3, q4, q5, q6, q7, q8, q9, q10, rfl, d1, k2, k3, by rw [hfile]; exact k4, k1, hpos, Td, oT, nT, rfl, k5, k6⟩
    | _ => cases b18
/-! ### a class without an __init__ of its own -/
structure UCls (K : Frag) (C : Addr) : Prop where
  ini : ∃ nm q N bs bm sn sub ab col dd k0 k1 k2 k3 k5, K.lookup C = some (excClassObj nm q C N bs bm true sn sub ab col dd k0 k1 k2 k3 k5 "ValueError.__new__") ∧ HandSPX.refsVE bm = true
  iC : findIn K (.ref C) "__init__" = some (some (.builtin "ValueError.__init__"))
  kC : keepIn K (.ref C) = true
def uFacB (K : Frag) (x : Str) : Bool := eClsB K (ga K x) && (decide (findIn K (.ref (ga K x)) "__init__" = some (some (.builtin "ValueError.__init__"))) && keepIn K (.ref (ga K x)))
theorem uFac_ok {K : Frag} {x : Str} (h : uFacB K x = true) : UCls K (ga K x) := by
  obtain ⟨h1, h⟩ := ba h
  obtain ⟨h2, h3⟩ := ba h
  exact ⟨eClsB_ok h1, of_decide_eq_true h2, h3⟩
/-! ### what all of them are asked -/
def aClsB (K : Frag) (x : Str) : Bool :=
  (PySem.W.clsIn K (ga K x)).isSome && (decide (findIn K (.ref (ga K x)) "__getattribute__" = some (some (.builtin "BaseException.__getattribute__"))) && (decide (findIn K (.ref (ga K x)) "__getattr__" = some none) && (decide (subIn K (.ref (ga K x)) (.type "BaseException") = some true) && (hasDictIn K (ga K x) && (clsB K x && (decide (findIn K (.ref (ga K x)) "value" = some none) && decide (findIn K (.ref (ga K x)) "name" = some none)))))))
theorem aCls_ok {K : Frag} {x : Str} (h : aClsB K x = true) : ErrB K (ga K x) ∧ ClsX K (ga K x) ∧ findIn K (.ref (ga K x)) "value" = some none ∧ findIn K (.ref (ga K x)) "name" = some none := by
  obtain ⟨h1, h⟩ := ba h
  obtain ⟨h2, h⟩ := ba h
  obtain ⟨h3, h⟩ := ba h
  obtain ⟨h4, h⟩ := ba h
  obtain ⟨h5, h⟩ := ba h
  obtain ⟨h6, h⟩ := ba h
  obtain ⟨h7, h8⟩ := ba h
  exact ⟨⟨h1, of_decide_eq_true h2, of_decide_eq_true h3, of_decide_eq_true h4, h5⟩, clsB_ok h6, of_decide_eq_true h7, of_decide_eq_true h8⟩
def kitsB (K : Frag) (L : List Str) (ce : Str) : Bool :=
  (L.all fun a => L.all fun b => decide (PySem.W.kitOne K (.ref (ga K a)) (.ref (ga K b)) = some (decide (a = b)))) && L.all fun a => decide (PySem.W.kitOne K (.ref (ga K a)) (.ref (ga K ce)) = some true) && decide (PySem.W.kitOne K (.ref (ga K a)) (.type "ValueError") = some true)
/-- isinstance of these, asked of one another, of the class above them, of ValueError -/
structure Kits (K : Frag) (L : List Str) (ce : Str) : Prop where
  cls : ∀ a ∈ L, ErrB K (ga K a) ∧ ClsX K (ga K a) ∧ findIn K (.ref (ga K a)) "value" = some none ∧ findIn K (.ref (ga K a)) "name" = some none
  own : ∀ a ∈ L, ∀ b ∈ L, PySem.W.kitOne K (.ref (ga K a)) (.ref (ga K b)) = some (decide (a = b))
  up : ∀ a ∈ L, PySem.W.kitOne K (.ref (ga K a)) (.ref (ga K ce)) = some true
  ve : ∀ a ∈ L, PySem.W.kitOne K (.ref (ga K a)) (.type "ValueError") = some true
theorem kits_ok {K : Frag} {L : List Str} {ce : Str} (h : (L.all (aClsB K) && kitsB K L ce) = true) : Kits K L ce := by
  obtain ⟨h1, h⟩ := ba h
  obtain ⟨h2, h3⟩ := ba h
  refine ⟨fun a ha => aCls_ok (List.all_eq_true.mp h1 a ha), fun a ha b hb => of_decide_eq_true (List.all_eq_true.mp (List.all_eq_true.mp h2 a ha) b hb), fun a ha => ?_, fun a ha => ?_⟩
  · exact of_decide_eq_true (ba (List.all_eq_true.mp h3 a ha)).1
  · exact of_decide_eq_true (ba (List.all_eq_true.mp h3 a ha)).2
/-! ### the hook -/
abbrev AlF : Type := AlR × (List EfW × (List EfW × Bool))
def moreB (ev en : List ErrD) (u ce file : Str) (K : Frag) : Bool := (ev.all fun e => eFacB K file e.x) && ((en.all fun e => eFacN K file e.x) && (uFacB K u && ((ev.map (·.x) ++ en.map (·.x) ++ [u]).all (aClsB K) && kitsB K (ev.map (·.x) ++ en.map (·.x) ++ [u]) ce)))
def obsF (fa : List Fa) (fn : List DefD) (cs : List Str) (ks : List Kq) (ns : List Nf) (ev en : List ErrD) (u ce file : Str) (K : Frag) : AlF := (obsR fa fn cs ks ns K, (ev.map (efW K), (en.map (efW K), moreB ev en u ce file K)))
def valF (fn : List DefD) (ev en : List ErrD) : AlF := (valR fn, (ev.map ErrD.val, (en.map ErrD.val, true)))
def SaysF (fa : List Fa) (fn : List DefD) (cs : List Str) (ks : List Kq) (ns : List Nf) (ev en : List ErrD) (u ce file : Str) (K : Frag) : Prop := obsF fa fn cs ks ns ev en u ce file K = valF fn ev en
def obsFG (n : Nat) (fa : List Fa) (fn : List DefD) (cs : List Str) (ks : List Kq) (ns : List Nf) (ev en : List ErrD) (u ce file : Str) (g : Addr → Option Obj) : AlF := obsF fa fn cs ks ns ev en u ce file (frG g (cStatics :: asD g n))
def hookF (n : Nat) (fa : List Fa) (fn : List DefD) (cs : List Str) (ks : List Kq) (ns : List Nf) (ev en : List ErrD) (u ce file : Str) : PySem.W.Hook where
  α := AlF
  obs := fun s => obsFG n fa fn cs ks ns ev en u ce file s.heap.get?
  val := fun _ => valF fn ev en
  says := fun _ h => ∃ K : Frag, K.In h ∧ SaysF fa fn cs ks ns ev en u ce file K
  of := fun _ _ e => ⟨_, frG_in, e⟩
  keeps := fun _ _ _ ⟨K, hK, c⟩ k => ⟨K, PySem.W.Frag.In.keeps hK k, c⟩
theorem obsFG_eq {n : Nat} {fa : List Fa} {fn : List DefD} {cs : List Str} {ks : List Kq} {ns : List Nf} {ev en : List ErrD} {u ce file : Str} {g : Addr → Option Obj} {s : Shared} (h : ∀ a, g a = s.heap.get? a) : obsFG n fa fn cs ks ns ev en u ce file g = (hookF n fa fn cs ks ns ev en u ce file).obs s := by
  have e : g = s.heap.get? := funext h
  rw [e] <;> rfl
section
variable {fa : List Fa} {fn : List DefD} {cs : List Str} {ks : List Kq} {ns : List Nf} {ev en : List ErrD} {u ce file : Str} {K : Frag}
theorem SaysF.r (c : SaysF fa fn cs ks ns ev en u ce file K) : SaysR fa fn cs ks ns K := congrArg (fun z : AlF => z.1) c
theorem SaysF.more (c : SaysF fa fn cs ks ns ev en u ce file K) : moreB ev en u ce file K = true := congrArg (fun z : AlF => z.2.2.2) c
theorem SaysF.errV (c : SaysF fa fn cs ks ns ev en u ce file K) (i : Nat) {e : ErrD} (h : ev[i]? = some e := by rfl) : efW K e = e.val ∧ eFacB K file e.x = true := by
  have c1 : ev.map (efW K) = ev.map ErrD.val := congrArg (fun z : AlF => z.2.1) c
  refine ⟨?_, List.all_eq_true.mp (ba c.more).1 e (List.mem_of_getElem? h)⟩
  have z : (ev.map (efW K))[i]? = (ev.map ErrD.val)[i]? := by rw [c1]
  rw [List.getElem?_map, List.getElem?_map, h] at z
  exact Option.some.inj z
theorem SaysF.errN (c : SaysF fa fn cs ks ns ev en u ce file K) (i : Nat) {e : ErrD} (h : en[i]? = some e := by rfl) : efW K e = e.val ∧ eFacN K file e.x = true := by
  have c1 : en.map (efW K) = en.map ErrD.val := congrArg (fun z : AlF => z.2.2.1) c
  refine ⟨?_, List.all_eq_true.mp (ba (ba c.more).2).1 e (List.mem_of_getElem? h)⟩
  have z : (en.map (efW K))[i]? = (en.map ErrD.val)[i]? := by rw [c1]
  rw [List.getElem?_map, List.getElem?_map, h] at z
  exact Option.some.inj z
theorem SaysF.uC (c : SaysF fa fn cs ks ns ev en u ce file K) : UCls K (ga K u) := uFac_ok (ba (ba (ba c.more).2).2).1
theorem SaysF.kits (c : SaysF fa fn cs ks ns ev en u ce file K) : Kits K (ev.map (·.x) ++ en.map (·.x) ++ [u]) ce := kits_ok (ba (ba (ba c.more).2).2).2
end
/-! ### C(..) of these classes -/
section
variable {P : Program} {w : World} {K : Frag} {mg : Str → Option Value} {C fI : Addr}
theorem ErrC.v (T : ErrC P K mg C fI) : ErV.ErrC P K mg C fI := ⟨T.ini, T.sa, T.ga, T.gg, T.no, T.iC, T.tI, T.kC, T.exC, T.veC, T.tyC, T.hdC, T.mC, T.eI, T.sup, T.opq, T.nsu, T.top, T.fn⟩
theorem newV (T : ErV.ErrC P K mg C fI) (v : Value) : NewE P w K mg C "value" [v] [] v := fun {A R s} X G room hq => ErV.err_new T (fun x => .pos) X G room (by show 1 ≤ sizeLine; decide) hq
theorem newVk (T : ErV.ErrC P K mg C fI) (v : Value) : NewE P w K mg C "value" [] [("value", v)] v := fun {A R s} X G room hq => ErV.err_new T (fun x => .kw) X G room (Nat.zero_le _) hq
theorem newV0 (T : ErV.ErrC P K mg C fI) : NewE P w K mg C "value" [] [] .none := fun {A R s} X G room hq => ErV.err_new T (fun x => .bare) X G room (Nat.zero_le _) hq
theorem newN (T : ErN.ErrC P K mg C fI) (v : Value) : NewE P w K mg C "name" [v] [] v := fun {A R s} X G room hq => ErN.err_new T (fun x => .pos) X G room (by show 1 ≤ sizeLine; decide) hq
theorem newNk (T : ErN.ErrC P K mg C fI) (v : Value) : NewE P w K mg C "name" [] [("name", v)] v := fun {A R s} X G room hq => ErN.err_new T (fun x => .kw) X G room (Nat.zero_le _) hq
theorem newN0 (T : ErN.ErrC P K mg C fI) : NewE P w K mg C "name" [] [] .none := fun {A R s} X G room hq => ErN.err_new T (fun x => .bare) X G room (Nat.zero_le _) hq
end
section
variable {X : Cx} {C : Addr} {x : Str} {p pos : Pos} {k : Nat}
/-- C() of a class without an __init__ of its own -/
def tMkU (C : Addr) : TE := fun _ H Q => ∀ e, H e = none → Q (.ref e) (upd H e (ErrO (.ref C) none e))
theorem pe_mkU (U : UCls X.K C) (hm : X.mg x = some (.ref C)) (hg : Gl X x := by rfl) (hdb : (x == ("__debug__" : Str)) = false := by decide) : PE X (.Call (.Name x p) [] [] pos) (tMkU C) := by
  refine ⟨fun pins s σ H Q I h => wpAny_Call_Name_kw (ld_glob I hg hm (PySem.W.callWith_K0 I.kIn U.kC ?_) hdb)⟩
  obtain ⟨nm, q, N, bs, bm, sn, sub, ab, col, dd, k0, k1, k2, k3, k5, hC, hbm⟩ := U.ini
  have kin := I.kIn
  obtain ⟨hp, g, dr, tk, os⟩ := s
  refine PySem.W.call_B PySem.F.excBase_ValueError (fun Y => HandSPX.refsVE_contains Y bm hbm) (kin _ _ hC) (PySem.W.looks_findIn kin U.iC) (Nat.zero_le _) fun h' keep hx _ => ?_
  have J := I.laid (t' := tk) (o := ErrO (.ref C) none (hp.objs.size + 1)) keep (Nat.le_succ _) (errO_ok (P := X.prog) (w := X.w) (cls := .ref C) (d := none) hx ⟨rfl, rfl⟩ rfl)
  exact ⟨.ref (hp.objs.size + 1), _, J, rfl, h _ (I.hok.fresh (Nat.le_succ _))⟩
end
end RC
namespace RC
open PySem PySem.Spec PyProof.Rows L2 He
abbrev PR : Program := (PySem.W.OpenLaw.row PySem.Challenge.rw_rollclerk_k01_errors).prog
def top (i : Nat) : Stmt := PySem.Challenge.pw_rollclerk_k01_errors.main.body.getD i (.Pass ⟨0, 0, 0, 0⟩)
abbrev s_l_cell : Stmt := (top 18)
abbrev N_l_cell : List Str := ["_law_script", "_law_index"]
theorem sc_l_cell : FnScope N_l_cell ["_law_script", "_law_index"] (defScope s_l_cell) := ⟨rfl, rfl, rfl, by decide +kernel, rfl, by decide +kernel, by decide +kernel⟩
abbrev s_l_hash : Stmt := (top 19)
abbrev N_l_hash : List Str := ["_law_seed", "_law_index", "_law_mixed"]
theorem sc_l_hash : FnScope N_l_hash ["_law_seed", "_law_index"] (defScope s_l_hash) := ⟨rfl, rfl, rfl, by decide +kernel, rfl, by decide +kernel, by decide +kernel⟩
abbrev s_l_generator : Stmt := (top 20)
abbrev N_l_generator : List Str := ["_law_script", "_law_index", "_law_seed"]
theorem sc_l_generator : FnScope N_l_generator ["_law_script", "_law_index"] (defScope s_l_generator) := ⟨rfl, rfl, rfl, by decide +kernel, rfl, by decide +kernel, by decide +kernel⟩
abbrev s_l_random : Stmt := (top 21)
abbrev N_l_random : List Str := ["_law_generator_here", "_law_bound", "_law_drawn", "_law_turn"]
theorem sc_l_random : FnScope N_l_random ["_law_generator_here", "_law_bound"] (defScope s_l_random) := ⟨rfl, rfl, rfl, by decide +kernel, rfl, by decide +kernel, by decide +kernel⟩
abbrev s_l_kinds : Stmt := (top 22)
abbrev N_l_kinds : List Str := ["_law_error", "_law_classes", "_law_at"]
theorem sc_l_kinds : FnScope N_l_kinds ["_law_error"] (defScope s_l_kinds) := ⟨rfl, rfl, rfl, by decide +kernel, rfl, by decide +kernel, by decide +kernel⟩
abbrev s_l_right : Stmt := (top 23)
abbrev N_l_right : List Str := ["_law_errors", "_law_given", "_law_fields", "_law_error", "_law_at"]
theorem sc_l_right : FnScope N_l_right ["_law_errors", "_law_given"] (defScope s_l_right) := ⟨rfl, rfl, rfl, by decide +kernel, rfl, by decide +kernel, by decide +kernel⟩
abbrev s_l_placed : Stmt := (top 24)
abbrev N_l_placed : List Str := ["_law_given", "_law_found"]
theorem sc_l_placed : FnScope N_l_placed ["_law_given"] (defScope s_l_placed) := ⟨rfl, rfl, rfl, by decide +kernel, rfl, by decide +kernel, by decide +kernel⟩
abbrev s_l_named : Stmt := (top 25)
abbrev N_l_named : List Str := ["_law_given", "_law_found"]
theorem sc_l_named : FnScope N_l_named ["_law_given"] (defScope s_l_named) := ⟨rfl, rfl, rfl, by decide +kernel, rfl, by decide +kernel, by decide +kernel⟩
abbrev s_l_bare : Stmt := (top 26)
abbrev N_l_bare : List Str := ["_law_found"]
theorem sc_l_bare : FnScope N_l_bare [] (defScope s_l_bare) := ⟨rfl, rfl, rfl, by decide +kernel, rfl, by decide +kernel, by decide +kernel⟩
abbrev s_law : Stmt := (top 27)
abbrev N_law : List Str := ["_law_script", "_law_number", "_law_elder", "_law_given", "_law_first", "_law_second"]
theorem sc_law : FnScope N_law ["_law_script"] (defScope s_law) := ⟨rfl, rfl, rfl, by decide +kernel, rfl, by decide +kernel, by decide +kernel⟩
def e_InvalidNumberD : ErrD := ⟨"InvalidNumber", inClass (top 2) 0⟩
def e_InvalidAmountD : ErrD := ⟨"InvalidAmount", inClass (top 3) 0⟩
def e_InvalidListD : ErrD := ⟨"InvalidList", inClass (top 4) 0⟩
def e_InvalidWorthD : ErrD := ⟨"InvalidWorth", inClass (top 5) 0⟩
def e_InvalidRollD : ErrD := ⟨"InvalidRoll", inClass (top 6) 0⟩
def e_InvalidCounterD : ErrD := ⟨"InvalidCounter", inClass (top 7) 0⟩
def e_InvalidStandingD : ErrD := ⟨"InvalidStanding", inClass (top 8) 0⟩
def e_InvalidMenuD : ErrD := ⟨"InvalidMenu", inClass (top 9) 0⟩
def e_InvalidTextD : ErrD := ⟨"InvalidText", inClass (top 11) 0⟩
def e_InvalidPaymentD : ErrD := ⟨"InvalidPayment", inClass (top 10) 0⟩
def e_NoPaymentD : ErrD := ⟨"NoPayment", inClass (top 12) 0⟩
def e_InvalidNameD : ErrD := ⟨"InvalidName", inClass (top 13) 0⟩
def e_TakenNameD : ErrD := ⟨"TakenName", inClass (top 14) 0⟩
def e_UnknownNameD : ErrD := ⟨"UnknownName", inClass (top 15) 0⟩
abbrev FnP (K : PySem.W.Frag) (x q : Str) (st : Stmt) (dv : List V) (f : Addr) (fd : FuncData) : Prop := FunD K x q (defArgs st) (defBody st) (defScope st) dv [] f fd
/-- what the walk asks of the top -/
structure Txt (K : PySem.W.Frag) (mg : Str → Option Value) : Type where
  g_l_cell : mg "_law_cell" = some (.ref (ga K "_law_cell"))
  g_l_hash : mg "_law_hash" = some (.ref (ga K "_law_hash"))
  g_l_generator : mg "_law_generator" = some (.ref (ga K "_law_generator"))
  g_l_random : mg "_law_random" = some (.ref (ga K "_law_random"))
  g_l_kinds : mg "_law_kinds" = some (.ref (ga K "_law_kinds"))
  g_l_right : mg "_law_right" = some (.ref (ga K "_law_right"))
  g_l_placed : mg "_law_placed" = some (.ref (ga K "_law_placed"))
  g_l_named : mg "_law_named" = some (.ref (ga K "_law_named"))
  g_l_bare : mg "_law_bare" = some (.ref (ga K "_law_bare"))
  g_law : mg "law" = some (.ref (ga K "law"))
  g_ClerkError : mg "ClerkError" = some (.ref (ga K "ClerkError"))
  g_InvalidNumber : mg "InvalidNumber" = some (.ref (ga K "InvalidNumber"))
  g_InvalidAmount : mg "InvalidAmount" = some (.ref (ga K "InvalidAmount"))
  g_InvalidList : mg "InvalidList" = some (.ref (ga K "InvalidList"))
  g_InvalidWorth : mg "InvalidWorth" = some (.ref (ga K "InvalidWorth"))
  g_InvalidRoll : mg "InvalidRoll" = some (.ref (ga K "InvalidRoll"))
  g_InvalidCounter : mg "InvalidCounter" = some (.ref (ga K "InvalidCounter"))
  g_InvalidStanding : mg "InvalidStanding" = some (.ref (ga K "InvalidStanding"))
  g_InvalidMenu : mg "InvalidMenu" = some (.ref (ga K "InvalidMenu"))
  g_InvalidPayment : mg "InvalidPayment" = some (.ref (ga K "InvalidPayment"))
  g_InvalidText : mg "InvalidText" = some (.ref (ga K "InvalidText"))
  g_NoPayment : mg "NoPayment" = some (.ref (ga K "NoPayment"))
  g_InvalidName : mg "InvalidName" = some (.ref (ga K "InvalidName"))
  g_TakenName : mg "TakenName" = some (.ref (ga K "TakenName"))
  g_UnknownName : mg "UnknownName" = some (.ref (ga K "UnknownName"))
  g_NothingToUndo : mg "NothingToUndo" = some (.ref (ga K "NothingToUndo"))
  fr_ValueError : mg "ValueError" = none
  fr_dict : mg "dict" = none
  fr_int : mg "int" = none
  fr_isinstance : mg "isinstance" = none
  fr_len : mg "len" = none
  fr_list : mg "list" = none
  fr_max : mg "max" = none
  fr_range : mg "range" = none
  fr_repr : mg "repr" = none
  fr_super : mg "super" = none
  e_InvalidNumber : ErrC PR K mg (ga K "InvalidNumber") (ma K (ga K "InvalidNumber") "__init__")
  e_InvalidAmount : ErrC PR K mg (ga K "InvalidAmount") (ma K (ga K "InvalidAmount") "__init__")
  e_InvalidList : ErrC PR K mg (ga K "InvalidList") (ma K (ga K "InvalidList") "__init__")
  e_InvalidWorth : ErrC PR K mg (ga K "InvalidWorth") (ma K (ga K "InvalidWorth") "__init__")
  e_InvalidRoll : ErrC PR K mg (ga K "InvalidRoll") (ma K (ga K "InvalidRoll") "__init__")
  e_InvalidCounter : ErrC PR K mg (ga K "InvalidCounter") (ma K (ga K "InvalidCounter") "__init__")
  e_InvalidStanding : ErrC PR K mg (ga K "InvalidStanding") (ma K (ga K "InvalidStanding") "__init__")
  e_InvalidMenu : ErrC PR K mg (ga K "InvalidMenu") (ma K (ga K "InvalidMenu") "__init__")
  e_InvalidText : ErrC PR K mg (ga K "InvalidText") (ma K (ga K "InvalidText") "__init__")
  e_InvalidPayment : ErrC PR K mg (ga K "InvalidPayment") (ma K (ga K "InvalidPayment") "__init__")
  e_NoPayment : ErrC PR K mg (ga K "NoPayment") (ma K (ga K "NoPayment") "__init__")
  e_InvalidName : ErN.ErrC PR K mg (ga K "InvalidName") (ma K (ga K "InvalidName") "__init__")
  e_TakenName : ErN.ErrC PR K mg (ga K "TakenName") (ma K (ga K "TakenName") "__init__")
  e_UnknownName : ErN.ErrC PR K mg (ga K "UnknownName") (ma K (ga K "UnknownName") "__init__")
  uU : UCls K (ga K "NothingToUndo")
  kits : Kits K ["InvalidNumber", "InvalidAmount", "InvalidList", "InvalidWorth", "InvalidRoll", "InvalidCounter", "InvalidStanding", "InvalidMenu", "InvalidText", "InvalidPayment", "NoPayment", "InvalidName", "TakenName", "UnknownName", "NothingToUndo"] "ClerkError"
  xCE : ClsX K (ga K "ClerkError")
  fd_l_cell : FuncData
  F_l_cell : FnP K "_law_cell" "_law_cell" s_l_cell [] (He.fAd K ("_law_cell", none)) fd_l_cell
  fd_l_hash : FuncData
  F_l_hash : FnP K "_law_hash" "_law_hash" s_l_hash [] (He.fAd K ("_law_hash", none)) fd_l_hash
  fd_l_generator : FuncData
  F_l_generator : FnP K "_law_generator" "_law_generator" s_l_generator [] (He.fAd K ("_law_generator", none)) fd_l_generator
  fd_l_random : FuncData
  F_l_random : FnP K "_law_random" "_law_random" s_l_random [] (He.fAd K ("_law_random", none)) fd_l_random
  fd_l_kinds : FuncData
  F_l_kinds : FnP K "_law_kinds" "_law_kinds" s_l_kinds [] (He.fAd K ("_law_kinds", none)) fd_l_kinds
  fd_l_right : FuncData
  F_l_right : FnP K "_law_right" "_law_right" s_l_right [] (He.fAd K ("_law_right", none)) fd_l_right
  fd_l_placed : FuncData
  F_l_placed : FnP K "_law_placed" "_law_placed" s_l_placed [] (He.fAd K ("_law_placed", none)) fd_l_placed
  fd_l_named : FuncData
  F_l_named : FnP K "_law_named" "_law_named" s_l_named [] (He.fAd K ("_law_named", none)) fd_l_named
  fd_l_bare : FuncData
  F_l_bare : FnP K "_law_bare" "_law_bare" s_l_bare [] (He.fAd K ("_law_bare", none)) fd_l_bare
  fd_law : FuncData
  F_law : FnP K "law" "law" s_law [] (He.fAd K ("law", none)) fd_law
section
variable {K : PySem.W.Frag} {mg : Str → Option Value}
theorem b_l_cell (T : Txt K mg) : Binds K T.fd_l_cell ["_law_script", "_law_index"] [] := T.F_l_cell.bindsN fun _ _ _ _ _ _ us hl => match us, hl with | [_, _], _ => rfl
theorem b_l_hash (T : Txt K mg) : Binds K T.fd_l_hash ["_law_seed", "_law_index"] [] := T.F_l_hash.bindsN fun _ _ _ _ _ _ us hl => match us, hl with | [_, _], _ => rfl
theorem b_l_generator (T : Txt K mg) : Binds K T.fd_l_generator ["_law_script", "_law_index"] [] := T.F_l_generator.bindsN fun _ _ _ _ _ _ us hl => match us, hl with | [_, _], _ => rfl
theorem b_l_random (T : Txt K mg) : Binds K T.fd_l_random ["_law_generator_here", "_law_bound"] [] := T.F_l_random.bindsN fun _ _ _ _ _ _ us hl => match us, hl with | [_, _], _ => rfl
theorem b_l_kinds (T : Txt K mg) : Binds K T.fd_l_kinds ["_law_error"] [] := T.F_l_kinds.bindsN fun _ _ _ _ _ _ us hl => match us, hl with | [_], _ => rfl
theorem b_l_right (T : Txt K mg) : Binds K T.fd_l_right ["_law_errors", "_law_given"] [] := T.F_l_right.bindsN fun _ _ _ _ _ _ us hl => match us, hl with | [_, _], _ => rfl
theorem b_l_placed (T : Txt K mg) : Binds K T.fd_l_placed ["_law_given"] [] := T.F_l_placed.bindsN fun _ _ _ _ _ _ us hl => match us, hl with | [_], _ => rfl
theorem b_l_named (T : Txt K mg) : Binds K T.fd_l_named ["_law_given"] [] := T.F_l_named.bindsN fun _ _ _ _ _ _ us hl => match us, hl with | [_], _ => rfl
theorem b_l_bare (T : Txt K mg) : Binds K T.fd_l_bare [] [] := T.F_l_bare.bindsN fun _ _ _ _ _ _ us hl => match us, hl with | [], _ => rfl
theorem b_law (T : Txt K mg) : Binds K T.fd_law ["_law_script"] [] := T.F_law.bindsN fun _ _ _ _ _ _ us hl => match us, hl with | [_], _ => rfl
end
end RC
namespace RC
open PySem PySem.Spec PyProof.Rows L2 He
def d_l_cell : He.DefD := ⟨("_law_cell", none), "_law_cell", "_law_cell", defArgs s_l_cell, defBody s_l_cell, defScope s_l_cell, [], []⟩
def d_l_hash : He.DefD := ⟨("_law_hash", none), "_law_hash", "_law_hash", defArgs s_l_hash, defBody s_l_hash, defScope s_l_hash, [], []⟩
def d_l_generator : He.DefD := ⟨("_law_generator", none), "_law_generator", "_law_generator", defArgs s_l_generator, defBody s_l_generator, defScope s_l_generator, [], []⟩
def d_l_random : He.DefD := ⟨("_law_random", none), "_law_random", "_law_random", defArgs s_l_random, defBody s_l_random, defScope s_l_random, [], []⟩
def d_l_kinds : He.DefD := ⟨("_law_kinds", none), "_law_kinds", "_law_kinds", defArgs s_l_kinds, defBody s_l_kinds, defScope s_l_kinds, [], []⟩
def d_l_right : He.DefD := ⟨("_law_right", none), "_law_right", "_law_right", defArgs s_l_right, defBody s_l_right, defScope s_l_right, [], []⟩
def d_l_placed : He.DefD := ⟨("_law_placed", none), "_law_placed", "_law_placed", defArgs s_l_placed, defBody s_l_placed, defScope s_l_placed, [], []⟩
def d_l_named : He.DefD := ⟨("_law_named", none), "_law_named", "_law_named", defArgs s_l_named, defBody s_l_named, defScope s_l_named, [], []⟩
def d_l_bare : He.DefD := ⟨("_law_bare", none), "_law_bare", "_law_bare", defArgs s_l_bare, defBody s_l_bare, defScope s_l_bare, [], []⟩
def d_law : He.DefD := ⟨("law", none), "law", "law", defArgs s_law, defBody s_law, defScope s_law, [], []⟩
def fn0 : List He.DefD := [d_l_cell, d_l_hash, d_l_generator, d_l_random, d_l_kinds, d_l_right, d_l_placed, d_l_named, d_l_bare, d_law]
def fn : List He.DefD := fn0
def fa0 : List He.Fa := [.glo "_law_cell", .glo "_law_hash", .glo "_law_generator", .glo "_law_random", .glo "_law_kinds", .glo "_law_right", .glo "_law_placed", .glo "_law_named", .glo "_law_bare", .glo "law", .glo "ClerkError", .glo "InvalidNumber", .glo "InvalidAmount", .glo "InvalidList", .glo "InvalidWorth", .glo "InvalidRoll", .glo "InvalidCounter", .glo "InvalidStanding", .glo "InvalidMenu", .glo "InvalidPayment", .glo "InvalidText", .glo "NoPayment", .glo "InvalidName", .glo "TakenName", .glo "UnknownName", .glo "NothingToUndo", .free "ValueError", .free "dict", .free "int", .free "isinstance"]
def fa1 : List He.Fa := [.free "len", .free "list", .free "max", .free "range", .free "repr", .free "super"]
def fa : List He.Fa := fa0 ++ (fa1)
def cs : List Str := ["ClerkError"]
def ks : List Kq := []
def ns : List Nf := []
def loose0 : List Str := ["_law_cell", "_law_hash", "_law_generator", "_law_random", "_law_kinds", "_law_right", "_law_placed", "_law_named", "_law_bare", "ClerkError", "InvalidNumber", "InvalidAmount", "InvalidList", "InvalidWorth", "InvalidRoll", "InvalidCounter", "InvalidStanding", "InvalidMenu", "InvalidPayment", "InvalidText", "NoPayment", "InvalidName", "TakenName", "UnknownName", "NothingToUndo"]
def loose : List Str := loose0
abbrev R : PySem.W.OpenRow := PySem.W.OpenLaw.row PySem.Challenge.rw_rollclerk_k01_errors
def ev : List ErrD := [e_InvalidNumberD, e_InvalidAmountD, e_InvalidListD, e_InvalidWorthD, e_InvalidRollD, e_InvalidCounterD, e_InvalidStandingD, e_InvalidMenuD, e_InvalidTextD, e_InvalidPaymentD, e_NoPaymentD]
def en : List ErrD := [e_InvalidNameD, e_TakenNameD, e_UnknownNameD]
abbrev hk : PySem.W.Hook := RC.hookF 6 fa fn cs ks ns ev en "NothingToUndo" "ClerkError" PR.main.file
def ob (s : PySem.W.SharedT) : RC.AlF := RC.obsFG 6 fa fn cs ks ns ev en "NothingToUndo" "ClerkError" PR.main.file (HandSHeadRun.getT s)
theorem ob_eq (s : PySem.W.SharedT) : ob s = hk.obs s.abs := RC.obsFG_eq (HandSHeadRun.getT_eq s)
theorem run (w : World) : HandSHeadRun.RunEq R (PySem.W.view R.prog [27]) hk ob 8000 loose w := by
  intro os
  kernel_rfl
theorem txt_of {K : PySem.W.Frag} {h : Heap} {mg : Str → Option Value} (X : K.In h) (G : h.Ns mainGlobals mg) (c : RC.SaysF fa fn cs ks ns ev en "NothingToUndo" "ClerkError" PR.main.file K) : Nonempty (Txt K mg) := by
  obtain ⟨fd_l_cell, F_l_cell⟩ := c.r.d.def_ 0 (d := d_l_cell) rfl
  obtain ⟨fd_l_hash, F_l_hash⟩ := c.r.d.def_ 1 (d := d_l_hash) rfl
  obtain ⟨fd_l_generator, F_l_generator⟩ := c.r.d.def_ 2 (d := d_l_generator) rfl
  obtain ⟨fd_l_random, F_l_random⟩ := c.r.d.def_ 3 (d := d_l_random) rfl
  obtain ⟨fd_l_kinds, F_l_kinds⟩ := c.r.d.def_ 4 (d := d_l_kinds) rfl
  obtain ⟨fd_l_right, F_l_right⟩ := c.r.d.def_ 5 (d := d_l_right) rfl
  obtain ⟨fd_l_placed, F_l_placed⟩ := c.r.d.def_ 6 (d := d_l_placed) rfl
  obtain ⟨fd_l_named, F_l_named⟩ := c.r.d.def_ 7 (d := d_l_named) rfl
  obtain ⟨fd_l_bare, F_l_bare⟩ := c.r.d.def_ 8 (d := d_l_bare) rfl
  obtain ⟨fd_law, F_law⟩ := c.r.d.def_ 9 (d := d_law) rfl
  exact ⟨{
    g_l_cell := He.glo_ok X G (c.r.d.fact 0 (f := .glo "_law_cell") rfl),
    g_l_hash := He.glo_ok X G (c.r.d.fact 1 (f := .glo "_law_hash") rfl),
    g_l_generator := He.glo_ok X G (c.r.d.fact 2 (f := .glo "_law_generator") rfl),
    g_l_random := He.glo_ok X G (c.r.d.fact 3 (f := .glo "_law_random") rfl),
    g_l_kinds := He.glo_ok X G (c.r.d.fact 4 (f := .glo "_law_kinds") rfl),
    g_l_right := He.glo_ok X G (c.r.d.fact 5 (f := .glo "_law_right") rfl),
    g_l_placed := He.glo_ok X G (c.r.d.fact 6 (f := .glo "_law_placed") rfl),
    g_l_named := He.glo_ok X G (c.r.d.fact 7 (f := .glo "_law_named") rfl),
    g_l_bare := He.glo_ok X G (c.r.d.fact 8 (f := .glo "_law_bare") rfl),
    g_law := He.glo_ok X G (c.r.d.fact 9 (f := .glo "law") rfl),
    g_ClerkError := He.glo_ok X G (c.r.d.fact 10 (f := .glo "ClerkError") rfl),
    g_InvalidNumber := He.glo_ok X G (c.r.d.fact 11 (f := .glo "InvalidNumber") rfl),
    g_InvalidAmount := He.glo_ok X G (c.r.d.fact 12 (f := .glo "InvalidAmount") rfl),
    g_InvalidList := He.glo_ok X G (c.r.d.fact 13 (f := .glo "InvalidList") rfl),
    g_InvalidWorth := He.glo_ok X G (c.r.d.fact 14 (f := .glo "InvalidWorth") rfl),
    g_InvalidRoll := He.glo_ok X G (c.r.d.fact 15 (f := .glo "InvalidRoll") rfl),
    g_InvalidCounter := He.glo_ok X G (c.r.d.fact 16 (f := .glo "InvalidCounter") rfl),
    g_InvalidStanding := He.glo_ok X G (c.r.d.fact 17 (f := .glo "InvalidStanding") rfl),
    g_InvalidMenu := He.glo_ok X G (c.r.d.fact 18 (f := .glo "InvalidMenu") rfl),
    g_InvalidPayment := He.glo_ok X G (c.r.d.fact 19 (f := .glo "InvalidPayment") rfl),
    g_InvalidText := He.glo_ok X G (c.r.d.fact 20 (f := .glo "InvalidText") rfl),
    g_NoPayment := He.glo_ok X G (c.r.d.fact 21 (f := .glo "NoPayment") rfl),
    g_InvalidName := He.glo_ok X G (c.r.d.fact 22 (f := .glo "InvalidName") rfl),
    g_TakenName := He.glo_ok X G (c.r.d.fact 23 (f := .glo "TakenName") rfl),
    g_UnknownName := He.glo_ok X G (c.r.d.fact 24 (f := .glo "UnknownName") rfl),
    g_NothingToUndo := He.glo_ok X G (c.r.d.fact 25 (f := .glo "NothingToUndo") rfl),
    fr_ValueError := He.free_ok X G (c.r.d.fact 26 (f := .free "ValueError") rfl),
    fr_dict := He.free_ok X G (c.r.d.fact 27 (f := .free "dict") rfl),
    fr_int := He.free_ok X G (c.r.d.fact 28 (f := .free "int") rfl),
    fr_isinstance := He.free_ok X G (c.r.d.fact 29 (f := .free "isinstance") rfl),
    fr_len := He.free_ok X G (c.r.d.fact 30 (f := .free "len") rfl),
    fr_list := He.free_ok X G (c.r.d.fact 31 (f := .free "list") rfl),
    fr_max := He.free_ok X G (c.r.d.fact 32 (f := .free "max") rfl),
    fr_range := He.free_ok X G (c.r.d.fact 33 (f := .free "range") rfl),
    fr_repr := He.free_ok X G (c.r.d.fact 34 (f := .free "repr") rfl),
    fr_super := He.free_ok X G (c.r.d.fact 35 (f := .free "super") rfl),
    e_InvalidNumber := err_of (e := e_InvalidNumberD) (file := PR.main.file) (He.free_ok X G (c.r.d.fact 35 (f := .free "super") rfl)) (by decide +kernel) rfl ⟨_, _, _, rfl⟩ ⟨_, _, _, _, _, _, _, _, _, _, rfl, rfl⟩ rfl (c.errV 0 (e := e_InvalidNumberD) rfl).1 (c.errV 0 (e := e_InvalidNumberD) rfl).2,
    e_InvalidAmount := err_of (e := e_InvalidAmountD) (file := PR.main.file) (He.free_ok X G (c.r.d.fact 35 (f := .free "super") rfl)) (by decide +kernel) rfl ⟨_, _, _, rfl⟩ ⟨_, _, _, _, _, _, _, _, _, _, rfl, rfl⟩ rfl (c.errV 1 (e := e_InvalidAmountD) rfl).1 (c.errV 1 (e := e_InvalidAmountD) rfl).2,
    e_InvalidList := err_of (e := e_InvalidListD) (file := PR.main.file) (He.free_ok X G (c.r.d.fact 35 (f := .free "super") rfl)) (by decide +kernel) rfl ⟨_, _, _, rfl⟩ ⟨_, _, _, _, _, _, _, _, _, _, rfl, rfl⟩ rfl (c.errV 2 (e := e_InvalidListD) rfl).1 (c.errV 2 (e := e_InvalidListD) rfl).2,
    e_InvalidWorth := err_of (e := e_InvalidWorthD) (file := PR.main.file) (He.free_ok X G (c.r.d.fact 35 (f := .free "super") rfl)) (by decide +kernel) rfl ⟨_, _, _, rfl⟩ ⟨_, _, _, _, _, _, _, _, _, _, rfl, rfl⟩ rfl (c.errV 3 (e := e_InvalidWorthD) rfl).1 (c.errV 3 (e := e_InvalidWorthD) rfl).2,
    e_InvalidRoll := err_of (e := e_InvalidRollD) (file := PR.main.file) (He.free_ok X G (c.r.d.fact 35 (f := .free "super") rfl)) (by decide +kernel) rfl ⟨_, _, _, rfl⟩ ⟨_, _, _, _, _, _, _, _, _, _, rfl, rfl⟩ rfl (c.errV 4 (e := e_InvalidRollD) rfl).1 (c.errV 4 (e := e_InvalidRollD) rfl).2,
    e_InvalidCounter := err_of (e := e_InvalidCounterD) (file := PR.main.file) (He.free_ok X G (c.r.d.fact 35 (f := .free "super") rfl)) (by decide +kernel) rfl ⟨_, _, _, rfl⟩ ⟨_, _, _, _, _, _, _, _, _, _, rfl, rfl⟩ rfl (c.errV 5 (e := e_InvalidCounterD) rfl).1 (c.errV 5 (e := e_InvalidCounterD) rfl).2,
    e_InvalidStanding := err_of (e := e_InvalidStandingD) (file := PR.main.file) (He.free_ok X G (c.r.d.fact 35 (f := .free "super") rfl)) (by decide +kernel) rfl ⟨_, _, _, rfl⟩ ⟨_, _, _, _, _, _, _, _, _, _, rfl, rfl⟩ rfl (c.errV 6 (e := e_InvalidStandingD) rfl).1 (c.errV 6 (e := e_InvalidStandingD) rfl).2,
    e_InvalidMenu := err_of (e := e_InvalidMenuD) (file := PR.main.file) (He.free_ok X G (c.r.d.fact 35 (f := .free "super") rfl)) (by decide +kernel) rfl ⟨_, _, _, rfl⟩ ⟨_, _, _, _, _, _, _, _, _, _, rfl, rfl⟩ rfl (c.errV 7 (e := e_InvalidMenuD) rfl).1 (c.errV 7 (e := e_InvalidMenuD) rfl).2,
    e_InvalidText := err_of (e := e_InvalidTextD) (file := PR.main.file) (He.free_ok X G (c.r.d.fact 35 (f := .free "super") rfl)) (by decide +kernel) rfl ⟨_, _, _, rfl⟩ ⟨_, _, _, _, _, _, _, _, _, _, rfl, rfl⟩ rfl (c.errV 8 (e := e_InvalidTextD) rfl).1 (c.errV 8 (e := e_InvalidTextD) rfl).2,
    e_InvalidPayment := err_of (e := e_InvalidPaymentD) (file := PR.main.file) (He.free_ok X G (c.r.d.fact 35 (f := .free "super") rfl)) (by decide +kernel) rfl ⟨_, _, _, rfl⟩ ⟨_, _, _, _, _, _, _, _, _, _, rfl, rfl⟩ rfl (c.errV 9 (e := e_InvalidPaymentD) rfl).1 (c.errV 9 (e := e_InvalidPaymentD) rfl).2,
    e_NoPayment := err_of (e := e_NoPaymentD) (file := PR.main.file) (He.free_ok X G (c.r.d.fact 35 (f := .free "super") rfl)) (by decide +kernel) rfl ⟨_, _, _, rfl⟩ ⟨_, _, _, _, _, _, _, _, _, _, rfl, rfl⟩ rfl (c.errV 10 (e := e_NoPaymentD) rfl).1 (c.errV 10 (e := e_NoPaymentD) rfl).2,
    e_InvalidName := err_ofN (e := e_InvalidNameD) (file := PR.main.file) (He.free_ok X G (c.r.d.fact 35 (f := .free "super") rfl)) (by decide +kernel) rfl ⟨_, _, _, rfl⟩ ⟨_, _, _, _, _, _, _, _, _, _, rfl, rfl⟩ rfl (c.errN 0 (e := e_InvalidNameD) rfl).1 (c.errN 0 (e := e_InvalidNameD) rfl).2,
    e_TakenName := err_ofN (e := e_TakenNameD) (file := PR.main.file) (He.free_ok X G (c.r.d.fact 35 (f := .free "super") rfl)) (by decide +kernel) rfl ⟨_, _, _, rfl⟩ ⟨_, _, _, _, _, _, _, _, _, _, rfl, rfl⟩ rfl (c.errN 1 (e := e_TakenNameD) rfl).1 (c.errN 1 (e := e_TakenNameD) rfl).2,
    e_UnknownName := err_ofN (e := e_UnknownNameD) (file := PR.main.file) (He.free_ok X G (c.r.d.fact 35 (f := .free "super") rfl)) (by decide +kernel) rfl ⟨_, _, _, rfl⟩ ⟨_, _, _, _, _, _, _, _, _, _, rfl, rfl⟩ rfl (c.errN 2 (e := e_UnknownNameD) rfl).1 (c.errN 2 (e := e_UnknownNameD) rfl).2,
    uU := c.uC,
    kits := c.kits,
    xCE := c.r.cls 0 (x := "ClerkError") rfl,
    fd_l_cell := fd_l_cell,
    F_l_cell := F_l_cell,
    fd_l_hash := fd_l_hash,
    F_l_hash := F_l_hash,
    fd_l_generator := fd_l_generator,
    F_l_generator := F_l_generator,
    fd_l_random := fd_l_random,
    F_l_random := F_l_random,
    fd_l_kinds := fd_l_kinds,
    F_l_kinds := F_l_kinds,
    fd_l_right := fd_l_right,
    F_l_right := F_l_right,
    fd_l_placed := fd_l_placed,
    F_l_placed := F_l_placed,
    fd_l_named := fd_l_named,
    F_l_named := F_l_named,
    fd_l_bare := fd_l_bare,
    F_l_bare := F_l_bare,
    fd_law := fd_law,
    F_law := F_law }⟩
end RC
/-! ## Lifting: readings told by plain data -/
namespace Lf
open PySem PySem.Spec PyProof.Rows L2
open PySem.W (Frag)

/-! ### plain results -/
/-- a raised error: its class, what it was made with -/
inductive PV where
  | non | bl (b : Bool) | int (i : Int) | str (s : Str) | lst (xs : List PV) | tup (xs : List PV)
  /-- {}; a roll: its row, its first sums -/
  | edict | roll (row firsts : List Int)
structure Exn where
  cls : Str
  val : PV
inductive Res (α : Type) where
  | ok (a : α) | err (e : Exn) | bad
/-- an undefined or too great step is bad -/
def Res.req {α β : Type} (o : Option α) (k : α → Res β) : Res β := match o with
  | some a => k a
  | none => .bad
def Res.bind {α β : Type} (m : Res α) (k : α → Res β) : Res β := match m with
  | .ok a => k a
  | .err e => .err e
  | .bad => .bad
def Res.val {α : Type} (m : Res α) : Option α := match m with
  | .ok a => some a
  | _ => none
/-- where a block leads: on, or out of the def -/
inductive Ctl (S R : Type) where
  | nx (s : S) | rt (r : R)
/-- a loop over these, one that is never left -/
def Res.fold {α S : Type} (f : S → α → Res S) : List α → S → Res S
  | [], s => .ok s
  | x :: xs, s => Res.bind (f s x) (Res.fold f xs)
/-- a loop that may be left by a return -/
def Res.loop {α S R : Type} (f : S → α → Res (Ctl S R)) : List α → S → Res (Ctl S R)
  | [], s => .ok (.nx s)
  | x :: xs, s => Res.bind (f s x) fun c => match c with
    | .nx s' => Res.loop f xs s'
    | .rt r => .ok (.rt r)
/-- a while: at most n turns; f tells none at the end -/
def Res.turns {S R : Type} (f : S → Res (Option (Ctl S R))) : Nat → S → Res (Ctl S R)
  | 0, _ => .bad
  | n + 1, s => Res.bind (f s) fun c => match c with
    | none => .ok (.nx s)
    | some (.nx s') => Res.turns f n s'
    | some (.rt r) => .ok (.rt r)
/-- behind a block that may have returned -/
def Res.after {S R X : Type} (m : Res (Ctl S R)) (k : S → Res X) (kr : R → Res X) : Res X := Res.bind m fun c => match c with
  | .nx s => k s
  | .rt r => kr r
/-- a comprehension's turns -/
def mapO {α β : Type} (f : α → Option (Option β)) : List α → Option (List β)
  | [] => some []
  | x :: xs => match f x with
    | none => none
    | some none => mapO f xs
    | some (some y) => match mapO f xs with
      | none => none
      | some ys => some (y :: ys)

/-- the same with a state -/
def mapS {α β S : Type} (f : S → α → Option (S × Option β)) : List α → S → Option (S × List β)
  | [], s => some (s, [])
  | x :: xs, s => match f s x with
    | none => none
    | some (s', none) => mapS f xs s'
    | some (s', some y) => match mapS f xs s' with
      | none => none
      | some (s'', ys) => some (s'', y :: ys)

/-! ### memos: a dict that is filled on the way -/
structure Tu (α : Type) where
  l : List α
structure Dic (κ α : Type) where
  l : List (κ × α)
/-- what a memo will hold once it is filled -/
structure Mm where
  D : Dic Int (Int × Tu Int)
  f : Int
def memoL (m : Mm) (b : Bool) : List (List Key × V) := ([.inl m.f], .bl b) :: m.D.l.map fun e => (.inl e.1 :: .inl e.2.1 :: e.2.2.l.map .inl, .non)
/-- the place of a memo, as it is known: b says that it is filled -/
def memo (m : Mm) (b : Bool) : HO := .dT (memoL m b)
theorem inl_inj : ∀ {a b : List Int}, (a.map Sum.inl : List Key) = b.map Sum.inl → a = b
  | [], [], _ => rfl
  | x :: a, y :: b, h => by
    rw [List.map_cons, List.map_cons] at h
    injection h with h1 h2
    rw [Sum.inl.inj h1, inl_inj h2]
theorem memoL_inj {m m' : Mm} {b b' : Bool} (h : memoL m b = memoL m' b') : m = m' ∧ b = b' := by
  unfold memoL at h
  injection h with h1 h2
  injection h1 with h1 h3
  injection h1 with h1
  injection h3 with h3
  have e : m.f = m'.f := Sum.inl.inj h1
  have l : ∀ (x y : List (Int × (Int × Tu Int))), (x.map fun e => ((.inl e.1 :: .inl e.2.1 :: e.2.2.l.map .inl, .non) : List Key × V)) = y.map (fun e => (.inl e.1 :: .inl e.2.1 :: e.2.2.l.map .inl, .non)) → x = y := fun x => by
    induction x with
    | nil =>
      intro y h
      cases y with
      | nil => rfl
      | cons y ys => cases h
    | cons x xs ih =>
      intro y h
      cases y with
      | nil => cases h
      | cons y ys =>
        rw [List.map_cons, List.map_cons] at h
        injection h with h1 h2
        injection h1 with h1 _
        injection h1 with h1 h4
        injection h4 with h4 h5
        obtain ⟨a, b, c⟩ := x
        obtain ⟨a', b', c'⟩ := y
        cases c
        cases c'
        have e1 : a = a' := Sum.inl.inj h1
        have e2 : b = b' := Sum.inl.inj h4
        have e3 := inl_inj h5
        have e4 := ih ys h2
        dsimp only at e3
        rw [e1, e2, e3, e4]
  obtain ⟨⟨x⟩, f⟩ := m
  obtain ⟨⟨y⟩, f'⟩ := m'
  have e2 := l x y h2
  dsimp only at e
  rw [e, e2]
  exact ⟨rfl, h3⟩
theorem memo_inj {m m' : Mm} {b b' : Bool} (h : memo m b = memo m' b') : m = m' ∧ b = b' := memoL_inj (HO.dT.inj h)
/-- what is told another way than it stands: memos; dicts whose keys are tuples, told as locked -/
def StH : HO → Prop
  | .dT _ => True
  | .frz _ (.dT _) => True
  | _ => False
theorem StH.frz {o : HO} (n : ¬ StH o) (od : Obj) : ¬ StH (.frz od o) := by
  cases o <;> first | exact fun z => z | exact absurd trivial n
/-- the lock of a dict with tuple keys that need not be locked -/
def z0 : Obj := { cls := .none, data := .seq #[] }
/-! ### heaps that grow; a dict may be locked on the way, a memo filled -/
def LockD : HO → Prop
  | .dK _ => True
  | _ => False
theorem LockD.st {o : HO} (h : LockD o) : ¬ StH o := by
  cases o <;> first | exact h.elim | exact fun z => z
/-- what an object may become -/
def Adv (o o' : HO) : Prop := (LockD o ∧ ∃ od, o' = .frz od o) ∨ (∃ m, o = memo m false ∧ o' = memo m true) ∨ ∃ t od, o = .frz z0 (.dT t) ∧ o' = .frz od (.dT t)
def Le (G G' : Hp) : Prop := ∀ a o, G a = some o → G' a = some o ∨ ∃ o', Adv o o' ∧ G' a = some o'
theorem Le.refl (G : Hp) : Le G G := fun _ _ e => .inl e
theorem Le.trans {G G1 G2 : Hp} (s : Le G G1) (t : Le G1 G2) : Le G G2 := fun a o e => by
  rcases s a o e with e | ⟨o', d, e⟩
  · exact t a o e
  · rcases t a _ e with e | ⟨o2, d2, e2⟩
    · exact .inr ⟨o', d, e⟩
    · rcases d with ⟨l, od, rfl⟩ | ⟨m, rfl, rfl⟩ | ⟨t', od, rfl, rfl⟩
      · rcases d2 with ⟨z, _⟩ | ⟨m, z, _⟩ | ⟨t', od', z, _⟩
        · exact z.elim
        · cases z
        · cases z
          exact l.elim
      · rcases d2 with ⟨z, _⟩ | ⟨m', z, _⟩ | ⟨t', od', z, _⟩
        · exact z.elim
        · cases (memo_inj z).2
        · cases z
      · rcases d2 with ⟨z, _⟩ | ⟨m', z, _⟩ | ⟨t2, od', z, rfl⟩
        · exact z.elim
        · cases z
        · cases z
          exact .inr ⟨_, .inr (.inr ⟨_, _, rfl, rfl⟩), e2⟩
theorem Le.at {G G' : Hp} (s : Le G G') {a : Addr} {o : HO} (e : G a = some o) (n : ¬ LockD o := by exact fun z => z) (n2 : ¬ StH o := by exact fun z => z) : G' a = some o := by
  rcases s a o e with e | ⟨o', ⟨d, _⟩ | ⟨m, rfl, _⟩ | ⟨t, od, rfl, _⟩, e⟩
  · exact e
  · exact absurd d n
  · exact absurd trivial n2
  · exact absurd trivial n2
/-- a dict with tuple keys stays one -/
theorem Le.dt {G G' : Hp} (s : Le G G') {a : Addr} {z : Obj} {t : List (List Key × V)} (e : G a = some (.frz z (.dT t))) : ∃ z', (z ≠ z0 → z' = z) ∧ G' a = some (.frz z' (.dT t)) := by
  rcases s a _ e with e | ⟨o', ⟨d, _⟩ | ⟨m, y, _⟩ | ⟨t', od, y, rfl⟩, e⟩
  · exact ⟨z, fun _ => rfl, e⟩
  · exact d.elim
  · cases y
  · cases y
    exact ⟨od, fun n => absurd rfl n, e⟩
theorem Le.rd {G G' : Hp} (s : Le G G') {a : Addr} {kvs : List (Key × V)} (e : Rd G a (.dK kvs)) : Rd G' a (.dK kvs) := by
  rcases e with e | ⟨od, e⟩
  · rcases s a _ e with e | ⟨o', ⟨_, od, rfl⟩ | ⟨m, z, _⟩ | ⟨t', od', z, _⟩, e⟩
    · exact .inl e
    · exact .inr ⟨od, e⟩
    · cases z
    · cases z
  · exact .inr ⟨od, s.at e⟩
/-- a memo stays one -/
theorem Le.memo {G G' : Hp} (s : Le G G') {a : Addr} {m : Mm} {b : Bool} (e : G a = some (memo m b)) : ∃ b', (b = true → b' = true) ∧ G' a = some (Lf.memo m b') := by
  rcases s a _ e with e2 | ⟨o', ⟨d, _⟩ | ⟨m', z, w⟩ | ⟨t', od', z, _⟩, e2⟩
  · exact ⟨b, fun h => h, e2⟩
  · exact d.elim
  rotate_left
  · cases z
  · obtain ⟨z1, _⟩ := memo_inj z
    rw [w, ← z1] at e2
    exact ⟨true, fun _ => rfl, e2⟩
theorem Le.sql {K : Frag} {G G' : Hp} (s : Le G G') {a : Addr} {xs : List V} (e : SqL K G a xs) : SqL K G' a xs := by
  rcases e with (e | ⟨o, e⟩) | e
  · exact .inl (.inl (s.at e))
  · exact .inl (.inr ⟨o, s.at e⟩)
  · exact .inr e
theorem Le.new {H : Hp} {p : Addr} {o : HO} (h : H p = none) : Le H (upd H p o) := fun b x e => .inl (by
  rw [upd_ne (ne_of_none e h)]
  exact e)
/-! ### what stands for what -/
class Rp (α : Type) where
  rep : Frag → Hp → V → α → Prop
  mono : ∀ {K : Frag} {H H' : Hp} {v : V} {x : α}, Le H H' → rep K H v x → rep K H' v x
instance : Rp Int := ⟨fun _ _ v x => v = .int x, fun _ h => h⟩
instance : Rp Bool := ⟨fun _ _ v x => v = .bl x, fun _ h => h⟩
instance : Rp Str := ⟨fun _ _ v x => v = .str x, fun _ h => h⟩
instance : Rp Unit := ⟨fun _ _ v _ => v = .non, fun _ h => h⟩
def repO {α : Type} [Rp α] (K : Frag) (H : Hp) (v : V) : Option α → Prop
  | none => v = .non
  | some x => Rp.rep K H v x ∧ v ≠ .non
instance {α : Type} [Rp α] : Rp (Option α) := ⟨repO, fun {K H H' v x} s h => match x, h with
  | none, h => h
  | some _, h => ⟨Rp.mono s h.1, h.2⟩⟩
theorem Paired.mono' {α β : Type} {F G : α → β → Prop} (f : ∀ a b, F a b → G a b) : ∀ {xs : List α} {ys : List β}, Paired F xs ys → Paired G xs ys
  | _, _, .nil => .nil
  | _, _, .cons r t => .cons (f _ _ r) (Paired.mono' f t)
abbrev All {α : Type} [Rp α] (K : Frag) (H : Hp) (vs : List V) (xs : List α) : Prop := Paired (fun v x => Rp.rep K H v x) vs xs
theorem All.mono {α : Type} [Rp α] {K : Frag} {H H' : Hp} {vs : List V} {xs : List α} (s : Le H H') (h : All K H vs xs) : All K H' vs xs := Paired.mono' (fun _ _ r => Rp.mono s r) h
def repL {α : Type} [Rp α] (K : Frag) (H : Hp) (v : V) (xs : List α) : Prop := ∃ a vs, v = .ref a ∧ H a = some (.lst vs) ∧ All K H vs xs ∧ xs.length ≤ sizeLine
instance {α : Type} [Rp α] : Rp (List α) := ⟨repL, fun s ⟨a, vs, e, q, p, l⟩ => ⟨a, vs, e, s.at q, All.mono s p, l⟩⟩
/-- the script -/
structure Sc where
  l : List Int
instance : Rp Sc := ⟨fun K H v t => ∃ a, v = .ref a ∧ SqL K H a (t.l.map V.int), fun s ⟨a, e, q⟩ => ⟨a, e, Le.sql s q⟩⟩
mutual
inductive AnyV (K : Frag) (H : Hp) : V → PV → Prop
  | non : AnyV K H .non .non
  | bl (b : Bool) : AnyV K H (.bl b) (.bl b)
  | int (i : Int) : AnyV K H (.int i) (.int i)
  | str (s : Str) : AnyV K H (.str s) (.str s)
  | lst {a : Addr} {vs : List V} {xs : List PV} (h : H a = some (.lst vs)) (p : AnyL K H vs xs) : AnyV K H (.ref a) (.lst xs)
  | tup {a : Addr} {vs : List V} {xs : List PV} (h : H a = some (.tup vs)) (p : AnyL K H vs xs) : AnyV K H (.ref a) (.tup xs)
  | edict {a : Addr} (h : Rd H a (.dK [])) : AnyV K H (.ref a) .edict
  | roll {p dx a b : Addr} {row firsts : List Int} (h : H p = some (.ins (He.ga K "Roll") dx [("row", .ref a), ("firsts", .ref b)])) (h1 : H a = some (.tup (row.map V.int))) (h2 : H b = some (.tup (firsts.map V.int))) (l1 : row.length ≤ sizeLine) (l2 : firsts.length ≤ sizeLine) : AnyV K H (.ref p) (.roll row firsts)
inductive AnyL (K : Frag) (H : Hp) : List V → List PV → Prop
  | nil : AnyL K H [] []
  | cons {v : V} {x : PV} {vs : List V} {xs : List PV} (h : AnyV K H v x) (t : AnyL K H vs xs) : AnyL K H (v :: vs) (x :: xs)
end
mutual
theorem AnyV.mono {K : Frag} {H H' : Hp} (s : Le H H') : ∀ {v : V} {x : PV}, AnyV K H v x → AnyV K H' v x
  | _, _, .non => .non
  | _, _, .bl b => .bl b
  | _, _, .int i => .int i
  | _, _, .str x => .str x
  | _, _, .lst h p => .lst (s.at h) (AnyL.mono s p)
  | _, _, .tup h p => .tup (s.at h) (AnyL.mono s p)
  | _, _, .edict h => .edict (s.rd h)
  | _, _, .roll h h1 h2 l1 l2 => .roll (s.at h) (s.at h1) (s.at h2) l1 l2
theorem AnyL.mono {K : Frag} {H H' : Hp} (s : Le H H') : ∀ {v : List V} {x : List PV}, AnyL K H v x → AnyL K H' v x
  | _, _, .nil => .nil
  | _, _, .cons h t => .cons (AnyV.mono s h) (AnyL.mono s t)
end
instance : Rp PV := ⟨fun K H v x => AnyV K H v x, fun s h => AnyV.mono s h⟩
/-! a tuple of any length, its items alike -/
instance {α : Type} [Rp α] : Rp (Tu α) := ⟨fun K H v t => ∃ a vs, v = .ref a ∧ H a = some (.tup vs) ∧ All K H vs t.l ∧ t.l.length ≤ sizeLine, fun s ⟨a, vs, e, q, p, l⟩ => ⟨a, vs, e, s.at q, All.mono s p, l⟩⟩
instance {α β : Type} [Rp α] [Rp β] : Rp (α × β) := ⟨fun K H v t => ∃ a x y, v = .ref a ∧ H a = some (.tup [x, y]) ∧ Rp.rep K H x t.1 ∧ Rp.rep K H y t.2, fun s ⟨a, x, y, e, q, p, r⟩ => ⟨a, x, y, e, s.at q, Rp.mono s p, Rp.mono s r⟩⟩
/-- keys of dicts -/
class Kp (κ : Type) where
  key : κ → Key
  inj : ∀ {a b : κ}, key a = key b → a = b
instance : Kp Int := ⟨Sum.inl, fun h => Sum.inl.inj h⟩
instance : Kp Str := ⟨Sum.inr, fun h => Sum.inr.inj h⟩
abbrev AllD {κ α : Type} [Kp κ] [Rp α] (K : Frag) (H : Hp) (kvs : List (Key × V)) (xs : List (κ × α)) : Prop := Paired (fun kv x => kv.1 = Kp.key x.1 ∧ Rp.rep K H kv.2 x.2) kvs xs
theorem AllD.mono {κ α : Type} [Kp κ] [Rp α] {K : Frag} {H H' : Hp} {vs : List (Key × V)} {xs : List (κ × α)} (s : Le H H') (h : AllD K H vs xs) : AllD K H' vs xs := Paired.mono' (fun _ _ r => ⟨r.1, Rp.mono s r.2⟩) h
instance {κ α : Type} [Kp κ] [Rp α] : Rp (Dic κ α) := ⟨fun K H v t => ∃ a kvs, v = .ref a ∧ Rd H a (.dK kvs) ∧ AllD K H kvs t.l ∧ t.l.length ≤ sizeLine, fun s ⟨a, vs, e, q, p, l⟩ => ⟨a, vs, e, s.rd q, AllD.mono s p, l⟩⟩

/-! ### what is known of a value, of an object -/
structure MP where
  p : Hp → V → Prop
  mono : ∀ {H H' : Hp} {v : V}, Le H H' → p H v → p H' v
def is {α : Type} [Rp α] (K : Frag) (x : α) : MP := ⟨fun H v => Rp.rep K H v x, fun s h => Rp.mono s h⟩
def adr (a : Addr) : MP := ⟨fun _ v => v = .ref a, fun _ h => h⟩
def TupH : HO → Prop
  | .tup _ => True
  | _ => False
structure OC where
  p : Hp → HO → Prop
  mono : ∀ {H H' : Hp} {o : HO}, Le H H' → p H o → p H' o
  nt : ∀ {H : Hp} {o : HO}, p H o → ¬ TupH o
/-- a list that is one's own -/
def olst {α : Type} [Rp α] (K : Frag) (xs : List α) : OC := ⟨fun G o => ∃ vs, o = .lst vs ∧ All K G vs xs ∧ xs.length ≤ sizeLine, fun s ⟨vs, e, h, l⟩ => ⟨vs, e, All.mono s h, l⟩, fun ⟨_, e, _⟩ => e ▸ fun z => z⟩
def odic {κ α : Type} [Kp κ] [Rp α] (K : Frag) (d : Dic κ α) : OC := ⟨fun G o => ∃ kvs, o = .dK kvs ∧ AllD K G kvs d.l ∧ d.l.length ≤ sizeLine, fun s ⟨vs, e, h, l⟩ => ⟨vs, e, AllD.mono s h, l⟩, fun ⟨_, e, _⟩ => e ▸ fun z => z⟩
/-- an object of one's own: its fields -/
def oins (C : Addr) (ms : List (Str × MP)) : OC := ⟨fun G o => ∃ dx fs, o = .ins C dx fs ∧ Paired (fun (f : Str × V) (m : Str × MP) => f.1 = m.1 ∧ m.2.p G f.2) fs ms, fun s ⟨dx, fs, e, h⟩ => ⟨dx, fs, e, Paired.mono' (fun _ _ r => ⟨r.1, MP.mono _ s r.2⟩) h⟩, fun ⟨_, _, e, _⟩ => e ▸ fun z => z⟩
inductive Ent where
  | own (p : Addr) (φ : OC)
def Ent.adr : Ent → Addr
  | .own p _ => p
/-- a memo: empty, or filled with what it is to hold -/
def Memo (G : Hp) (m : Mm) (b : Bool) (h : Option HO) : Prop := (b = false ∧ h = some (.dK [])) ∨ ∃ d : Addr, h = some (.dK [(.inr "rows", .ref d), (.inr "first", .int m.f)]) ∧ ∀ K : Frag, Rp.rep K G (.ref d) m.D
/-- how what is known to stand still is there -/
def ShO (G : Hp) (h : Option HO) : HO → Prop
  | .dT t => ∃ m b, t = memoL m b ∧ Memo G m b h
  | .frz z (.dT t) => h = some (.frz z (.dT t)) ∨ (z = z0 ∧ (h = some (.dT t) ∨ ∃ od, h = some (.frz od (.dT t))))
  | o => h = some o
theorem ShO.of {G : Hp} {h : Option HO} {o : HO} (e : h = some o) (n : ¬ StH o := by exact fun z => z) : ShO G h o := by
  cases o <;> first | exact e | exact absurd trivial n | (rename_i u; cases u <;> first | exact e | exact absurd trivial n)
theorem ShO.to {G : Hp} {h : Option HO} {o : HO} (e : ShO G h o) (n : ¬ StH o := by exact fun z => z) : h = some o := by
  cases o <;> first | exact e | exact absurd trivial n | (rename_i u; cases u <;> first | exact e | exact absurd trivial n)
theorem Memo.mono {G G' : Hp} {m : Mm} {b : Bool} {h : Option HO} (s : Le G G') (e : Memo G m b h) : Memo G' m b h := by
  rcases e with e | ⟨d, e, r⟩
  · exact .inl e
  · exact .inr ⟨d, e, fun K => Rp.mono s (r K)⟩
theorem ShO.mono {G G' : Hp} {h : Option HO} {o : HO} (s : Le G G') (e : ShO G h o) : ShO G' h o := by
  cases o <;> first | exact e | exact (let ⟨m, b, t, q⟩ := e; ⟨m, b, t, q.mono s⟩) | (rename_i u; cases u <;> exact e)
theorem ShO.there {G : Hp} {h : Option HO} {o : HO} (e : ShO G h o) : ∃ u, h = some u := by
  cases o with
  | dT t =>
    obtain ⟨m, b, _, ⟨_, e⟩ | ⟨d, e, _⟩⟩ := e
    · exact ⟨_, e⟩
    · exact ⟨_, e⟩
  | frz od u =>
    cases u with
    | dT t =>
      rcases e with e | ⟨_, e | ⟨_, e⟩⟩
      · exact ⟨_, e⟩
      · exact ⟨_, e⟩
      · exact ⟨_, e⟩
    | _ => exact ⟨_, e⟩
  | _ => exact ⟨_, e⟩
/-- G: what stands still; ω: what is one's own -/
structure At (G : Hp) (ω : List Ent) (H : Hp) : Prop where
  sh : ∀ a o, G a = some o → ShO G (H a) o
  own : ∀ (i : Nat) (p : Addr) (φ : OC), ω[i]? = some (Ent.own p φ) → G p = none ∧ ∃ o, H p = some o ∧ φ.p G o
  nd : ∀ (i j : Nat) (e e' : Ent), ω[i]? = some e → ω[j]? = some e' → e.adr = e'.adr → i = j
section
variable {G G2 H : Hp} {ω : List Ent} {p : Addr} {o o' : HO} {φ φ' : OC}
theorem At.there (h : At G ω H) {i : Nat} {e : Ent} (he : ω[i]? = some e) : ∃ o, H e.adr = some o := by
  cases e with
  | own p φ =>
    obtain ⟨_, o, q, _⟩ := h.own i p φ he
    exact ⟨o, q⟩
theorem At.get (h : At G ω H) {a : Addr} (e : G a = some o) (n : ¬ StH o := by exact fun z => z) : H a = some o := (h.sh a o e).to n
theorem At.rd (h : At G ω H) {a : Addr} (e : Rd G a o) (n : ¬ StH o := by exact fun z => z) : Rd H a o := by
  rcases e with e | ⟨od, e⟩
  · exact .inl (h.get e n)
  · exact .inr ⟨od, h.get e (StH.frz n od)⟩
/-- a dict that stands still is locked -/
theorem At.lock (h : At G ω H) {a : Addr} {od : Obj} (e : G a = some o) (d : LockD o) : At (upd G a (.frz od o)) ω (upd H a (.frz od o)) ∧ Le G (upd G a (.frz od o)) := by
  have s : Le G (upd G a (.frz od o)) := fun b u eb => by
    by_cases z : b = a
    · subst z
      rw [e] at eb
      cases eb
      exact .inr ⟨_, .inl ⟨d, od, rfl⟩, upd_same⟩
    · exact .inl (by rw [upd_ne z]; exact eb)
  refine ⟨⟨fun b u eb => ?_, fun i q φ hi => ?_, h.nd⟩, s⟩
  · by_cases z : b = a
    · subst z
      rw [upd_same] at eb
      cases eb
      exact ShO.of upd_same (StH.frz d.st od)
    · rw [upd_ne z] at eb
      rw [upd_ne z]
      exact (h.sh b u eb).mono s
  · obtain ⟨x, y, b, c⟩ := h.own i q φ hi
    have z : q ≠ a := fun z => by
      rw [z, e] at x
      cases x
    exact ⟨by rw [upd_ne z]; exact x, y, by rw [upd_ne z]; exact b, φ.mono s c⟩
theorem At.lst (h : At G ω H) {a : Addr} {xs : List V} (e : G a = some (.lst xs)) : H a = some (.lst xs) := h.get e
theorem At.tup (h : At G ω H) {a : Addr} {xs : List V} (e : G a = some (.tup xs)) : H a = some (.tup xs) := h.get e
theorem At.free (h : At G ω H) (n : H p = none) : G p = none := by
  cases e : G p with
  | none => rfl
  | some o =>
    obtain ⟨u, q⟩ := (h.sh p o e).there
    rw [q] at n
    cases n
theorem At.apart (h : At G ω H) (n : H p = none) {i : Nat} {e : Ent} (he : ω[i]? = some e) : e.adr ≠ p := fun z => by
  obtain ⟨o, q⟩ := h.there he
  rw [z, n] at q
  cases q
/-- something new that stands still -/
theorem At.new (h : At G ω H) (n : H p = none) (nm : ¬ StH o := by exact fun z => z) : At (upd G p o) ω (upd H p o) ∧ Le G (upd G p o) := by
  have s : Le G (upd G p o) := Le.new (h.free n)
  refine ⟨⟨fun a u e => ?_, fun i q φ e => ?_, h.nd⟩, s⟩
  · by_cases z : a = p
    · subst z
      rw [upd_same] at e
      cases e
      exact ShO.of upd_same nm
    · rw [upd_ne z] at e
      rw [upd_ne z]
      exact (h.sh a u e).mono s
  · obtain ⟨a, o, b, c⟩ := h.own i q φ e
    have z : q ≠ p := h.apart n e
    exact ⟨by rw [upd_ne z]; exact a, o, by rw [upd_ne z]; exact b, φ.mono s c⟩
/-- a tuple that is there stands still -/
theorem At.adopt (h : At G ω H) {q : Addr} {vs : List V} (e : H q = some (.tup vs)) : ∃ G', Le G G' ∧ At G' ω H ∧ G' q = some (.tup vs) := by
  cases c : G q with
  | some u =>
    have t := h.sh q u c
    rw [e] at t
    refine ⟨G, Le.refl _, h, ?_⟩
    rw [c]
    cases u with
    | dT t' =>
      obtain ⟨_, _, _, ⟨_, z⟩ | ⟨_, z, _⟩⟩ := t <;> cases z
    | frz od u' =>
      cases u' <;> first | exact t.symm | (rcases t with z | ⟨_, z | ⟨_, z⟩⟩ <;> cases z)
    | _ => exact t.symm
  | none =>
    have s : Le G (upd G q (.tup vs)) := Le.new c
    refine ⟨_, s, ⟨fun a u ea => ?_, fun i p φ ei => ?_, h.nd⟩, upd_same⟩
    · by_cases z : a = q
      · subst z
        rw [upd_same] at ea
        cases ea
        exact ShO.of e
      · rw [upd_ne z] at ea
        exact (h.sh a u ea).mono s
    · obtain ⟨a, o, b, d⟩ := h.own i p φ ei
      have ne : p ≠ q := fun z => by
        rw [z, e] at b
        cases b
        exact φ.nt d trivial
      exact ⟨by rw [upd_ne ne]; exact a, o, b, φ.mono s d⟩
/-- a dict with tuple keys that stands still is locked -/
theorem At.lockT (h : At G ω H) {a : Addr} {od z : Obj} {t : List (List Key × V)} (g : G a = some (.frz z (.dT t))) (e : (z = z0 ∧ H a = some (.dT t)) ∨ (z = od ∨ z = z0) ∧ H a = some (.frz od (.dT t))) : At (upd G a (.frz od (.dT t))) ω (upd H a (.frz od (.dT t))) ∧ Le G (upd G a (.frz od (.dT t))) := by
  have s : Le G (upd G a (.frz od (.dT t))) := fun b u eb => by
    by_cases y : b = a
    · subst y
      rw [g] at eb
      cases eb
      rw [upd_same]
      rcases e with ⟨rfl, _⟩ | ⟨rfl | rfl, _⟩
      · exact .inr ⟨_, .inr (.inr ⟨_, _, rfl, rfl⟩), rfl⟩
      · exact .inl rfl
      · exact .inr ⟨_, .inr (.inr ⟨_, _, rfl, rfl⟩), rfl⟩
    · exact .inl (by rw [upd_ne y]; exact eb)
  refine ⟨⟨fun b u eb => ?_, fun i q φ hi => ?_, h.nd⟩, s⟩
  · by_cases y : b = a
    · subst y
      rw [upd_same] at eb
      cases eb
      exact .inl upd_same
    · rw [upd_ne y] at eb
      rw [upd_ne y]
      exact (h.sh b u eb).mono s
  · obtain ⟨x, y, b, c⟩ := h.own i q φ hi
    have ne : q ≠ a := fun z => by
      rw [z, g] at x
      cases x
    exact ⟨by rw [upd_ne ne]; exact x, y, by rw [upd_ne ne]; exact b, φ.mono s c⟩
/-- something new of one's own -/
theorem At.newOwn (h : At G ω H) (n : H p = none) (q : φ.p G o) : At G (.own p φ :: ω) (upd H p o) := by
  have np := h.free n
  refine ⟨fun a u e => ?_, fun i r ψ e => ?_, fun i j e e' hi hj z => ?_⟩
  · have z : a ≠ p := ne_of_none e np
    rw [upd_ne z]
    exact h.sh a u e
  · cases i with
    | zero =>
      have e' : Ent.own p φ = Ent.own r ψ := Option.some.inj e
      cases e'
      exact ⟨np, o, upd_same, q⟩
    | succ i =>
      obtain ⟨a, u, b, c⟩ := h.own i r ψ e
      have z : r ≠ p := h.apart n (e := .own r ψ) e
      exact ⟨a, u, by rw [upd_ne z]; exact b, c⟩
  · cases i with
    | zero =>
      cases j with
      | zero => rfl
      | succ j =>
        have hi' : Ent.own p φ = e := Option.some.inj hi
        subst hi'
        exact absurd z.symm (h.apart n (e := e') hj)
    | succ i =>
      cases j with
      | zero =>
        have hj' : Ent.own p φ = e' := Option.some.inj hj
        subst hj'
        exact absurd z (h.apart n (e := e) hi)
      | succ j => rw [h.nd i j e e' hi hj z]
/-- what is one's own is changed -/
theorem At.put {k : Nat} (h : At G ω H) (e : ω[k]? = some (Ent.own p φ)) (q : φ'.p G o) : At G (ω.set k (.own p φ')) (upd H p o) := by
  have np := (h.own k p φ e).1
  have lk : k < ω.length := (List.getElem?_eq_some_iff.mp e).1
  have other : ∀ (i : Nat) (x : Ent), (ω.set k (.own p φ'))[i]? = some x → (i = k ∧ x = .own p φ') ∨ (i ≠ k ∧ ω[i]? = some x) := fun i x hx => by
    by_cases z : k = i
    · subst z
      rw [List.getElem?_set_self lk] at hx
      exact .inl ⟨rfl, (Option.some.inj hx).symm⟩
    · rw [List.getElem?_set_ne z] at hx
      exact .inr ⟨fun y => z y.symm, hx⟩
  refine ⟨fun a u ea => ?_, fun i r ψ hi => ?_, fun i j x x' hi hj z => ?_⟩
  · have z : a ≠ p := ne_of_none ea np
    rw [upd_ne z]
    exact h.sh a u ea
  · rcases other i _ hi with ⟨_, z⟩ | ⟨nk, hi⟩
    · cases z
      exact ⟨np, o, upd_same, q⟩
    · obtain ⟨a, u, b, c⟩ := h.own i r ψ hi
      have z : r ≠ p := fun z => nk (h.nd i k _ _ hi e z)
      exact ⟨a, u, by rw [upd_ne z]; exact b, c⟩
  · have adr : ∀ (i : Nat) (x : Ent), (ω.set k (.own p φ'))[i]? = some x → ∃ y, ω[i]? = some y ∧ y.adr = x.adr := fun i x hx => by
      rcases other i x hx with ⟨ei, ex⟩ | ⟨_, hi⟩
      · exact ⟨_, by rw [ei]; exact e, by rw [ex]; rfl⟩
      · exact ⟨x, hi, rfl⟩
    obtain ⟨y, hy, ey⟩ := adr i x hi
    obtain ⟨y', hy', ey'⟩ := adr j x' hj
    exact h.nd i j y y' hy hy' (by rw [ey, ey', z])
/-- some of it in another order -/
theorem At.sub {ω' : List Ent} (h : At G ω H) (f : Nat → Nat) (hf : ∀ (i : Nat) (e : Ent), ω'[i]? = some e → ω[f i]? = some e) (inj : ∀ (i j : Nat) (e e' : Ent), ω'[i]? = some e → ω'[j]? = some e' → f i = f j → i = j) : At G ω' H :=
  ⟨h.sh, fun i p φ e => h.own (f i) p φ (hf _ _ e), fun i j e e' hi hj z => inj i j e e' hi hj (h.nd (f i) (f j) e e' (hf _ _ hi) (hf _ _ hj) z)⟩
/-- the last made is let go -/
theorem At.drop (h : At G (.own p φ :: ω) H) : At G ω H := h.sub (fun i => i + 1) (fun i e q => q) (fun i j _ _ _ _ z => Nat.succ.inj z)
/-- how a dict whose keys are tuples is told where it stands still -/
def stl : HO → HO
  | .dT t => .frz z0 (.dT t)
  | .frz _ (.dT t) => .frz z0 (.dT t)
  | o => o
theorem ShO.stl {G : Hp} {h : Option HO} {o : HO} (e : h = some o) : ShO G h (Lf.stl o) := by
  cases o with
  | dT t => exact .inr ⟨rfl, .inl e⟩
  | frz od u =>
    cases u with
    | dT t => exact .inr ⟨rfl, .inr ⟨od, e⟩⟩
    | _ => exact e
  | _ => exact e
/-- the last made stands still from here on -/
theorem At.freeze (h : At G (.own p φ :: ω) H) : ∃ o, H p = some o ∧ φ.p G o ∧ At (upd G p (stl o)) ω H ∧ Le G (upd G p (stl o)) := by
  obtain ⟨np, o, e, q⟩ := h.own 0 p φ rfl
  have s : Le G (upd G p (stl o)) := Le.new np
  have d := h.drop
  have ap : ∀ (i : Nat) (x : Ent), ω[i]? = some x → x.adr ≠ p := fun i x hx z => by
    have := h.nd (i + 1) 0 x _ hx rfl z
    omega
  refine ⟨o, e, q, ⟨fun a u ea => ?_, fun i r ψ hi => ?_, d.nd⟩, s⟩
  · by_cases z : a = p
    · subst z
      rw [upd_same] at ea
      cases ea
      exact ShO.stl e
    · rw [upd_ne z] at ea
      exact (d.sh a u ea).mono s
  · obtain ⟨a, u, b, c⟩ := d.own i r ψ hi
    exact ⟨by rw [upd_ne (show r ≠ p from ap i _ hi)]; exact a, u, b, ψ.mono s c⟩
theorem eraseIdx_get (ω : List Ent) (k i : Nat) : (ω.eraseIdx k)[i]? = ω[if i < k then i else i + 1]? := by
  rw [List.getElem?_eraseIdx]
  split <;> rfl
/-- the k-th to the front, and back -/
theorem At.front {k : Nat} {e : Ent} (h : At G ω H) (he : ω[k]? = some e) : At G (e :: ω.eraseIdx k) H := by
  have lk : k < ω.length := (List.getElem?_eq_some_iff.mp he).1
  refine h.sub (fun i => match i with | 0 => k | i + 1 => if i < k then i else i + 1) (fun i x hx => ?_) (fun i j x x' hi hj z => ?_)
  · cases i with
    | zero => exact he.trans hx
    | succ i =>
      have hx' : (ω.eraseIdx k)[i]? = some x := hx
      rw [eraseIdx_get] at hx'
      exact hx'
  · cases i with
    | zero =>
      cases j with
      | zero => rfl
      | succ j =>
        have z' : k = if j < k then j else j + 1 := z
        split at z' <;> omega
    | succ i =>
      cases j with
      | zero =>
        have z' : (if i < k then i else i + 1) = k := z
        split at z' <;> omega
      | succ j =>
        have z' : (if i < k then i else i + 1) = if j < k then j else j + 1 := z
        split at z' <;> split at z' <;> omega
theorem At.back {k : Nat} (h : At G (.own p φ' :: ω.eraseIdx k) H) (he : ω[k]? = some (Ent.own p φ)) : At G (ω.set k (.own p φ')) H := by
  have lk : k < ω.length := (List.getElem?_eq_some_iff.mp he).1
  refine h.sub (fun i => if i = k then 0 else if i < k then i + 1 else i) (fun i x hx => ?_) (fun i j x x' hi hj z => ?_)
  · by_cases z : i = k
    · subst z
      rw [List.getElem?_set_self lk] at hx
      rw [if_pos rfl]
      exact hx
    · rw [List.getElem?_set_ne (fun y => z y.symm)] at hx
      rw [if_neg z]
      by_cases y : i < k
      · rw [if_pos y]
        show (ω.eraseIdx k)[i]? = _
        rw [eraseIdx_get, if_pos y]
        exact hx
      · rw [if_neg y]
        cases i with
        | zero => omega
        | succ i =>
          show (ω.eraseIdx k)[i]? = _
          rw [eraseIdx_get, if_neg (by omega)]
          exact hx
  · have z' : (if i = k then 0 else if i < k then i + 1 else i) = if j = k then 0 else if j < k then j + 1 else j := z
    split at z' <;> split at z' <;> (try split at z') <;> (try split at z') <;> omega
end
end Lf
/-! ## Readings told by plain data: expressions -/
namespace Lf
open PySem PySem.Spec PyProof.Rows L2
open PySem.W (Frag)
abbrev Gm := List (Option MP)
/-- the slots hold what Γ says -/
def Reps (G : Hp) (σ : L2.St) (Γ : Gm) : Prop := σ.length = Γ.length ∧ ∀ (i : Nat) (m : MP), Γ[i]? = some (some m) → ∃ v, σ[i]? = some (some v) ∧ m.p G v
theorem Reps.mono {G G' : Hp} {σ : L2.St} {Γ : Gm} (s : Le G G') (h : Reps G σ Γ) : Reps G' σ Γ := ⟨h.1, fun i m e => let ⟨v, a, b⟩ := h.2 i m e; ⟨v, a, m.mono s b⟩⟩
theorem Reps.set {G : Hp} {σ : L2.St} {Γ : Gm} {i : Nat} {v : V} {m : MP} (h : Reps G σ Γ) (q : m.p G v) : Reps G (σ.set i (some v)) (Γ.set i (some m)) := by
  refine ⟨by rw [List.length_set, List.length_set, h.1], fun j n e => ?_⟩
  by_cases z : i = j
  · subst z
    have l : i < Γ.length := by
      have := (List.getElem?_eq_some_iff.mp e).1
      rwa [List.length_set] at this
    rw [List.getElem?_set_self l] at e
    cases e
    exact ⟨v, by rw [List.getElem?_set_self (by rw [h.1]; exact l)], q⟩
  · rw [List.getElem?_set_ne z] at e
    rw [List.getElem?_set_ne z]
    exact h.2 j n e
/-- what is known may be forgotten -/
def Sub (Γ Γ' : Gm) : Prop := Γ.length = Γ'.length ∧ ∀ (i : Nat) (m : MP), Γ'[i]? = some (some m) → Γ[i]? = some (some m)
theorem Reps.sub {G : Hp} {σ : L2.St} {Γ Γ' : Gm} (h : Reps G σ Γ) (s : Sub Γ Γ') : Reps G σ Γ' := ⟨h.1.trans s.1, fun i m e => h.2 i m (s.2 i m e)⟩
theorem Sub.nil : Sub [] [] := ⟨rfl, fun _ _ e => e⟩
theorem Sub.keep {a : Option MP} {Γ Γ' : Gm} (s : Sub Γ Γ') : Sub (a :: Γ) (a :: Γ') := ⟨congrArg Nat.succ s.1, fun i m e => match i with
  | 0 => e
  | i + 1 => s.2 i m e⟩
theorem Sub.lose {a : Option MP} {Γ Γ' : Gm} (s : Sub Γ Γ') : Sub (a :: Γ) (none :: Γ') := ⟨congrArg Nat.succ s.1, fun i m e => match i with
  | 0 => by cases (Option.some.inj e)
  | i + 1 => s.2 i m e⟩
theorem Sub.refl (Γ : Gm) : Sub Γ Γ := ⟨rfl, fun _ _ e => e⟩

/-! ### expressions -/
def EvX (te : TE) (Γ : Gm) (ω ω' : List Ent) (m : MP) : Prop := ∀ (σ : L2.St) (G H : Hp) (Q : VK), Reps G σ Γ → At G ω H → (∀ v G2 H2, Le G G2 → At G2 ω' H2 → m.p G2 v → Q v H2) → te σ H Q
def EvT (tt : TT) (Γ : Gm) (ω ω' : List Ent) (b : Bool) : Prop := ∀ (σ : L2.St) (G H : Hp) (Q : Bool → Hp → Prop), Reps G σ Γ → At G ω H → (∀ G2 H2, Le G G2 → At G2 ω' H2 → Q b H2) → tt σ H Q
def PArgs (G : Hp) (vs : List V) (ms : List MP) : Prop := Paired (fun (v : V) (m : MP) => m.p G v) vs ms
theorem PArgs.mono {G G' : Hp} {vs : List V} {ms : List MP} (s : Le G G') (h : PArgs G vs ms) : PArgs G' vs ms := Paired.mono' (fun _ m r => m.mono s r) h
def EvA (ta : TA) (Γ : Gm) (ω ω' : List Ent) (ms : List MP) : Prop := ∀ (σ : L2.St) (G H : Hp) (Q : List V → Hp → Prop), Reps G σ Γ → At G ω H → (∀ vs G2 H2, Le G G2 → At G2 ω' H2 → PArgs G2 vs ms → Q vs H2) → ta σ H Q
def EvO (to : TO) (Γ : Gm) (ω ω' : List Ent) (o : Option Int) : Prop := ∀ (σ : L2.St) (G H : Hp) (Q : Option Int → Hp → Prop), Reps G σ Γ → At G ω H → (∀ G2 H2, Le G G2 → At G2 ω' H2 → Q o H2) → to σ H Q
/-- operations on values -/
def OpX (r : R2) (ω ω' : List Ent) (a b m : MP) : Prop := ∀ (G H : Hp) (x y : V) (Q : VK), At G ω H → a.p G x → b.p G y → (∀ v G2 H2, Le G G2 → At G2 ω' H2 → m.p G2 v → Q v H2) → r x y H Q
def CaX (r : List V → Hp → VK → Prop) (ω ω' : List Ent) (ms : List MP) (m : MP) : Prop := ∀ (G H : Hp) (vs : List V) (Q : VK), At G ω H → PArgs G vs ms → (∀ v G2 H2, Le G G2 → At G2 ω' H2 → m.p G2 v → Q v H2) → r vs H Q
section
variable {K : Frag} {Γ : Gm} {ω ω1 ω2 ω3 : List Ent} {ta tb te : TE} {a b m : MP} {tt uu : TT}
theorem EvX.var {i : Nat} (h : Γ[i]? = some (some m)) : EvX (tVar i) Γ ω ω m := fun σ G H Q r w q => let ⟨v, e, p⟩ := r.2 i m h; ⟨v, e, q v G H (Le.refl _) w p⟩
theorem EvX.int {i : Int} : EvX (tC (.int i)) Γ ω ω (is K i) := fun σ G H Q r w q => q _ G H (Le.refl _) w rfl
theorem EvX.bl {i : Bool} : EvX (tC (.bl i)) Γ ω ω (is K i) := fun σ G H Q r w q => q _ G H (Le.refl _) w rfl
theorem EvX.str {i : Str} : EvX (tC (.str i)) Γ ω ω (is K i) := fun σ G H Q r w q => q _ G H (Le.refl _) w rfl
theorem EvX.non {α : Type} [Rp α] : EvX (tC .non) Γ ω ω (is K (none : Option α)) := fun σ G H Q r w q => q _ G H (Le.refl _) w rfl
theorem EvX.unit : EvX (tC .non) Γ ω ω (is K ()) := fun σ G H Q r w q => q _ G H (Le.refl _) w rfl
/-- the value told in another way -/
theorem EvX.as {m' : MP} (h : EvX te Γ ω ω1 m) (f : ∀ G v, m.p G v → m'.p G v) : EvX te Γ ω ω1 m' := fun σ G H Q r w q => h σ G H Q r w fun v G2 H2 s w2 p => q v G2 H2 s w2 (f _ _ p)
theorem EvX.eq {α : Type} [Rp α] {x y : α} (h : EvX te Γ ω ω1 (is K x)) (e : x = y) : EvX te Γ ω ω1 (is K y) := e ▸ h
theorem EvX.op {r : R2} (ha : EvX ta Γ ω ω1 a) (hb : EvX tb Γ ω1 ω2 b) (hr : OpX r ω2 ω3 a b m) : EvX (tOp r ta tb) Γ ω ω3 m := fun σ G H Q r w q =>
  ha σ G H _ r w fun x G1 H1 s1 w1 p1 => hb σ G1 H1 _ (r.mono s1) w1 fun y G2 H2 s2 w2 p2 => hr G2 H2 x y Q w2 (a.mono s2 p1) p2 fun v G3 H3 s3 w3 p3 => q v G3 H3 (s1.trans (s2.trans s3)) w3 p3
theorem EvX.un {r : V → Hp → VK → Prop} (ha : EvX ta Γ ω ω1 a) (hr : ∀ (G H : Hp) (x : V) (Q : VK), At G ω1 H → a.p G x → (∀ v G2 H2, Le G G2 → At G2 ω2 H2 → m.p G2 v → Q v H2) → r x H Q) : EvX (tUn r ta) Γ ω ω2 m := fun σ G H Q r w q =>
  ha σ G H _ r w fun x G1 H1 s1 w1 p1 => hr G1 H1 x Q w1 p1 fun v G3 H3 s3 w3 p3 => q v G3 H3 (s1.trans s3) w3 p3
theorem EvX.neg {i : Int} (ha : EvX ta Γ ω ω1 (is K i)) : EvX (tUn (rU fun i => .int (-i)) ta) Γ ω ω1 (is K (-i)) := ha.un fun G H x Q w e q => by
  cases e
  exact ⟨i, rfl, q _ G H (Le.refl _) w rfl⟩
/-- operations that make nothing new -/
theorem OpX.val {r : R2} {α β γ : Type} [Rp α] [Rp β] [Rp γ] {x : α} {y : β} {z : γ} (h : ∀ (G H : Hp) (u v : V) (Q : VK), At G ω H → Rp.rep K G u x → Rp.rep K G v y → ∃ t, Rp.rep K G t z ∧ (Q t H → r u v H Q)) : OpX r ω ω (is K x) (is K y) (is K z) := fun G H u v Q w p1 p2 q => by
  obtain ⟨t, e, f⟩ := h G H u v Q w p1 p2
  exact f (q t G H (Le.refl _) w e)
theorem OpX.I0 {β : Type} [Rp β] {g : Int → Int → V} {i j : Int} {z : β} (h : ∀ (H : Hp), Rp.rep K H (g i j) z) : OpX (rI0 g) ω ω (is K i) (is K j) (is K z) := fun G H u v Q w p1 p2 q => by
  cases p1
  cases p2
  exact ⟨i, j, rfl, rfl, q _ G H (Le.refl _) w (h G)⟩
theorem OpX.I {β : Type} [Rp β] {C : Int → Int → Prop} {g : Int → Int → V} {i j : Int} {z : β} (c : C i j) (h : ∀ (H : Hp), Rp.rep K H (g i j) z) : OpX (rI C g) ω ω (is K i) (is K j) (is K z) := fun G H u v Q w p1 p2 q => by
  cases p1
  cases p2
  exact ⟨i, j, rfl, rfl, c, q _ G H (Le.refl _) w (h G)⟩
/-! ints -/
def imul (i j : Int) : Option Int := if i.natAbs < 2 ^ 100000 ∧ j.natAbs < 2 ^ 100000 then some (i * j) else none
def ifdiv (i j : Int) : Option Int := if 0 < j ∧ j.natAbs < 2 ^ 9000 then some (i / j) else none
def imod (i j : Int) : Option Int := if 0 < j then some (i % j) else none
theorem OpX.add {i j : Int} : OpX (rI0 fun i j => .int (i + j)) ω ω (is K i) (is K j) (is K (i + j)) := .I0 fun _ => rfl
theorem OpX.sub {i j : Int} : OpX (rI0 fun i j => .int (i - j)) ω ω (is K i) (is K j) (is K (i - j)) := .I0 fun _ => rfl
theorem imul_ok {i j k : Int} (h : imul i j = some k) : CMulW i j ∧ k = i * j := by
  unfold imul at h
  split at h
  · rename_i c
    exact ⟨wide_mul c.1 c.2 (by decide) (by decide) (by decide), (Option.some.inj h).symm⟩
  · cases h
theorem OpX.mul {i j k : Int} (h : imul i j = some k) : OpX (rI CMulW fun i j => .int (i * j)) ω ω (is K i) (is K j) (is K k) := by
  obtain ⟨c, rfl⟩ := imul_ok h
  exact .I c fun _ => rfl
theorem OpX.fdiv {i j k : Int} (h : ifdiv i j = some k) : OpX (rI CDivW fun i j => .int (i / j)) ω ω (is K i) (is K j) (is K k) := by
  unfold ifdiv at h
  split at h
  · rename_i c
    cases h
    exact .I (wide_div c.1 c.2 (by decide) (by decide)) fun _ => rfl
  · cases h
theorem OpX.mod {i j k : Int} (h : imod i j = some k) : OpX (rI (fun _ j => 0 < j) fun i j => .int (i % j)) ω ω (is K i) (is K j) (is K k) := by
  unfold imod at h
  split at h
  · rename_i c
    cases h
    exact .I c fun _ => rfl
  · cases h
def ipow (i j : Int) : Option Int := if 0 ≤ j ∧ (Builtin.Int.intBits i : Int) * j ≤ 2 ^ 27 then some (i ^ j.toNat) else none
theorem OpX.pow {i j k : Int} (h : ipow i j = some k) : OpX (rI RC.CPowW fun i j => .int (i ^ j.toNat)) ω ω (is K i) (is K j) (is K k) := by
  unfold ipow at h
  split at h
  · rename_i c
    cases h
    exact .I c fun _ => rfl
  · cases h
theorem OpX.lt {i j : Int} : OpX (rI0 fun i j => .bl (decide (i < j))) ω ω (is K i) (is K j) (is K (decide (i < j))) := .I0 fun _ => rfl
theorem OpX.le {i j : Int} : OpX (rI0 fun i j => .bl (decide (i ≤ j))) ω ω (is K i) (is K j) (is K (decide (i ≤ j))) := .I0 fun _ => rfl
theorem OpX.gt {i j : Int} : OpX (rI0 fun i j => .bl (decide (j < i))) ω ω (is K i) (is K j) (is K (decide (j < i))) := .I0 fun _ => rfl
theorem OpX.ge {i j : Int} : OpX (rI0 fun i j => .bl (decide (j ≤ i))) ω ω (is K i) (is K j) (is K (decide (j ≤ i))) := .I0 fun _ => rfl
/-- == of flat values of one kind -/
class Fl (α : Type) extends Rp α where
  v : α → V
  of : ∀ {K : Frag} {H : Hp} {u : V} {x : α}, Rp.rep K H u x → u = v x
  dec : DecidableEq α
  sc : ∀ x y : α, scal (v x) (v y) = true
  eqv : ∀ x y : α, v x = v y ↔ x = y
instance : Fl Int := { v := .int, of := fun h => h, dec := inferInstance, sc := fun _ _ => rfl, eqv := fun x y => ⟨fun h => V.int.inj h, fun h => h ▸ rfl⟩ }
instance : Fl Bool := { v := .bl, of := fun h => h, dec := inferInstance, sc := fun _ _ => rfl, eqv := fun x y => ⟨fun h => V.bl.inj h, fun h => h ▸ rfl⟩ }
instance : Fl Str := { v := .str, of := fun h => h, dec := inferInstance, sc := fun _ _ => rfl, eqv := fun x y => ⟨fun h => V.str.inj h, fun h => h ▸ rfl⟩ }
theorem OpX.eq {α : Type} [f : Fl α] [d : DecidableEq α] {x y : α} : OpX rEq ω ω (is K x) (is K y) (is K (decide (x = y))) := fun G H u v Q w p1 p2 q => by
  rw [f.of p1, f.of p2]
  refine ⟨f.sc x y, q _ G H (Le.refl _) w ?_⟩
  show V.bl _ = V.bl _
  rw [decide_eq_decide.mpr (f.eqv x y)]
theorem OpX.ne {α : Type} [f : Fl α] [d : DecidableEq α] {x y : α} : OpX rNe ω ω (is K x) (is K y) (is K (!decide (x = y))) := fun G H u v Q w p1 p2 q => by
  rw [f.of p1, f.of p2]
  refine ⟨f.sc x y, q _ G H (Le.refl _) w ?_⟩
  show V.bl _ = V.bl _
  rw [decide_eq_decide.mpr (f.eqv x y)]
/-- is None -/
theorem OpX.isN {α : Type} [Rp α] {x : Option α} {n : MP} (hn : ∀ G v, n.p G v → v = .non) : OpX (fun x y H Q => y = .non ∧ Q (.bl (decide (x = .non))) H) ω ω (is K x) n (is K x.isNone) := fun G H u v Q w p1 p2 q => by
  refine ⟨hn G v p2, q _ G H (Le.refl _) w ?_⟩
  show V.bl _ = V.bl _
  cases x with
  | none =>
    cases p1
    rfl
  | some x => rw [decide_eq_false p1.2]; rfl
theorem OpX.notN {α : Type} [Rp α] {x : Option α} {n : MP} (hn : ∀ G v, n.p G v → v = .non) : OpX (fun x y H Q => y = .non ∧ Q (.bl (!decide (x = .non))) H) ω ω (is K x) n (is K x.isSome) := fun G H u v Q w p1 p2 q => by
  refine ⟨hn G v p2, q _ G H (Le.refl _) w ?_⟩
  show V.bl _ = V.bl _
  cases x with
  | none =>
    cases p1
    rfl
  | some x => rw [decide_eq_false p1.2]; rfl
theorem non_unit {K : Frag} : ∀ G v, (is K ()).p G v → v = .non := fun _ _ h => h
/-! bools -/
theorem EvX.not {b : Bool} (h : EvX ta Γ ω ω1 (is K b)) : EvX (tNotV ta) Γ ω ω1 (is K (!b)) := fun σ G H Q r w q => h σ G H _ r w fun v G2 H2 s w2 p => ⟨b, p, q _ G2 H2 s w2 rfl⟩
theorem EvX.and {a b : Bool} (h1 : EvX ta Γ ω ω1 (is K a)) (h2 : a = true → EvX tb Γ ω1 ω1 (is K b)) : EvX (tAndV ta tb) Γ ω ω1 (is K (a && b)) := fun σ G H Q r w q => h1 σ G H _ r w fun v G2 H2 s w2 p => ⟨a, p, by
  cases a with
  | true => exact RC.if_t rfl (h2 rfl σ G2 H2 Q (r.mono s) w2 fun v G3 H3 s3 w3 p3 => q v G3 H3 (s.trans s3) w3 p3)
  | false => exact RC.if_f rfl (q _ G2 H2 s w2 rfl)⟩
theorem EvX.or {a b : Bool} (h1 : EvX ta Γ ω ω1 (is K a)) (h2 : a = false → EvX tb Γ ω1 ω1 (is K b)) : EvX (tOrV ta tb) Γ ω ω1 (is K (a || b)) := fun σ G H Q r w q => h1 σ G H _ r w fun v G2 H2 s w2 p => ⟨a, p, by
  cases a with
  | false => exact RC.if_f rfl (h2 rfl σ G2 H2 Q (r.mono s) w2 fun v G3 H3 s3 w3 p3 => q v G3 H3 (s.trans s3) w3 p3)
  | true => exact RC.if_t rfl (q _ G2 H2 s w2 rfl)⟩
/-- the same, the second side told where it is asked: b is what both come to -/
theorem EvX.andO {a b : Bool} {o : Option Bool} (h1 : EvX ta Γ ω ω1 (is K a)) (h2 : a = true → o = some b → EvX tb Γ ω1 ω1 (is K b)) (h : (if a then o else some false) = some b) : EvX (tAndV ta tb) Γ ω ω1 (is K b) := by
  cases a with
  | true =>
    have := EvX.and h1 (fun _ => h2 rfl h)
    exact this
  | false =>
    cases h
    have := EvX.and (b := false) (tb := tb) h1 (fun z => nomatch z)
    exact this
theorem EvX.orO {a b : Bool} {o : Option Bool} (h1 : EvX ta Γ ω ω1 (is K a)) (h2 : a = false → o = some b → EvX tb Γ ω1 ω1 (is K b)) (h : (if a then some true else o) = some b) : EvX (tOrV ta tb) Γ ω ω1 (is K b) := by
  cases a with
  | false =>
    have := EvX.or h1 (fun _ => h2 rfl h)
    exact this
  | true =>
    cases h
    have := EvX.or (b := true) (tb := tb) h1 (fun z => nomatch z)
    exact this
theorem EvX.ite {c : Bool} (h : EvT tt Γ ω ω1 c) (h1 : c = true → EvX ta Γ ω1 ω2 m) (h2 : c = false → EvX tb Γ ω1 ω2 m) : EvX (tIf tt ta tb) Γ ω ω2 m := fun σ G H Q r w q => h σ G H _ r w fun G2 H2 s w2 => by
  cases c with
  | true => exact RC.if_t rfl (h1 rfl σ G2 H2 Q (r.mono s) w2 fun v G3 H3 s3 w3 p3 => q v G3 H3 (s.trans s3) w3 p3)
  | false => exact RC.if_f rfl (h2 rfl σ G2 H2 Q (r.mono s) w2 fun v G3 H3 s3 w3 p3 => q v G3 H3 (s.trans s3) w3 p3)
/-- a bound step within a part that is not always reached -/
theorem bindO {β γ : Type} {o : Option β} {k : β → Option γ} {z : γ} {P : Prop} (h : o.bind k = some z) (f : ∀ y, o = some y → k y = some z → P) : P := by
  cases o with
  | none => cases h
  | some y => exact f y rfl h
/-! tests -/
theorem EvT.test {b : Bool} (h : EvX te Γ ω ω1 (is K b)) : EvT (tTest te) Γ ω ω1 b := fun σ G H Q r w q => h σ G H _ r w fun v G2 H2 s w2 p => ⟨b, p, q G2 H2 s w2⟩
theorem EvT.B {b : Bool} (h : EvX te Γ ω ω1 (is K b)) : EvT (tB te) Γ ω ω1 b := fun σ G H Q r w q => h σ G H _ r w fun v G2 H2 s w2 p => ⟨b, p, q G2 H2 s w2⟩
theorem EvT.not {b : Bool} (h : EvT tt Γ ω ω1 b) : EvT (tNot tt) Γ ω ω1 (!b) := fun σ G H Q r w q => h σ G H _ r w fun G2 H2 s w2 => q G2 H2 s w2
theorem EvT.yes : EvT tYes Γ ω ω true := fun σ G H Q r w q => q G H (Le.refl _) w
theorem EvT.and {a b : Bool} (h1 : EvT tt Γ ω ω1 a) (h2 : a = true → EvT uu Γ ω1 ω1 b) : EvT (tAnd tt uu) Γ ω ω1 (a && b) := fun σ G H Q r w q => h1 σ G H _ r w fun G2 H2 s w2 => by
  cases a with
  | true => exact RC.if_t rfl (h2 rfl σ G2 H2 Q (r.mono s) w2 fun G3 H3 s3 w3 => q G3 H3 (s.trans s3) w3)
  | false => exact RC.if_f rfl (q G2 H2 s w2)
theorem EvT.or {a b : Bool} (h1 : EvT tt Γ ω ω1 a) (h2 : a = false → EvT uu Γ ω1 ω1 b) : EvT (tOr tt uu) Γ ω ω1 (a || b) := fun σ G H Q r w q => h1 σ G H _ r w fun G2 H2 s w2 => by
  cases a with
  | false => exact RC.if_f rfl (h2 rfl σ G2 H2 Q (r.mono s) w2 fun G3 H3 s3 w3 => q G3 H3 (s.trans s3) w3)
  | true => exact RC.if_t rfl (q G2 H2 s w2)
theorem EvT.andO {a b : Bool} {o : Option Bool} (h1 : EvT tt Γ ω ω1 a) (h2 : a = true → o = some b → EvT uu Γ ω1 ω1 b) (h : (if a then o else some false) = some b) : EvT (tAnd tt uu) Γ ω ω1 b := by
  cases a with
  | true =>
    have := EvT.and h1 (fun _ => h2 rfl h)
    exact this
  | false =>
    cases h
    have := EvT.and (b := false) (uu := uu) h1 (fun z => nomatch z)
    exact this
theorem EvT.orO {a b : Bool} {o : Option Bool} (h1 : EvT tt Γ ω ω1 a) (h2 : a = false → o = some b → EvT uu Γ ω1 ω1 b) (h : (if a then some true else o) = some b) : EvT (tOr tt uu) Γ ω ω1 b := by
  cases a with
  | false =>
    have := EvT.or h1 (fun _ => h2 rfl h)
    exact this
  | true =>
    cases h
    have := EvT.or (b := true) (uu := uu) h1 (fun z => nomatch z)
    exact this
/-! arguments, displays -/
theorem EvA.nil : EvA tNil Γ ω ω [] := fun σ G H Q r w q => q [] G H (Le.refl _) w .nil
theorem EvA.cons {tr : TA} {ms : List MP} (h : EvX ta Γ ω ω1 a) (hr : EvA tr Γ ω1 ω2 ms) : EvA (tCons ta tr) Γ ω ω2 (a :: ms) := fun σ G H Q r w q =>
  h σ G H _ r w fun v G1 H1 s1 w1 p1 => hr σ G1 H1 _ (r.mono s1) w1 fun vs G2 H2 s2 w2 p2 => q (v :: vs) G2 H2 (s1.trans s2) w2 (.cons (a.mono s2 p1) p2)
theorem PArgs.one {G : Hp} {vs : List V} (h : PArgs G vs [a]) : ∃ v, vs = [v] ∧ a.p G v := by
  cases h with
  | cons r t =>
    cases t
    exact ⟨_, rfl, r⟩
theorem PArgs.two {G : Hp} {vs : List V} (h : PArgs G vs [a, b]) : ∃ v w, vs = [v, w] ∧ a.p G v ∧ b.p G w := by
  cases h with
  | cons r t =>
    obtain ⟨w, rfl, q⟩ := PArgs.one t
    exact ⟨_, w, rfl, r, q⟩
theorem all_of {α : Type} [Rp α] {K : Frag} {G : Hp} : ∀ {xs : List α} {vs : List V}, PArgs G vs (xs.map (is K)) → All K G vs xs
  | [], _, h => by
    cases h
    exact .nil
  | x :: xs, _, h => by
    cases h with
    | cons r t => exact .cons r (all_of t)
theorem PArgs.of_all {α : Type} [Rp α] {K : Frag} {G : Hp} : ∀ {xs : List α} {vs : List V}, All K G vs xs → PArgs G vs (xs.map (is K))
  | _, _, .nil => .nil
  | _, _, .cons r t => .cons r (PArgs.of_all t)
theorem Paired.len {α β : Type} {F : α → β → Prop} : ∀ {xs : List α} {ys : List β}, Paired F xs ys → xs.length = ys.length
  | _, _, .nil => rfl
  | _, _, .cons _ t => congrArg Nat.succ (Paired.len t)
theorem PArgs.len {G : Hp} {vs : List V} {ms : List MP} (h : PArgs G vs ms) : vs.length = ms.length := Paired.len h
/-- a list made -/
theorem EvX.lst {α : Type} [Rp α] {tA : TA} {ms : List MP} {xs : List α} (h : EvA tA Γ ω ω1 ms) (e : ms = xs.map (is K)) (l : xs.length ≤ sizeLine) : EvX (tLst tA) Γ ω ω1 (is K xs) := fun σ G H Q r w q => h σ G H _ r w fun vs G1 H1 s1 w1 p1 => by
  have hl : vs.length = xs.length := by rw [p1.len, e, List.length_map]
  refine ⟨by rw [hl]; exact l, fun p hp => ?_⟩
  obtain ⟨w2, s2⟩ := w1.new (o := .lst vs) hp
  exact q _ _ _ (s1.trans s2) w2 ⟨p, vs, rfl, upd_same, All.mono s2 (all_of (e ▸ p1)), l⟩
theorem EvX.tu {α : Type} [Rp α] {tA : TA} {ms : List MP} {xs : List α} (h : EvA tA Γ ω ω1 ms) (e : ms = xs.map (is K)) (l : xs.length ≤ sizeLine) : EvX (tTup tA) Γ ω ω1 (is K (Tu.mk xs)) := fun σ G H Q r w q => h σ G H _ r w fun vs G1 H1 s1 w1 p1 => by
  have hl : vs.length = xs.length := by rw [p1.len, e, List.length_map]
  refine ⟨by rw [hl]; exact l, fun p hp => ?_⟩
  obtain ⟨w2, s2⟩ := w1.new (o := .tup vs) hp
  exact q _ _ _ (s1.trans s2) w2 ⟨p, vs, rfl, upd_same, All.mono s2 (all_of (e ▸ p1)), l⟩
theorem EvX.pair {α β : Type} [Rp α] [Rp β] {tA : TA} {x : α} {y : β} (h : EvA tA Γ ω ω1 [is K x, is K y]) : EvX (tTup tA) Γ ω ω1 (is K (x, y)) := fun σ G H Q r w q => h σ G H _ r w fun vs G1 H1 s1 w1 p1 => by
  obtain ⟨u, v, rfl, p, p'⟩ := PArgs.two p1
  refine ⟨by show 2 ≤ sizeLine; decide, fun a ha => ?_⟩
  obtain ⟨w2, s2⟩ := w1.new (o := .tup [u, v]) ha
  exact q _ _ _ (s1.trans s2) w2 ⟨a, u, v, rfl, upd_same, Rp.mono s2 p, Rp.mono s2 p'⟩
/-! calls of built-ins -/
theorem EvX.ca {r : List V → Hp → VK → Prop} {tA : TA} {ms : List MP} (h : EvA tA Γ ω ω1 ms) (c : CaX r ω1 ω2 ms m) : EvX (tCB r tA) Γ ω ω2 m := fun σ G H Q r w q => h σ G H _ r w fun vs G1 H1 s1 w1 p1 => c G1 H1 vs Q w1 p1 fun v G2 H2 s2 w2 p2 => q v G2 H2 (s1.trans s2) w2 p2
/-- an own list or dict as it stands -/
theorem At.ownAt {G H : Hp} {k : Nat} {p : Addr} {φ : OC} (w : At G ω H) (h : ω[k]? = some (Ent.own p φ)) : ∃ o, H p = some o ∧ φ.p G o := (w.own k p φ h).2
theorem CaX.len {α : Type} [Rp α] {xs : List α} : CaX (Evl.rLenS K) ω ω [is K xs] (is K (xs.length : Int)) := fun G H vs Q w p q => by
  obtain ⟨v, rfl, a, us, rfl, e, h, l⟩ := PArgs.one p
  exact ⟨a, us, rfl, .inl (RC.sq_of (w.lst e)), q _ G H (Le.refl _) w (by rw [Paired.len h]; rfl)⟩
theorem CaX.lenT {α : Type} [Rp α] {xs : Tu α} : CaX (Evl.rLenS K) ω ω [is K xs] (is K (xs.l.length : Int)) := fun G H vs Q w p q => by
  obtain ⟨v, rfl, a, us, rfl, e, h, l⟩ := PArgs.one p
  exact ⟨a, us, rfl, .inr (RC.st_of (w.tup e)), q _ G H (Le.refl _) w (by rw [Paired.len h]; rfl)⟩
theorem CaX.lenS {s : Sc} : CaX (Evl.rLenS K) ω ω [is K s] (is K (s.l.length : Int)) := fun G H vs Q w p q => by
  obtain ⟨v, rfl, a, rfl, e⟩ := PArgs.one p
  have e' : SqL K H a (s.l.map V.int) := by
    rcases e with (e | ⟨o, e⟩) | e
    · exact .inl (.inl (w.lst e))
    · exact .inl (.inr ⟨o, w.get e⟩)
    · exact .inr e
  have hl : ((s.l.map V.int).length : Int) = (s.l.length : Int) := by rw [List.length_map]
  exact ⟨a, s.l.map V.int, rfl, .inl e', hl ▸ q (.int ((s.l.map V.int).length : Int)) G H (Le.refl _) w (by rw [hl]; exact (rfl : V.int _ = _))⟩
theorem CaX.lenO {α : Type} [Rp α] {xs : List α} {k : Nat} {p : Addr} (h : ω[k]? = some (Ent.own p (olst K xs))) : CaX (Evl.rLenS K) ω ω [adr p] (is K (xs.length : Int)) := fun G H vs Q w pa q => by
  obtain ⟨v, rfl, rfl⟩ := PArgs.one pa
  obtain ⟨o, e, us, rfl, z, _⟩ := w.ownAt h
  exact ⟨p, us, rfl, .inl (RC.sq_of e), q _ G H (Le.refl _) w (by rw [Paired.len z]; rfl)⟩
end
end Lf
/-! ## Readings told by plain data: statements, loops, comprehensions -/
namespace Lf
open PySem PySem.Spec PyProof.Rows L2
open PySem.W (Frag)
open He (ga)
/-! ### new lists and dicts: one's own at first -/
def EvF (te : TE) (Γ : Gm) (ω ω' : List Ent) (φ : OC) : Prop := ∀ (σ : L2.St) (G H : Hp) (Q : VK), Reps G σ Γ → At G ω H → (∀ p G2 H2, Le G G2 → At G2 (.own p φ :: ω') H2 → Q (.ref p) H2) → te σ H Q
def OpF (r : R2) (ω ω' : List Ent) (a b : MP) (φ : OC) : Prop := ∀ (G H : Hp) (x y : V) (Q : VK), At G ω H → a.p G x → b.p G y → (∀ p G2 H2, Le G G2 → At G2 (.own p φ :: ω') H2 → Q (.ref p) H2) → r x y H Q
def CaF (r : List V → Hp → VK → Prop) (ω ω' : List Ent) (ms : List MP) (φ : OC) : Prop := ∀ (G H : Hp) (vs : List V) (Q : VK), At G ω H → PArgs G vs ms → (∀ p G2 H2, Le G G2 → At G2 (.own p φ :: ω') H2 → Q (.ref p) H2) → r vs H Q
section
variable {K : Frag} {Γ : Gm} {ω ω1 ω2 ω3 : List Ent} {ta tb te : TE} {a b m : MP} {tt uu : TT} {φ : OC} {α β : Type} [Rp α] [Rp β]
theorem EvX.fr {xs : List α} (h : EvF te Γ ω ω1 (olst K xs)) : EvX te Γ ω ω1 (is K xs) := fun σ G H Q r w q => h σ G H Q r w fun p G2 H2 s w2 => by
  obtain ⟨o, e, ⟨vs, rfl, hv, l⟩, w3, s3⟩ := w2.freeze
  exact q _ _ H2 (s.trans s3) w3 ⟨p, vs, rfl, upd_same, All.mono s3 hv, l⟩
theorem EvX.frD {κ : Type} [Kp κ] {d : Dic κ α} (h : EvF te Γ ω ω1 (odic K d)) : EvX te Γ ω ω1 (is K d) := fun σ G H Q r w q => h σ G H Q r w fun p G2 H2 s w2 => by
  obtain ⟨o, e, ⟨vs, rfl, hv, l⟩, w3, s3⟩ := w2.freeze
  exact q _ _ H2 (s.trans s3) w3 ⟨p, vs, rfl, .inl upd_same, AllD.mono s3 hv, l⟩
theorem EvF.op {r : R2} (ha : EvX ta Γ ω ω1 a) (hb : EvX tb Γ ω1 ω2 b) (hr : OpF r ω2 ω3 a b φ) : EvF (tOp r ta tb) Γ ω ω3 φ := fun σ G H Q r w q =>
  ha σ G H _ r w fun x G1 H1 s1 w1 p1 => hb σ G1 H1 _ (r.mono s1) w1 fun y G2 H2 s2 w2 p2 => hr G2 H2 x y Q w2 (a.mono s2 p1) p2 fun v G3 H3 s3 w3 => q v G3 H3 (s1.trans (s2.trans s3)) w3
theorem EvF.ca {r : List V → Hp → VK → Prop} {tA : TA} {ms : List MP} (h : EvA tA Γ ω ω1 ms) (c : CaF r ω1 ω2 ms φ) : EvF (tCB r tA) Γ ω ω2 φ := fun σ G H Q r w q => h σ G H _ r w fun vs G1 H1 s1 w1 p1 => c G1 H1 vs Q w1 p1 fun v G2 H2 s2 w2 => q v G2 H2 (s1.trans s2) w2
theorem EvF.lst {tA : TA} {ms : List MP} {xs : List α} (h : EvA tA Γ ω ω1 ms) (e : ms = xs.map (is K)) (l : xs.length ≤ sizeLine) : EvF (tLst tA) Γ ω ω1 (olst K xs) := fun σ G H Q r w q => h σ G H _ r w fun vs G1 H1 s1 w1 p1 => by
  have hl : vs.length = xs.length := by rw [p1.len, e, List.length_map]
  exact ⟨by rw [hl]; exact l, fun p hp => q p _ _ s1 (w1.newOwn hp ⟨vs, rfl, all_of (e ▸ p1), l⟩)⟩
/-- what a new list at p of vs is -/
theorem newL {G H : Hp} {p : Addr} {vs : List V} {xs : List α} (w : At G ω H) (hp : H p = none) (h : All K G vs xs) (l : xs.length ≤ sizeLine) : At G (.own p (olst K xs) :: ω) (upd H p (.lst vs)) := w.newOwn hp ⟨vs, rfl, h, l⟩
/-! lists: list(..), tuple(..), slices, +, *, index, sum -/
theorem CaF.list {xs : List α} : CaF (Evl.rListS K) ω ω [is K xs] (olst K xs) := fun G H vs Q w p q => by
  obtain ⟨v, rfl, a, us, rfl, e, h, l⟩ := PArgs.one p
  exact ⟨a, us, rfl, .inl (RC.sq_of (w.lst e)), fun p hp => q p G _ (Le.refl _) (newL w hp h l)⟩
theorem CaF.listT {xs : Tu α} : CaF (Evl.rListS K) ω ω [is K xs] (olst K xs.l) := fun G H vs Q w p q => by
  obtain ⟨v, rfl, a, us, rfl, e, h, l⟩ := PArgs.one p
  exact ⟨a, us, rfl, .inr (RC.st_of (w.tup e)), fun p hp => q p G _ (Le.refl _) (newL w hp h l)⟩
theorem CaF.listO {xs : List α} {k : Nat} {p : Addr} (h : ω[k]? = some (Ent.own p (olst K xs))) : CaF (Evl.rListS K) ω ω [adr p] (olst K xs) := fun G H vs Q w pa q => by
  obtain ⟨v, rfl, rfl⟩ := PArgs.one pa
  obtain ⟨o, e, us, rfl, z, l⟩ := w.ownAt h
  exact ⟨p, us, rfl, .inl (RC.sq_of e), fun p hp => q p G _ (Le.refl _) (newL w hp z l)⟩
theorem CaX.tuple {xs : List α} : CaX (RC.rTupS K) ω ω [is K xs] (is K (Tu.mk xs)) := fun G H vs Q w p q => by
  obtain ⟨v, rfl, a, us, rfl, e, h, l⟩ := PArgs.one p
  refine ⟨a, us, rfl, .inl ⟨RC.sq_of (w.lst e), fun p hp => ?_⟩⟩
  obtain ⟨w2, s2⟩ := w.new (o := .tup us) hp
  exact q _ _ _ s2 w2 ⟨p, us, rfl, upd_same, All.mono s2 h, l⟩
theorem CaX.tupleO {xs : List α} {k : Nat} {p : Addr} (h : ω[k]? = some (Ent.own p (olst K xs))) : CaX (RC.rTupS K) ω ω [adr p] (is K (Tu.mk xs)) := fun G H vs Q w pa q => by
  obtain ⟨v, rfl, rfl⟩ := PArgs.one pa
  obtain ⟨o, e, us, rfl, z, l⟩ := w.ownAt h
  refine ⟨p, us, rfl, .inl ⟨RC.sq_of e, fun b hb => ?_⟩⟩
  obtain ⟨w2, s2⟩ := w.new (o := .tup us) hb
  exact q _ _ _ s2 w2 ⟨b, us, rfl, upd_same, All.mono s2 z, l⟩
theorem Paired.at_ {γ δ : Type} {F : γ → δ → Prop} : ∀ {xs : List γ} {ys : List δ} {i : Nat} {y : δ}, Paired F xs ys → ys[i]? = some y → ∃ x, xs[i]? = some x ∧ F x y
  | _, _, _, _, .nil, h => by simp at h
  | _, _, 0, _, .cons r _, h => by
    cases (Option.some.inj (show some _ = some _ from h))
    exact ⟨_, rfl, r⟩
  | _, _, i + 1, _, .cons _ t, h => Paired.at_ (i := i) t (by simpa using h)
theorem All.atI {G : Hp} {vs : List V} {xs : List α} {i : Int} {x : α} (h : All K G vs xs) (e : atI xs i = some x) : ∃ v, L2.atI vs i = some v ∧ Rp.rep K G v x := by
  unfold L2.atI at e ⊢
  rw [Paired.len h]
  cases z : ixN xs.length i with
  | none =>
    rw [z] at e
    cases e
  | some j =>
    rw [z] at e
    exact Paired.at_ h e
theorem OpX.ixL {xs : List α} {i : Int} {x : α} (e : atI xs i = some x) : OpX (rIxL K) ω ω (is K xs) (is K i) (is K x) := fun G H u v Q w p1 p2 q => by
  obtain ⟨a, us, rfl, ea, h, _⟩ := p1
  cases p2
  obtain ⟨v, ev, hv⟩ := All.atI h e
  exact ⟨a, us, i, v, rfl, rfl, RC.sq_of (w.lst ea), ev, q v G H (Le.refl _) w hv⟩
theorem OpX.ixO {xs : List α} {i : Int} {x : α} {k : Nat} {p : Addr} (h : ω[k]? = some (Ent.own p (olst K xs))) (e : atI xs i = some x) : OpX (rIxL K) ω ω (adr p) (is K i) (is K x) := fun G H u v Q w p1 p2 q => by
  cases p1
  cases p2
  obtain ⟨o, eo, us, rfl, z, _⟩ := w.ownAt h
  obtain ⟨v, ev, hv⟩ := All.atI z e
  exact ⟨p, us, i, v, rfl, rfl, RC.sq_of eo, ev, q v G H (Le.refl _) w hv⟩
theorem OpX.ixT {xs : Tu α} {i : Int} {x : α} (e : atI xs.l i = some x) : OpX (rIxT K) ω ω (is K xs) (is K i) (is K x) := fun G H u v Q w p1 p2 q => by
  obtain ⟨a, us, rfl, ea, h, _⟩ := p1
  cases p2
  obtain ⟨v, ev, hv⟩ := All.atI h e
  exact ⟨a, us, i, v, rfl, rfl, RC.st_of (w.tup ea), ev, q v G H (Le.refl _) w hv⟩
theorem OpX.fst {x : α} {y : β} : OpX (rIxT K) ω ω (is K (x, y)) (is K (0 : Int)) (is K x) := fun G H u v Q w p1 p2 q => by
  obtain ⟨a, u, v, rfl, ea, h, _⟩ := p1
  cases p2
  exact ⟨a, _, 0, u, rfl, rfl, RC.st_of (w.tup ea), rfl, q u G H (Le.refl _) w h⟩
theorem OpX.snd {x : α} {y : β} : OpX (rIxT K) ω ω (is K (x, y)) (is K (1 : Int)) (is K y) := fun G H u v Q w p1 p2 q => by
  obtain ⟨a, u, v, rfl, ea, _, h⟩ := p1
  cases p2
  exact ⟨a, _, 1, v, rfl, rfl, RC.st_of (w.tup ea), rfl, q v G H (Le.refl _) w h⟩
theorem ints_of {G : Hp} : ∀ {vs : List V} {ns : List Int}, All K G vs ns → vs = ns.map V.int
  | _, _, .nil => rfl
  | _, _, .cons r t => by rw [show _ = V.int _ from r, ints_of t]; rfl
theorem CaX.sum {ns : List Int} : CaX (rSum K) ω ω [is K ns] (is K ns.sum) := fun G H vs Q w p q => by
  obtain ⟨v, rfl, a, us, rfl, e, h, l⟩ := PArgs.one p
  exact ⟨a, ns, rfl, by rw [← ints_of h]; exact RC.sq_of (w.lst e), q _ G H (Le.refl _) w rfl⟩
theorem CaX.sumO {ns : List Int} {k : Nat} {p : Addr} (h : ω[k]? = some (Ent.own p (olst K ns))) : CaX (rSum K) ω ω [adr p] (is K ns.sum) := fun G H vs Q w pa q => by
  obtain ⟨v, rfl, rfl⟩ := PArgs.one pa
  obtain ⟨o, e, us, rfl, z, l⟩ := w.ownAt h
  exact ⟨p, ns, rfl, by rw [← ints_of z]; exact RC.sq_of e, q _ G H (Le.refl _) w rfl⟩
/-- a slice of a list -/
def cut (xs : List α) (lo hi : Option Int) : List α := (xs.drop (HT.sIx xs.length 0 lo)).take (HT.sIx xs.length xs.length hi - HT.sIx xs.length 0 lo)
theorem Paired.drop' {γ δ : Type} {F : γ → δ → Prop} : ∀ {xs : List γ} {ys : List δ} (n : Nat), Paired F xs ys → Paired F (xs.drop n) (ys.drop n)
  | _, _, 0, h => h
  | _, _, n + 1, .nil => .nil
  | _, _, n + 1, .cons _ t => Paired.drop' n t
theorem Paired.take' {γ δ : Type} {F : γ → δ → Prop} : ∀ {xs : List γ} {ys : List δ} (n : Nat), Paired F xs ys → Paired F (xs.take n) (ys.take n)
  | _, _, 0, h => .nil
  | _, _, n + 1, .nil => .nil
  | _, _, n + 1, .cons r t => .cons r (Paired.take' n t)
theorem Paired.app' {γ δ : Type} {F : γ → δ → Prop} : ∀ {xs xs' : List γ} {ys ys' : List δ}, Paired F xs ys → Paired F xs' ys' → Paired F (xs ++ xs') (ys ++ ys')
  | _, _, _, _, .nil, h => h
  | _, _, _, _, .cons r t, h => .cons r (Paired.app' t h)
theorem Paired.rev' {γ δ : Type} {F : γ → δ → Prop} : ∀ {xs : List γ} {ys : List δ}, Paired F xs ys → Paired F xs.reverse ys.reverse
  | _, _, .nil => .nil
  | _, _, .cons r t => by rw [List.reverse_cons, List.reverse_cons]; exact Paired.app' (Paired.rev' t) (.cons r .nil)
theorem cut_len (xs : List α) (lo hi : Option Int) : (cut xs lo hi).length ≤ xs.length := by
  unfold cut
  rw [List.length_take, List.length_drop]
  omega
theorem All.cut {G : Hp} {vs : List V} {xs : List α} {lo hi : Option Int} (h : All K G vs xs) : All K G (cutV vs lo hi) (cut xs lo hi) := by
  unfold cutV Lf.cut
  rw [Paired.len h]
  exact Paired.take' _ (Paired.drop' _ h)
theorem EvO.none : EvO tNoPart Γ ω ω none := fun σ G H Q r w q => q G H (Le.refl _) w
theorem EvO.some {i : Int} (h : EvX te Γ ω ω1 (is K i)) : EvO (tPart te) Γ ω ω1 (some i) := fun σ G H Q r w q => h σ G H _ r w fun v G2 H2 s w2 p => ⟨i, p, q G2 H2 s w2⟩
theorem EvF.slL {xs : List α} {tl th : TO} {lo hi : Option Int} (h : EvX te Γ ω ω1 (is K xs)) (h1 : EvO tl Γ ω1 ω2 lo) (h2 : EvO th Γ ω2 ω3 hi) : EvF (tSl (rSlL K) te tl th) Γ ω ω3 (olst K (cut xs lo hi)) := fun σ G H Q r w q =>
  h σ G H _ r w fun v G1 H1 s1 w1 p1 => h1 σ G1 H1 _ (r.mono s1) w1 fun G2 H2 s2 w2 => h2 σ G2 H2 _ (r.mono (s1.trans s2)) w2 fun G3 H3 s3 w3 => by
    obtain ⟨a, us, rfl, e, ha, l⟩ := (is K xs).mono (s2.trans s3) p1
    exact ⟨a, us, rfl, RC.sq_of (w3.lst e), fun p hp => q p G3 _ (s1.trans (s2.trans s3)) (newL w3 hp (All.cut ha) (Nat.le_trans (cut_len _ _ _) l))⟩
theorem EvF.slO {xs : List α} {tl th : TO} {lo hi : Option Int} {k : Nat} {p : Addr} (h : EvX te Γ ω ω1 (adr p)) (h1 : EvO tl Γ ω1 ω2 lo) (h2 : EvO th Γ ω2 ω3 hi) (ho : ω3[k]? = some (Ent.own p (olst K xs))) : EvF (tSl (rSlL K) te tl th) Γ ω ω3 (olst K (cut xs lo hi)) := fun σ G H Q r w q =>
  h σ G H _ r w fun v G1 H1 s1 w1 p1 => h1 σ G1 H1 _ (r.mono s1) w1 fun G2 H2 s2 w2 => h2 σ G2 H2 _ (r.mono (s1.trans s2)) w2 fun G3 H3 s3 w3 => by
    cases p1
    obtain ⟨o, e, us, rfl, z, l⟩ := w3.ownAt ho
    exact ⟨p, us, rfl, RC.sq_of e, fun p hp => q p G3 _ (s1.trans (s2.trans s3)) (newL w3 hp (All.cut z) (Nat.le_trans (cut_len _ _ _) l))⟩
theorem EvF.slS {xs : Sc} {tl th : TO} {lo hi : Option Int} (h : EvX te Γ ω ω1 (is K xs)) (h1 : EvO tl Γ ω1 ω2 lo) (h2 : EvO th Γ ω2 ω3 hi) (hl : xs.l.length ≤ 63) : EvF (tSl (rSlL K) te tl th) Γ ω ω3 (olst K (cut xs.l lo hi)) := fun σ G H Q r w q =>
  h σ G H _ r w fun v G1 H1 s1 w1 p1 => h1 σ G1 H1 _ (r.mono s1) w1 fun G2 H2 s2 w2 => h2 σ G2 H2 _ (r.mono (s1.trans s2)) w2 fun G3 H3 s3 w3 => by
    obtain ⟨a, rfl, e⟩ := (is K xs).mono (s2.trans s3) p1
    have e' : SqL K H3 a (xs.l.map V.int) := by
      rcases e with (e | ⟨o, e⟩) | e
      · exact .inl (.inl (w3.lst e))
      · exact .inl (.inr ⟨o, w3.get e⟩)
      · exact .inr e
    have ha : All K G3 (xs.l.map V.int) xs.l := by
      generalize xs.l = l
      induction l with
      | nil => exact .nil
      | cons z l ih => exact .cons rfl ih
    exact ⟨a, _, rfl, e', fun p hp => q p G3 _ (s1.trans (s2.trans s3)) (newL w3 hp (All.cut ha) (Nat.le_trans (cut_len _ _ _) (Nat.le_trans hl (by decide))))⟩
theorem EvF.rev {xs : List α} (h : EvX te Γ ω ω1 (is K xs)) : EvF (tRevL K te) Γ ω ω1 (olst K xs.reverse) := fun σ G H Q r w q => h σ G H _ r w fun v G1 H1 s1 w1 p1 => by
  obtain ⟨a, us, rfl, e, ha, l⟩ := p1
  exact ⟨a, us, rfl, RC.sq_of (w1.lst e), fun p hp => q p G1 _ s1 (newL w1 hp (Paired.rev' ha) (by rw [List.length_reverse]; exact l))⟩
theorem EvF.revO {xs : List α} {k : Nat} {p : Addr} (h : EvX te Γ ω ω1 (adr p)) (ho : ω1[k]? = some (Ent.own p (olst K xs))) : EvF (tRevL K te) Γ ω ω1 (olst K xs.reverse) := fun σ G H Q r w q => h σ G H _ r w fun v G1 H1 s1 w1 p1 => by
  cases p1
  obtain ⟨o, e, us, rfl, z, l⟩ := w1.ownAt ho
  exact ⟨p, us, rfl, RC.sq_of e, fun p hp => q p G1 _ s1 (newL w1 hp (Paired.rev' z) (by rw [List.length_reverse]; exact l))⟩
/-- xs + ys, where it is not too long -/
def cat (xs ys : List α) : Option (List α) := if xs.length + ys.length ≤ sizeLine then some (xs ++ ys) else none
theorem OpF.cat {xs ys zs : List α} (e : Lf.cat xs ys = some zs) : OpF rCat ω ω (is K xs) (is K ys) (olst K zs) := fun G H u v Q w p1 p2 q => by
  obtain ⟨a, us, rfl, ea, ha, _⟩ := p1
  obtain ⟨b, vs, rfl, eb, hb, _⟩ := p2
  unfold Lf.cat at e
  split at e
  · rename_i c
    cases e
    refine ⟨a, b, us, vs, rfl, rfl, w.lst ea, w.lst eb, by rw [Paired.len ha, Paired.len hb]; exact c, fun p hp => q p G _ (Le.refl _) (newL w hp (Paired.app' ha hb) (by rw [List.length_append]; exact c))⟩
  · cases e
def rep (xs : List α) (k : Int) : Option (List α) := if -(2 ^ 62) ≤ k ∧ k < 2 ^ 62 ∧ xs.length * k.toNat ≤ sizeLine then some (List.replicate k.toNat xs).flatten else none
theorem Paired.flat {γ δ : Type} {F : γ → δ → Prop} {xs : List γ} {ys : List δ} (h : Paired F xs ys) : ∀ n : Nat, Paired F (List.replicate n xs).flatten (List.replicate n ys).flatten
  | 0 => .nil
  | n + 1 => by
    rw [List.replicate_succ, List.replicate_succ, List.flatten_cons, List.flatten_cons]
    exact Paired.app' h (Paired.flat h n)
theorem flat_len {γ : Type} (xs : List γ) (n : Nat) : (List.replicate n xs).flatten.length = xs.length * n := by
  induction n with
  | zero => simp
  | succ n ih =>
    rw [List.replicate_succ, List.flatten_cons, List.length_append, ih, Nat.mul_succ]
    omega
theorem OpF.rep {xs zs : List α} {k : Int} (e : Lf.rep xs k = some zs) : OpF rRep ω ω (is K xs) (is K k) (olst K zs) := fun G H u v Q w p1 p2 q => by
  obtain ⟨a, us, rfl, ea, ha, _⟩ := p1
  cases p2
  unfold Lf.rep at e
  split at e
  · rename_i c
    cases e
    obtain ⟨c1, c2, c3⟩ := c
    refine ⟨a, k, us, rfl, rfl, w.lst ea, by omega, by omega, by rw [Paired.len ha]; exact c3, fun p hp => q p G _ (Le.refl _) (newL w hp (Paired.flat ha _) (by rw [flat_len]; exact c3))⟩
  · cases e
end
end Lf
/-! ## Readings told by plain data: blocks -/
namespace Lf
open PySem PySem.Spec PyProof.Rows L2
open PySem.W (Frag)
open He (ga)
/-- what is wished of an error -/
def PostE (K : Frag) (W : WX) (ωe : List Ent) (G : Hp) (x : Exn) : Prop := ∀ (σ : L2.St) (d : Addr) (v : V) (G2 H2 : Hp), Le G G2 → At G2 ωe H2 → G2 d = some (.xd [(("value" : Str), v)]) → Rp.rep K G2 v x.val → W (.ref (ga K x.cls)) (some d) σ H2
/-- what a def gives back: a value, or a new list or dict that is the caller's own -/
inductive RS where
  | val (m : MP) (ω : List Ent) | own (φ : OC) (ω : List Ent)
def RS.om : RS → List Ent
  | .val _ ω => ω
  | .own _ ω => ω
def RetQ (Q : VK) (G : Hp) : RS → Prop
  | .val m ω => ∀ (v : V) (G2 H2 : Hp), Le G G2 → At G2 ω H2 → m.p G2 v → Q v H2
  | .own φ ω => ∀ (p : Addr) (G2 H2 : Hp), Le G G2 → At G2 (.own p φ :: ω) H2 → Q (.ref p) H2
def RetPost (D : Ends) (G : Hp) (p : RS) : Prop := RetQ D.rt G p
def NxPost (D : Ends) (G : Hp) (p : Gm × List Ent) : Prop := ∀ (σ : L2.St) (G2 H2 : Hp), Le G G2 → Reps G2 σ p.1 → At G2 p.2 H2 → D.nx σ H2
structure ZF (K : Frag) (W : WX) (ωe : List Ent) (X : Type) where
  z : Res X → Ends → Hp → Prop
  mono : ∀ {m : Res X} {D : Ends} {G G2 : Hp}, Le G G2 → z m D G → z m D G2
  nobad : ∀ {D : Ends} {G : Hp}, ¬ z .bad D G
  err : ∀ {x : Exn} {D : Ends} {G : Hp}, z (.err x) D G → PostE K W ωe G x
section
variable {K : Frag} {W : WX} {ωe : List Ent} {X R S T : Type}
theorem PostE.mono {G G2 : Hp} {x : Exn} (s : Le G G2) (h : PostE K W ωe G x) : PostE K W ωe G2 x := fun σ d v G3 H3 s3 => h σ d v G3 H3 (s.trans s3)
theorem RetQ.mono {Q : VK} {G G2 : Hp} {p : RS} (s : Le G G2) (h : RetQ Q G p) : RetQ Q G2 p := by
  cases p with
  | val m ω => exact fun v G3 H3 s3 => h v G3 H3 (s.trans s3)
  | own φ ω => exact fun v G3 H3 s3 => h v G3 H3 (s.trans s3)
theorem RetPost.mono {D : Ends} {G G2 : Hp} {p : RS} (s : Le G G2) (h : RetPost D G p) : RetPost D G2 p := RetQ.mono s h
theorem NxPost.mono {D : Ends} {G G2 : Hp} {p : Gm × List Ent} (s : Le G G2) (h : NxPost D G p) : NxPost D G2 p := fun v G3 H3 s3 => h v G3 H3 (s.trans s3)
/-- a block that returns (or, with e, falls off the def's end) -/
def zR (K : Frag) (W : WX) (ωe : List Ent) (e : Bool) (fr : R → RS) : ZF K W ωe R where
  z m D G := m ≠ .bad ∧ (∀ r, m = .ok r → RetPost D G (fr r)) ∧ (∀ x, m = .err x → PostE K W ωe G x) ∧ (e = true → ∀ σ H, D.rt .non H → D.nx σ H)
  mono s h := ⟨h.1, fun r e => (h.2.1 r e).mono s, fun x e => (h.2.2.1 x e).mono s, h.2.2.2⟩
  nobad h := h.1 rfl
  err h := h.2.2.1 _ rfl
/-- a block that is left below -/
def zN (K : Frag) (W : WX) (ωe : List Ent) (fn : S → Gm × List Ent) : ZF K W ωe S where
  z m D G := m ≠ .bad ∧ (∀ r, m = .ok r → NxPost D G (fn r)) ∧ ∀ x, m = .err x → PostE K W ωe G x
  mono s h := ⟨h.1, fun r e => (h.2.1 r e).mono s, fun x e => (h.2.2 x e).mono s⟩
  nobad h := h.1 rfl
  err h := h.2.2 _ rfl
/-- a block that is left below or returns -/
def zC (K : Frag) (W : WX) (ωe : List Ent) (fn : S → Gm × List Ent) (fr : R → RS) : ZF K W ωe (Ctl S R) where
  z m D G := m ≠ .bad ∧ (∀ s, m = .ok (.nx s) → NxPost D G (fn s)) ∧ (∀ r, m = .ok (.rt r) → RetPost D G (fr r)) ∧ ∀ x, m = .err x → PostE K W ωe G x
  mono s h := ⟨h.1, fun r e => (h.2.1 r e).mono s, fun r e => (h.2.2.1 r e).mono s, fun x e => (h.2.2.2 x e).mono s⟩
  nobad h := h.1 rfl
  err h := h.2.2.2 _ rfl
def Go (ts : TS) (Γ : Gm) (ω : List Ent) (Z : ZF K W ωe X) (m : Res X) : Prop := ∀ (σ : L2.St) (G H : Hp) (D : Ends), Reps G σ Γ → At G ω H → Z.z m D G → ts D σ H
/-- less is one's own: the last made are let go -/
def Dr (ω ω' : List Ent) : Prop := ∃ pre, ω = pre ++ ω'
theorem Dr.refl (ω : List Ent) : Dr ω ω := ⟨[], rfl⟩
theorem Dr.drop {ω ω' : List Ent} {p : Addr} {φ : OC} (h : Dr ω ω') : Dr (.own p φ :: ω) ω' := by
  obtain ⟨pre, e⟩ := h
  exact ⟨.own p φ :: pre, by rw [e]; rfl⟩
theorem Dr.under {ω ω' : List Ent} {e : Ent} {G H : Hp} (h : Dr ω ω') (w : At G (e :: ω) H) : At G (e :: ω') H := by
  obtain ⟨pre, rfl⟩ := h
  have up : ∀ i : Nat, (pre ++ ω')[i + pre.length]? = ω'[i]? := fun i => by
    rw [List.getElem?_append_right (Nat.le_add_left _ _), Nat.add_sub_cancel]
  refine w.sub (fun i => match i with | 0 => 0 | i + 1 => i + pre.length + 1) (fun i x hx => ?_) fun i j x x' hi hj z => ?_
  · cases i with
    | zero => exact hx
    | succ i =>
      show (pre ++ ω')[i + pre.length]? = some x
      rw [up]
      exact hx
  · cases i with
    | zero =>
      cases j with
      | zero => rfl
      | succ j =>
        have z' : 0 = j + pre.length + 1 := z
        omega
    | succ i =>
      cases j with
      | zero =>
        have z' : i + pre.length + 1 = 0 := z
        omega
      | succ j =>
        have z' : i + pre.length + 1 = j + pre.length + 1 := z
        omega
theorem Dr.at {ω ω' : List Ent} {G H : Hp} (h : Dr ω ω') (w : At G ω H) : At G ω' H := by
  obtain ⟨pre, rfl⟩ := h
  have up : ∀ i : Nat, (pre ++ ω')[i + pre.length]? = ω'[i]? := fun i => by
    rw [List.getElem?_append_right (Nat.le_add_left _ _), Nat.add_sub_cancel]
  exact w.sub (fun i => i + pre.length) (fun i x hx => by rw [up]; exact hx) fun i j x x' hi hj z => by omega
variable {Γ Γ' : Gm} {ω ω1 ω2 ω3 : List Ent} {Z : ZF K W ωe X} {t u ts : TS} {te ta tb : TE} {tt : TT} {m m' : MP} {fr : R → RS} {fn : S → Gm × List Ent} {φ : OC}
theorem Go.req {β : Type} {o : Option β} {k : β → Res X} (h : ∀ y, o = some y → Go ts Γ ω Z (k y)) : Go ts Γ ω Z (Res.req o k) := by
  cases o with
  | none => exact fun σ G H D _ _ z => absurd z Z.nobad
  | some y => exact h y rfl
theorem Go.ite {c : Bool} {m1 m2 : Res X} (h1 : c = true → Go ts Γ ω Z m1) (h2 : c = false → Go ts Γ ω Z m2) : Go ts Γ ω Z (if c then m1 else m2) := by
  cases c with
  | true => exact h1 rfl
  | false => exact h2 rfl
theorem Go.same {x y : Res X} (h : Go ts Γ ω Z x) (e : y = x) : Go ts Γ ω Z y := e ▸ h
theorem Go.weak {x : Res X} (h : Go ts Γ' ω1 Z x) (s : Sub Γ Γ') (d : Dr ω ω1) : Go ts Γ ω Z x := fun σ G H D r w z => h σ G H D (r.sub s) (d.at w) z
theorem Go.ret {e : Bool} {r : R} (h : EvX te Γ ω ω1 m) (hf : fr r = .val m ω2) (d : Dr ω1 ω2) : Go (tRet te) Γ ω (zR K W ωe e fr) (.ok r) := fun σ G H D rp w z => h σ G H _ rp w fun v G2 H2 s w2 p => by
  have q := z.2.1 r rfl
  rw [hf] at q
  exact q v G2 H2 s (d.at w2) p
theorem Go.retC {r : R} (h : EvX te Γ ω ω1 m) (hf : fr r = .val m ω2) (d : Dr ω1 ω2) : Go (tRet te) Γ ω (zC K W ωe fn fr) (.ok (.rt r)) := fun σ G H D rp w z => h σ G H _ rp w fun v G2 H2 s w2 p => by
  have q := z.2.2.1 r rfl
  rw [hf] at q
  exact q v G2 H2 s (d.at w2) p
/-- a new list or dict is handed out -/
theorem Go.retF {e : Bool} {r : R} (h : EvF te Γ ω ω1 φ) (hf : fr r = .own φ ω2) (d : Dr ω1 ω2) : Go (tRet te) Γ ω (zR K W ωe e fr) (.ok r) := fun σ G H D rp w z => h σ G H _ rp w fun p G2 H2 s w2 => by
  have q := z.2.1 r rfl
  rw [hf] at q
  exact q p G2 H2 s (d.under w2)
/-- one's own is handed out -/
theorem Go.retO {e : Bool} {r : R} {i k : Nat} {p : Addr} (hi : Γ[i]? = some (some (adr p))) (ho : ω[k]? = some (Ent.own p φ)) (hf : fr r = .own φ ω2) (d : Dr (ω.eraseIdx k) ω2) : Go (tRet (tVar i)) Γ ω (zR K W ωe e fr) (.ok r) := fun σ G H D rp w z => by
  have q := z.2.1 r rfl
  rw [hf] at q
  obtain ⟨v, ev, pv⟩ := rp.2 i _ hi
  have pv' : v = .ref p := pv
  subst pv'
  have w2 := w.front ho
  exact ⟨_, ev, q p G H (Le.refl _) (d.under w2)⟩
theorem Go.retN {e : Bool} {r : R} (hf : fr r = .val m ω2) (h : ∀ G, m.p G .non) (d : Dr ω ω2) : Go tRetN Γ ω (zR K W ωe e fr) (.ok r) := fun σ G H D rp w z => by
  have q := z.2.1 r rfl
  rw [hf] at q
  exact q .non G H (Le.refl _) (d.at w) (h G)
theorem Go.fall {r : R} (hf : fr r = .val m ω2) (h : ∀ G, m.p G .non) (d : Dr ω ω2) : Go tNext Γ ω (zR K W ωe true fr) (.ok r) := fun σ G H D rp w z => z.2.2.2 rfl σ H (by
  have q := z.2.1 r rfl
  rw [hf] at q
  exact q .non G H (Le.refl _) (d.at w) (h G))
theorem Go.next {s : S} (a : Sub Γ (fn s).1) (d : Dr ω (fn s).2) : Go tNext Γ ω (zN K W ωe fn) (.ok s) := fun σ G H D rp w z => z.2.1 s rfl σ G H (Le.refl _) (rp.sub a) (d.at w)
theorem Go.nextC {s : S} (a : Sub Γ (fn s).1) (d : Dr ω (fn s).2) : Go tNext Γ ω (zC K W ωe fn fr) (.ok (.nx s)) := fun σ G H D rp w z => z.2.1 s rfl σ G H (Le.refl _) (rp.sub a) (d.at w)
theorem Go.last {x : Res X} (h : Go (tSeq t tNext) Γ ω Z x) : Go t Γ ω Z x := h
theorem Go.asg {i : Nat} {x : Res X} (h : EvX te Γ ω ω1 m) (k : Go u (Γ.set i (some m)) ω1 Z x) : Go (tSeq (tAsg te (gName i)) u) Γ ω Z x := fun σ G H D rp w z => h σ G H _ rp w fun v G2 H2 s w2 p => k (σ.set i (some v)) G2 H2 D ((rp.mono s).set p) w2 (Z.mono s z)
theorem Go.asgF {i : Nat} {x : Res X} (h : EvF te Γ ω ω1 φ) (k : ∀ p, Go u (Γ.set i (some (adr p))) (.own p φ :: ω1) Z x) : Go (tSeq (tAsg te (gName i)) u) Γ ω Z x := fun σ G H D rp w z => h σ G H _ rp w fun p G2 H2 s w2 => k p (σ.set i (some (.ref p))) G2 H2 D ((rp.mono s).set (m := adr p) rfl) w2 (Z.mono s z)
theorem Go.drop {x : Res X} (h : EvX te Γ ω ω1 m) (k : Go u Γ ω1 Z x) : Go (tSeq (tDrop te) u) Γ ω Z x := fun σ G H D rp w z => h σ G H _ rp w fun v G2 H2 s w2 p => k σ G2 H2 D (rp.mono s) w2 (Z.mono s z)
/-- a, b = e1, e2 -/
theorem Go.par {i j : Nat} {tA : TA} {a b : MP} {x : Res X} (h : EvA tA Γ ω ω1 [a, b]) (k : Go u ((Γ.set i (some a)).set j (some b)) ω1 Z x) : Go (tSeq (tPar i j tA) u) Γ ω Z x := fun σ G H D rp w z => h σ G H _ rp w fun vs G2 H2 s w2 p => by
  obtain ⟨v, y, rfl, p1, p2⟩ := PArgs.two p
  exact ⟨v, y, rfl, k _ G2 H2 D (((rp.mono s).set p1).set p2) w2 (Z.mono s z)⟩
theorem Go.ifS {c : Bool} {m1 m2 : Res X} (h : EvT tt Γ ω ω1 c) (h1 : c = true → Go t Γ ω1 Z m1) (h2 : c = false → Go u Γ ω1 Z m2) : Go (tIfS tt t u) Γ ω Z (if c then m1 else m2) := fun σ G H D rp w z => h σ G H _ rp w fun G2 H2 s w2 => by
  cases c with
  | true => exact RC.if_t rfl (h1 rfl σ G2 H2 D (rp.mono s) w2 (Z.mono s z))
  | false => exact RC.if_f rfl (h2 rfl σ G2 H2 D (rp.mono s) w2 (Z.mono s z))
/-- the outcome known: c is what the test comes to, x what is left -/
theorem Go.ifK {c : Bool} {x : Res X} (h : EvT tt Γ ω ω1 c) (h1 : c = true → Go t Γ ω1 Z x) (h2 : c = false → Go u Γ ω1 Z x) : Go (tIfS tt t u) Γ ω Z x := fun σ G H D rp w z => h σ G H _ rp w fun G2 H2 s w2 => by
  cases c with
  | true => exact RC.if_t rfl (h1 rfl σ G2 H2 D (rp.mono s) w2 (Z.mono s z))
  | false => exact RC.if_f rfl (h2 rfl σ G2 H2 D (rp.mono s) w2 (Z.mono s z))
/-- an if that leaves the def, else on -/
theorem Go.ifE {e : Bool} {c : Bool} {m1 m2 : Res R} (h : EvT tt Γ ω ω1 c) (h1 : c = true → Go t Γ ω1 (zR K W ωe false fr) m1) (h2 : c = false → Go u Γ ω1 (zR K W ωe e fr) m2) : Go (tSeq (tIfS tt t tNext) u) Γ ω (zR K W ωe e fr) (if c then m1 else m2) := fun σ G H D rp w z => h σ G H _ rp w fun G2 H2 s w2 => by
  have z2 := (zR K W ωe e fr).mono s z
  cases c with
  | true => exact RC.if_t rfl (h1 rfl σ G2 H2 _ (rp.mono s) w2 ⟨z2.1, z2.2.1, z2.2.2.1, fun q => nomatch q⟩)
  | false => exact RC.if_f rfl (h2 rfl σ G2 H2 D (rp.mono s) w2 z2)
def Res.esc {S R : Type} (m : Res R) : Res (Ctl S R) := Res.bind m fun r => .ok (.rt r)
theorem Go.ifEC {c : Bool} {m1 : Res R} {m2 : Res (Ctl S R)} (h : EvT tt Γ ω ω1 c) (h1 : c = true → Go t Γ ω1 (zR K W ωe false fr) m1) (h2 : c = false → Go u Γ ω1 (zC K W ωe fn fr) m2) : Go (tSeq (tIfS tt t tNext) u) Γ ω (zC K W ωe fn fr) (if c then Res.esc m1 else m2) := fun σ G H D rp w z => h σ G H _ rp w fun G2 H2 s w2 => by
  have z2 := (zC K W ωe fn fr).mono s z
  cases c with
  | true =>
    have z3 : (zC K W ωe fn fr).z (Res.esc m1) D G2 := z2
    refine RC.if_t rfl (h1 rfl σ G2 H2 _ (rp.mono s) w2 ⟨fun q => z3.1 (by rw [q]; rfl), fun r q => z3.2.2.1 r (by rw [q]; rfl), fun x q => z3.2.2.2 x (by rw [q]; rfl), fun q => nomatch q⟩)
  | false => exact RC.if_f rfl (h2 rfl σ G2 H2 D (rp.mono s) w2 z2)
/-- a block that is left below, then the rest -/
theorem Go.seqN {a : Res S} {k : S → Res X} (h : Go t Γ ω (zN K W ωe fn) a) (hk : ∀ s, a = .ok s → Go u (fn s).1 (fn s).2 Z (k s)) : Go (tSeq t u) Γ ω Z (Res.bind a k) := fun σ G H D rp w z => by
  refine h σ G H { D with nx := u D } rp w ⟨fun q => ?_, fun s q σ2 G2 H2 s2 r2 w2 => ?_, fun x q => ?_⟩
  · rw [q] at z
    exact Z.nobad z
  · rw [q] at z
    exact hk s q σ2 G2 H2 D r2 w2 (Z.mono s2 z)
  · rw [q] at z
    exact Z.err z
/-- a block that may return, then the rest -/
theorem Go.seqR {e : Bool} {a : Res (Ctl S R)} {k : S → Res R} (h : Go t Γ ω (zC K W ωe fn fr) a) (hk : ∀ s, a = .ok (.nx s) → Go u (fn s).1 (fn s).2 (zR K W ωe e fr) (k s)) : Go (tSeq t u) Γ ω (zR K W ωe e fr) (Res.after a k .ok) := fun σ G H D rp w z => by
  refine h σ G H { D with nx := u D } rp w ⟨fun q => ?_, fun s q σ2 G2 H2 s2 r2 w2 => ?_, fun r q => ?_, fun x q => ?_⟩
  · rw [q] at z
    exact (zR K W ωe e fr).nobad z
  · rw [q] at z
    exact hk s q σ2 G2 H2 D r2 w2 ((zR K W ωe e fr).mono s2 z)
  · rw [q] at z
    exact z.2.1 r rfl
  · rw [q] at z
    exact (zR K W ωe e fr).err z
theorem Go.seqC {T : Type} {fn' : T → Gm × List Ent} {a : Res (Ctl T R)} {k : T → Res (Ctl S R)} (h : Go t Γ ω (zC K W ωe fn' fr) a) (hk : ∀ s, a = .ok (.nx s) → Go u (fn' s).1 (fn' s).2 (zC K W ωe fn fr) (k s)) : Go (tSeq t u) Γ ω (zC K W ωe fn fr) (Res.after a k fun r => .ok (.rt r)) := fun σ G H D rp w z => by
  refine h σ G H { D with nx := u D } rp w ⟨fun q => ?_, fun s q σ2 G2 H2 s2 r2 w2 => ?_, fun r q => ?_, fun x q => ?_⟩
  · rw [q] at z
    exact (zC K W ωe fn fr).nobad z
  · rw [q] at z
    exact hk s q σ2 G2 H2 D r2 w2 ((zC K W ωe fn fr).mono s2 z)
  · rw [q] at z
    exact z.2.2.1 r rfl
  · rw [q] at z
    exact (zC K W ωe fn fr).err z
/-- what is one's own stands still from here on -/
theorem Go.freeze {α : Type} [Rp α] {xs : List α} {p : Addr} {k i : Nat} {x : Res X} (ho : ω[k]? = some (Ent.own p (olst K xs))) (hi : Γ[i]? = some (some (adr p))) (h : Go ts (Γ.set i (some (is K xs))) (ω.eraseIdx k) Z x) : Go ts Γ ω Z x := fun σ G H D rp w z => by
  obtain ⟨o, e, ⟨vs, rfl, hv, l⟩, w3, s3⟩ := (w.front ho).freeze
  obtain ⟨v, ev, pv⟩ := rp.2 i _ hi
  have pv' : v = .ref p := pv
  subst pv'
  have q := (rp.mono s3).set (i := i) (v := .ref p) (m := is K xs) ⟨p, vs, rfl, upd_same, All.mono s3 hv, l⟩
  have es : σ.set i (some (.ref p)) = σ := by
    refine List.ext_getElem? fun j => ?_
    by_cases z : i = j
    · subst z
      rw [ev, List.getElem?_set_self (List.getElem?_eq_some_iff.mp ev).1]
    · rw [List.getElem?_set_ne z]
  rw [es] at q
  exact h σ _ H D q w3 (Z.mono s3 z)
theorem Go.freezeD {α κ : Type} [Rp α] [Kp κ] {xs : Dic κ α} {p : Addr} {k i : Nat} {x : Res X} (ho : ω[k]? = some (Ent.own p (odic K xs))) (hi : Γ[i]? = some (some (adr p))) (h : Go ts (Γ.set i (some (is K xs))) (ω.eraseIdx k) Z x) : Go ts Γ ω Z x := fun σ G H D rp w z => by
  obtain ⟨o, e, ⟨vs, rfl, hv, l⟩, w3, s3⟩ := (w.front ho).freeze
  obtain ⟨v, ev, pv⟩ := rp.2 i _ hi
  have pv' : v = .ref p := pv
  subst pv'
  have q := (rp.mono s3).set (i := i) (v := .ref p) (m := is K xs) ⟨p, vs, rfl, .inl upd_same, AllD.mono s3 hv, l⟩
  have es : σ.set i (some (.ref p)) = σ := by
    refine List.ext_getElem? fun j => ?_
    by_cases z : i = j
    · subst z
      rw [ev, List.getElem?_set_self (List.getElem?_eq_some_iff.mp ev).1]
    · rw [List.getElem?_set_ne z]
  rw [es] at q
  exact h σ _ H D q w3 (Z.mono s3 z)
/-! stores -/
def app {α : Type} (xs : List α) (x : α) : Option (List α) := if xs.length < sizeLine then some (xs ++ [x]) else none
theorem Go.app {α : Type} [Rp α] {xs ys : List α} {y : α} {to : TE} {p : Addr} {k : Nat} {x : Res X} (ht : EvX to Γ ω ω (adr p)) (h0 : ∃ zs : List α, ω[k]? = some (Ent.own p (olst K zs))) (h : EvX te Γ ω ω1 (is K y)) (ho : ω1[k]? = some (Ent.own p (olst K xs))) (e : Lf.app xs y = some ys) (hk : Go u Γ (ω1.set k (.own p (olst K ys))) Z x) :
    Go (tSeq (tDrop (tBM K "list" rAppend to (tCons te tNil))) u) Γ ω Z x := fun σ G H D rp w z => ht σ G H _ rp w fun v G1 H1 s1 w1 p1 => by
  cases p1
  obtain ⟨zs, h0⟩ := h0
  obtain ⟨o, eo, us, rfl, _, _⟩ := w1.ownAt h0
  refine ⟨RC.ty_l eo, h σ G1 H1 _ (rp.mono s1) w1 fun v G2 H2 s2 w2 p2 => ?_⟩
  obtain ⟨o, eo, us, rfl, hu, _⟩ := w2.ownAt ho
  unfold Lf.app at e
  split at e
  · rename_i c
    cases e
    refine ⟨p, us, v, rfl, rfl, eo, by rw [Paired.len hu]; exact c, ?_⟩
    refine hk σ G2 _ D (rp.mono (s1.trans s2)) (w2.put ho ⟨_, rfl, Paired.app' hu (.cons p2 .nil), ?_⟩) (Z.mono (s1.trans s2) z)
    rw [List.length_append]
    exact c
  · cases e
theorem Go.ext {α : Type} [Rp α] {xs ys zs : List α} {to : TE} {p : Addr} {k : Nat} {x : Res X} (ht : EvX to Γ ω ω (adr p)) (h0 : ∃ zs : List α, ω[k]? = some (Ent.own p (olst K zs))) (h : EvX te Γ ω ω1 (is K ys)) (ho : ω1[k]? = some (Ent.own p (olst K xs))) (e : Lf.cat xs ys = some zs) (hk : Go u Γ (ω1.set k (.own p (olst K zs))) Z x) :
    Go (tSeq (tDrop (tBM K "list" rExtend to (tCons te tNil))) u) Γ ω Z x := fun σ G H D rp w z => ht σ G H _ rp w fun v G1 H1 s1 w1 p1 => by
  cases p1
  obtain ⟨zs', h0⟩ := h0
  obtain ⟨o, eo, us, rfl, _, _⟩ := w1.ownAt h0
  refine ⟨RC.ty_l eo, h σ G1 H1 _ (rp.mono s1) w1 fun v G2 H2 s2 w2 p2 => ?_⟩
  obtain ⟨o, eo, us, rfl, hu, _⟩ := w2.ownAt ho
  obtain ⟨b, vs, rfl, eb, hb, _⟩ := p2
  unfold Lf.cat at e
  split at e
  · rename_i c
    cases e
    refine ⟨p, b, us, vs, rfl, rfl, eo, w2.lst eb, by rw [Paired.len hu, Paired.len hb]; exact c, ?_⟩
    refine hk σ G2 _ D (rp.mono (s1.trans s2)) (w2.put ho ⟨_, rfl, Paired.app' hu hb, ?_⟩) (Z.mono (s1.trans s2) z)
    rw [List.length_append]
    exact c
  · cases e
/-- xs[i] = e -/
def setAt {α : Type} (xs : List α) (i : Int) (x : α) : Option (List α) := (ixN xs.length i).map fun j => xs.set j x
theorem Paired.set' {γ δ : Type} {F : γ → δ → Prop} {x : γ} {y : δ} (f : F x y) : ∀ {xs : List γ} {ys : List δ} (i : Nat), Paired F xs ys → Paired F (xs.set i x) (ys.set i y)
  | _, _, _, .nil => .nil
  | _, _, 0, .cons _ t => .cons f t
  | _, _, i + 1, .cons r t => .cons r (Paired.set' f i t)
theorem Go.setL {α : Type} [Rp α] {xs ys : List α} {y : α} {to ti : TE} {p : Addr} {k : Nat} {i : Int} {x : Res X} (h : EvX te Γ ω ω1 (is K y)) (ht : EvX to Γ ω1 ω1 (adr p)) (hi : EvX ti Γ ω1 ω1 (is K i)) (ho : ω1[k]? = some (Ent.own p (olst K xs))) (e : setAt xs i y = some ys) (hk : Go u Γ (ω1.set k (.own p (olst K ys))) Z x) :
    Go (tSeq (tAsg te (gSub to ti rSetL)) u) Γ ω Z x := fun σ G H D rp w z => h σ G H _ rp w fun v G1 H1 s1 w1 p1 => ht σ G1 H1 _ (rp.mono s1) w1 fun v2 G2 H2 s2 w2 p2 => hi σ G2 H2 _ (rp.mono (s1.trans s2)) w2 fun v3 G3 H3 s3 w3 p3 => by
  cases p2
  cases p3
  obtain ⟨o, eo, us, rfl, hu, l⟩ := w3.ownAt ho
  unfold setAt at e
  cases hj : ixN xs.length i with
  | none =>
    rw [hj] at e
    cases e
  | some j =>
    rw [hj] at e
    cases e
    refine ⟨p, us, i, j, rfl, rfl, eo, by rw [Paired.len hu]; exact hj, ?_⟩
    have s := s1.trans (s2.trans s3)
    exact hk σ G3 _ D (rp.mono s) (w3.put ho ⟨_, rfl, Paired.set' (F := fun (v : V) (x : α) => Rp.rep K G3 v x) ((is K y).mono (s2.trans s3) p1) j hu, by rw [List.length_set]; exact l⟩) (Z.mono s z)
/-! ## loops -/
/-- what an iterator gives: the items of xs, while P holds of what is one's own -/
structure WalkX {α : Type} [Rp α] (K : Frag) (G0 : Hp) (P : List Ent → Prop) (J : It) (xs : List α) : Prop where
  len : xs.length ≤ sizeLine
  go : ∀ (G : Hp) (ω : List Ent) (H : Hp) (i : Nat), Le G0 G → At G ω H → P ω → i < xs.length → J.go i H
  stop : ∀ (G : Hp) (ω : List Ent) (H : Hp), Le G0 G → At G ω H → P ω → J.stop xs.length H
  yld : ∀ (G : Hp) (ω : List Ent) (H : Hp) (i : Nat) (x : V) (H' : Hp) (a : α), Le G0 G → At G ω H → P ω → xs[i]? = some a → J.yld i H x H' → ∃ G', Le G G' ∧ At G' ω H' ∧ Rp.rep K G' x a
def IterX {α : Type} [Rp α] (K : Frag) (wi : TI) (Γ : Gm) (ω ω1 : List Ent) (P : List Ent → Prop) (xs : List α) : Prop := ∀ (σ : L2.St) (G H : Hp) (R : It → Hp → Prop), Reps G σ Γ → At G ω H → (∀ J G2 H2, Le G G2 → At G2 ω1 H2 → WalkX K G2 P J xs → R J H2) → wi σ H R
def Any : List Ent → Prop := fun _ => True
def TgX {α : Type} [Rp α] (K : Frag) (g : TG) (Γ : Gm) (Γ' : α → Gm) : Prop := ∀ (a : α) (σ : L2.St) (G H : Hp) (ω : List Ent) (v : V) (Q : L2.St → Hp → Prop), Reps G σ Γ → At G ω H → Rp.rep K G v a → (∀ σ', Reps G σ' (Γ' a) → Q σ' H) → g v σ H Q
variable {α β : Type} [Rp α] [Rp β]
theorem TgX.name {i : Nat} : TgX (α := α) K (gName i) Γ fun a => Γ.set i (some (is K a)) := fun a σ G H ω v Q r w p q => q _ (r.set (m := is K a) p)
theorem TgX.pair {g1 g2 : TG} {Γ1 : α → Gm} {Γ2 : α → β → Gm} (h1 : TgX (α := α) K g1 Γ Γ1) (h2 : ∀ a, TgX (α := β) K g2 (Γ1 a) (Γ2 a)) : TgX (α := α × β) K (gTup K 2 (gCons g1 (gCons g2 gNil))) Γ fun ab => Γ2 ab.1 ab.2 := fun ab σ G H ω v Q r w p q => by
  obtain ⟨a, x, y, rfl, e, p1, p2⟩ := p
  exact ⟨a, [x, y], rfl, RC.st_of (w.tup e), rfl, x, [y], rfl, h1 ab.1 σ G H ω x _ r w p1 fun σ1 r1 => ⟨y, [], rfl, h2 ab.1 ab.2 σ1 G H ω y _ r1 w p2 fun σ2 r2 => ⟨rfl, q σ2 r2⟩⟩⟩
theorem loop_drop {S R : Type} {fb : S → α → Res (Ctl S R)} {xs : List α} {i : Nat} {a : α} (h : xs[i]? = some a) (s : S) : Res.loop fb (xs.drop i) s = Res.bind (fb s a) fun c => match c with
    | .nx s' => Res.loop fb (xs.drop (i + 1)) s'
    | .rt r => .ok (.rt r) := by
  rw [List.drop_eq_getElem_cons (List.getElem?_eq_some_iff.mp h).1, (List.getElem?_eq_some_iff.mp h).2]
  rfl
theorem fold_drop {S : Type} {fb : S → α → Res S} {xs : List α} {i : Nat} {a : α} (h : xs[i]? = some a) (s : S) : Res.fold fb (xs.drop i) s = Res.bind (fb s a) (Res.fold fb (xs.drop (i + 1))) := by
  rw [List.drop_eq_getElem_cons (List.getElem?_eq_some_iff.mp h).1, (List.getElem?_eq_some_iff.mp h).2]
  rfl
/-- a for that is never left -/
theorem Go.forN {wi : TI} {g : TG} {P : List Ent → Prop} {xs : List α} {fb : S → α → Res S} {s0 : S} {Γb : S → α → Gm} (hi : IterX K wi Γ ω ω1 P xs) (h0 : Sub Γ (fn s0).1) (d0 : Dr ω1 (fn s0).2) (hP : ∀ s, P (fn s).2) (ht : ∀ s, TgX K g (fn s).1 (Γb s)) (hb : ∀ s a, Go tbs (Γb s a) (fn s).2 (zN K W ωe fn) (fb s a)) :
    Go (tFor wi g tbs) Γ ω (zN K W ωe fn) (Res.fold fb xs s0) := fun σ G H D rp w z => hi σ G H _ rp w fun J G2 H2 s2 w2 wk => by
  refine ⟨fun i m σ' H' => m = xs.length - i ∧ i ≤ xs.length ∧ ∃ s G', Le G2 G' ∧ Reps G' σ' (fn s).1 ∧ At G' (fn s).2 H' ∧ Res.fold fb (xs.drop i) s = Res.fold fb xs s0, ⟨xs.length, by simp, Nat.zero_le _, s0, G2, Le.refl _, (rp.mono s2).sub h0, d0.at w2, rfl⟩, ?_⟩
  rintro i m σ' H' ⟨rfl, hle, s, G', sG, r', w', ef⟩
  by_cases hlt : i < xs.length
  · have hx : xs[i]? = some xs[i] := List.getElem?_eq_getElem hlt
    rw [fold_drop hx] at ef
    refine .inr ⟨wk.go G' _ H' i sG w' (hP s) hlt, fun σ3 H3 => ∃ s3 G3, Le G2 G3 ∧ Reps G3 σ3 (fn s3).1 ∧ At G3 (fn s3).2 H3 ∧ Res.fold fb (xs.drop (i + 1)) s3 = Res.fold fb xs s0, fun σ3 H3 q => ⟨xs.length - (i + 1), by omega, rfl, hlt, q⟩, fun x H3 y => ?_⟩
    obtain ⟨G3, s3, w3, px⟩ := wk.yld G' _ H' i x H3 _ sG w' (hP s) hx y
    refine ht s _ σ' G3 H3 _ x _ (r'.mono s3) w3 px fun σ4 r4 => ?_
    refine hb s _ σ4 G3 H3 _ r4 w3 ⟨fun q => ?_, fun s5 q σ5 G5 H5 s5' r5 w5 => ?_, fun e q => ?_⟩
    · rw [q] at ef
      exact z.1 ef.symm
    · rw [q] at ef
      exact ⟨s5, G5, sG.trans (s3.trans s5'), r5, w5, ef⟩
    · rw [q] at ef
      exact PostE.mono (s2.trans (sG.trans s3)) (z.2.2 e ef.symm)
  · have e : i = xs.length := by omega
    subst e
    rw [List.drop_length] at ef
    exact .inl ⟨wk.stop G' _ H' sG w' (hP s), z.2.1 s ef.symm σ' G' H' (s2.trans sG) r' w'⟩
/-- a for that may be left by a return -/
theorem Go.forC {wi : TI} {g : TG} {P : List Ent → Prop} {xs : List α} {fb : S → α → Res (Ctl S R)} {s0 : S} {Γb : S → α → Gm} (hi : IterX K wi Γ ω ω1 P xs) (h0 : Sub Γ (fn s0).1) (d0 : Dr ω1 (fn s0).2) (hP : ∀ s, P (fn s).2) (ht : ∀ s, TgX K g (fn s).1 (Γb s)) (hb : ∀ s a, Go tbs (Γb s a) (fn s).2 (zC K W ωe fn fr) (fb s a)) :
    Go (tFor wi g tbs) Γ ω (zC K W ωe fn fr) (Res.loop fb xs s0) := fun σ G H D rp w z => hi σ G H _ rp w fun J G2 H2 s2 w2 wk => by
  refine ⟨fun i m σ' H' => m = xs.length - i ∧ i ≤ xs.length ∧ ∃ s G', Le G2 G' ∧ Reps G' σ' (fn s).1 ∧ At G' (fn s).2 H' ∧ Res.loop fb (xs.drop i) s = Res.loop fb xs s0, ⟨xs.length, by simp, Nat.zero_le _, s0, G2, Le.refl _, (rp.mono s2).sub h0, d0.at w2, rfl⟩, ?_⟩
  rintro i m σ' H' ⟨rfl, hle, s, G', sG, r', w', ef⟩
  by_cases hlt : i < xs.length
  · have hx : xs[i]? = some xs[i] := List.getElem?_eq_getElem hlt
    rw [loop_drop hx] at ef
    refine .inr ⟨wk.go G' _ H' i sG w' (hP s) hlt, fun σ3 H3 => ∃ s3 G3, Le G2 G3 ∧ Reps G3 σ3 (fn s3).1 ∧ At G3 (fn s3).2 H3 ∧ Res.loop fb (xs.drop (i + 1)) s3 = Res.loop fb xs s0, fun σ3 H3 q => ⟨xs.length - (i + 1), by omega, rfl, hlt, q⟩, fun x H3 y => ?_⟩
    obtain ⟨G3, s3, w3, px⟩ := wk.yld G' _ H' i x H3 _ sG w' (hP s) hx y
    refine ht s _ σ' G3 H3 _ x _ (r'.mono s3) w3 px fun σ4 r4 => ?_
    refine hb s _ σ4 G3 H3 _ r4 w3 ⟨fun q => ?_, fun s5 q σ5 G5 H5 s5' r5 w5 => ?_, fun r5 q => ?_, fun e q => ?_⟩
    · rw [q] at ef
      exact z.1 ef.symm
    · rw [q] at ef
      exact ⟨s5, G5, sG.trans (s3.trans s5'), r5, w5, ef⟩
    · rw [q] at ef
      exact RetPost.mono (s2.trans (sG.trans s3)) (z.2.2.1 r5 ef.symm)
    · rw [q] at ef
      exact PostE.mono (s2.trans (sG.trans s3)) (z.2.2.2 e ef.symm)
  · have e : i = xs.length := by omega
    subst e
    rw [List.drop_length] at ef
    exact .inl ⟨wk.stop G' _ H' sG w' (hP s), z.2.1 s ef.symm σ' G' H' (s2.trans sG) r' w'⟩
/-! what is walked -/
def irng (lo hi : Int) : Option (List Int) := if -(2 ^ 60) ≤ lo ∧ lo < 2 ^ 60 ∧ -(2 ^ 60) ≤ hi ∧ hi < 2 ^ 60 ∧ (hi - lo).toNat ≤ sizeLine then some ((List.range (hi - lo).toNat).map fun (i : Nat) => lo + (i : Int)) else none
theorem walk_rng {G0 : Hp} {lo : Int} {n : Nat} (hn : n ≤ sizeLine) : WalkX K G0 Any (Itr lo n) ((List.range n).map fun (i : Nat) => lo + (i : Int)) where
  len := by
    rw [List.length_map, List.length_range]
    exact hn
  go := fun G ω H i _ _ _ h => by
    rw [List.length_map, List.length_range] at h
    exact h
  stop := fun G ω H _ _ _ => by
    rw [List.length_map, List.length_range]
    exact Nat.le_refl _
  yld := fun G ω H i x H' a _ w _ h y => by
    obtain ⟨rfl, rfl⟩ := y
    rw [List.getElem?_map] at h
    cases z : (List.range n)[i]? with
    | none =>
      rw [z] at h
      cases h
    | some j =>
      rw [z] at h
      obtain ⟨_, ej⟩ := List.getElem?_eq_some_iff.mp z
      rw [List.getElem_range] at ej
      subst ej
      cases h
      exact ⟨G, Le.refl _, w, rfl⟩
theorem IterX.rng1 {tA : TA} {n : Int} {xs : List Int} (h : EvA tA Γ ω ω1 [is K n]) (e : irng 0 n = some xs) : IterX K (iRng1 tA) Γ ω ω1 Any xs := fun σ G H R r w q => h σ G H _ r w fun vs G1 H1 s1 w1 p1 => by
  obtain ⟨v, rfl, pv⟩ := PArgs.one p1
  cases pv
  unfold irng at e
  split at e
  · rename_i c
    cases e
    have hs : ∀ k : Int, k - 0 = k := fun k => Int.sub_zero k
    rw [hs] at q c
    exact ⟨n, rfl, by omega, by omega, q _ G1 H1 s1 w1 (walk_rng c.2.2.2.2)⟩
  · cases e
theorem IterX.rng2 {tA : TA} {lo n : Int} {xs : List Int} (h : EvA tA Γ ω ω1 [is K lo, is K n]) (e : irng lo n = some xs) : IterX K (iRng2 tA) Γ ω ω1 Any xs := fun σ G H R r w q => h σ G H _ r w fun vs G1 H1 s1 w1 p1 => by
  obtain ⟨v, v', rfl, pv, pv'⟩ := PArgs.two p1
  cases pv
  cases pv'
  unfold irng at e
  split at e
  · rename_i c
    cases e
    exact ⟨lo, n, rfl, by omega, q _ G1 H1 s1 w1 (walk_rng c.2.2.2.2)⟩
  · cases e
theorem walk_list {G0 : Hp} {a : Addr} {vs : List V} {xs : List α} (e : G0 a = some (.lst vs)) (h : All K G0 vs xs) (l : xs.length ≤ sizeLine) : WalkX K G0 Any (Itl K a) xs where
  len := l
  go := fun G ω H i s w _ hi => by
    rw [← Paired.len h] at hi
    exact ⟨vs, vs[i], RC.sq_of (w.lst (s.at e)), List.getElem?_eq_getElem hi⟩
  stop := fun G ω H s w _ => ⟨vs, RC.sq_of (w.lst (s.at e)), Nat.le_of_eq (Paired.len h)⟩
  yld := fun G ω H i x H' b s w _ hb y => by
    obtain ⟨rfl, y⟩ := y
    have q := y vs (RC.sq_of (w.lst (s.at e)))
    obtain ⟨v, ev, pv⟩ := Paired.at_ h hb
    rw [ev] at q
    cases q
    exact ⟨G, Le.refl _, w, Rp.mono s pv⟩
theorem IterX.list {xs : List α} (h : EvX te Γ ω ω1 (is K xs)) : IterX K (iList K te) Γ ω ω1 Any xs := fun σ G H R r w q => h σ G H _ r w fun v G1 H1 s1 w1 p1 => by
  obtain ⟨a, vs, rfl, e, ha, l⟩ := p1
  exact ⟨a, rfl, ⟨vs, RC.sq_of (w1.lst e)⟩, q _ G1 H1 s1 w1 (walk_list e ha l)⟩
theorem walk_tup {G0 : Hp} {a : Addr} {vs : List V} {xs : List α} (e : G0 a = some (.tup vs)) (h : All K G0 vs xs) (l : xs.length ≤ sizeLine) : WalkX K G0 Any (Itt K a) xs where
  len := l
  go := fun G ω H i s w _ hi => by
    rw [← Paired.len h] at hi
    exact ⟨vs, vs[i], RC.st_of (w.tup (s.at e)), List.getElem?_eq_getElem hi⟩
  stop := fun G ω H s w _ => ⟨vs, RC.st_of (w.tup (s.at e)), Nat.le_of_eq (Paired.len h)⟩
  yld := fun G ω H i x H' b s w _ hb y => by
    obtain ⟨rfl, y⟩ := y
    have q := y vs (RC.st_of (w.tup (s.at e)))
    obtain ⟨v, ev, pv⟩ := Paired.at_ h hb
    rw [ev] at q
    cases q
    exact ⟨G, Le.refl _, w, Rp.mono s pv⟩
theorem IterX.tup {xs : Tu α} (h : EvX te Γ ω ω1 (is K xs)) : IterX K (iTup K te) Γ ω ω1 Any xs.l := fun σ G H R r w q => h σ G H _ r w fun v G1 H1 s1 w1 p1 => by
  obtain ⟨a, vs, rfl, e, ha, l⟩ := p1
  exact ⟨a, rfl, ⟨vs, RC.st_of (w1.tup e)⟩, q _ G1 H1 s1 w1 (walk_tup e ha l)⟩
end
end Lf
/-! ## Readings told by plain data: calls, objects, comprehensions, comparisons of data -/
namespace Lf
open PySem PySem.Spec PyProof.Rows L2
open PySem.W (Frag)
open He (ga)
/-! ### what a def promises, by its mirror -/
def Says {R : Type} (K : Frag) (G : Hp) (ωe : List Ent) (m : Res R) (fo : R → RS) (Q : VK) (E : XK) : Prop :=
  m ≠ .bad ∧ (∀ r, m = .ok r → RetQ Q G (fo r)) ∧ ∀ x, m = .err x → PostE K (fun c d _ H => E c d H) ωe G x
/-- the use of such a promise -/
def SpR {R : Type} (K : Frag) (sp : Sp) (E : XK) (ms : List MP) (ω ωe : List Ent) (m : Res R) (fo : R → RS) : Prop := ∀ (G H : Hp) (vs : List V) (Q : VK), PArgs G vs ms → At G ω H → Says K G ωe m fo Q E → sp vs H Q E
section
variable {K : Frag} {W : WX} {E : XK} {ωe : List Ent} {X R S T : Type} {Γ Γ' : Gm} {ω ω1 ω2 ω3 : List Ent} {Z : ZF K W ωe X} {t u ts : TS} {te ta tb : TE} {tt : TT} {a b m : MP} {fr : R → RS} {fn : S → Gm × List Ent} {φ : OC} {sp : Sp} {tA : TA} {ms : List MP} {fo : R → RS}
theorem reps_start {N : List Str} {G : Hp} {vs : List V} {ms : List MP} (h : PArgs G vs ms) : Reps G (L2.start N vs) (ms.map some ++ List.replicate (N.length - ms.length) none) := by
  unfold L2.start
  have l := h.len
  refine ⟨by rw [List.length_append, List.length_append, List.length_map, List.length_map, List.length_replicate, List.length_replicate, l], fun i m e => ?_⟩
  by_cases hi : i < ms.length
  · rw [List.getElem?_append_left (by rw [List.length_map]; exact hi), List.getElem?_map] at e
    cases z : ms[i]? with
    | none =>
      rw [z] at e
      cases e
    | some m' =>
      rw [z] at e
      cases e
      obtain ⟨v, ev, pv⟩ := Paired.at_ (show Paired (fun (v : V) (m : MP) => m.p G v) vs ms from h) z
      refine ⟨v, ?_, pv⟩
      rw [List.getElem?_append_left (by rw [List.length_map, l]; exact hi), List.getElem?_map, ev]
      rfl
  · rw [List.getElem?_append_right (by rw [List.length_map]; omega)] at e
    have := List.mem_of_getElem? e
    cases List.eq_of_mem_replicate this
theorem Go.fin {N : List Str} {G H : Hp} {vs : List V} {Q : VK} {mr : Res R} {t : TS} (h : Go t Γ ω (zR K (fun c d _ H => E c d H) ωe true fo) mr) (pa : PArgs G vs ms) (e : Γ = ms.map some ++ List.replicate (N.length - ms.length) none) (w : At G ω H) (s : Says K G ωe mr fo Q E) :
    t { nx := fun _ H' => Q .non H', rt := Q } (L2.start N vs) H := by
  subst e
  exact h _ G H _ (reps_start pa) w ⟨s.1, s.2.1, s.2.2, fun _ _ _ q => q⟩
/-! ### calls -/
theorem Says.ok' {mr : Res R} {r : R} {G : Hp} {Q : VK} (e : mr = .ok r) (q : RetQ Q G (fo r)) : Says K G ωe mr fo Q E := ⟨fun z => (by rw [e] at z; cases z), fun r' e' => by
  rw [e] at e'
  cases e'
  exact q, fun x e' => by
  rw [e] at e'
  cases e'⟩
theorem EvX.call {mr : Res R} {r : R} (h : EvA tA Γ ω ω1 ms) (hs : SpR K sp E ms ω1 ωe mr fo) (e : mr = .ok r) (hf : fo r = .val m ω2) : EvX (tCall sp [] E tA) Γ ω ω2 m := fun σ G H Q rp w q => h σ G H _ rp w fun vs G2 H2 s2 w2 p2 => by
  show sp (vs ++ []) H2 Q E
  rw [List.append_nil]
  exact hs G2 H2 vs Q p2 w2 (Says.ok' e (by rw [hf]; exact fun v G3 H3 s3 w3 p3 => q v G3 H3 (s2.trans s3) w3 p3))
theorem EvF.call {mr : Res R} {r : R} (h : EvA tA Γ ω ω1 ms) (hs : SpR K sp E ms ω1 ωe mr fo) (e : mr = .ok r) (hf : fo r = .own φ ω2) : EvF (tCall sp [] E tA) Γ ω ω2 φ := fun σ G H Q rp w q => h σ G H _ rp w fun vs G2 H2 s2 w2 p2 => by
  show sp (vs ++ []) H2 Q E
  rw [List.append_nil]
  exact hs G2 H2 vs Q p2 w2 (Says.ok' e (by rw [hf]; exact fun p G3 H3 s3 w3 => q p G3 H3 (s2.trans s3) w3))
theorem Go.callK {mr : Res R} {D : Ends} {G G2 H2 : Hp} {vs : List V} {Q : VK} {x : R → Res X} {Z : ZF K (fun c d _ H => E c d H) ωe X} (hs : SpR K sp E ms ω1 ω1 mr fo) (hd : Dr ω1 ωe) (s2 : Le G G2) (w2 : At G2 ω1 H2) (p2 : PArgs G2 vs ms) (z : Z.z (Res.bind mr x) D G)
    (q : ∀ r, mr = .ok r → RetQ Q G2 (fo r)) : sp vs H2 Q E :=
  hs G2 H2 vs Q p2 w2 ⟨fun e => by
    rw [e] at z
    exact Z.nobad z, q, fun y e => by
    rw [e] at z
    exact fun σ' d v G3 H3 s3 w3 => Z.err z σ' d v G3 H3 (s2.trans s3) (hd.at w3)⟩
/-- what is left where a value is not wanted -/
theorem RetQ.lose {Q : VK} {G : Hp} {r : RS} (q : ∀ (v : V) (G2 H2 : Hp), Le G G2 → At G2 r.om H2 → Q v H2) : RetQ Q G r := by
  cases r with
  | val m ω => exact fun v G2 H2 s w _ => q v G2 H2 s w
  | own φ ω => exact fun p G2 H2 s w => q (.ref p) G2 H2 s w.drop
/-- f(..) alone -/
theorem Go.dropCall {mr : Res R} {x : R → Res X} {Z : ZF K (fun c d _ H => E c d H) ωe X} (h : EvA tA Γ ω ω1 ms) (hs : SpR K sp E ms ω1 ω1 mr fo) (hd : Dr ω1 ωe) (k : ∀ r, mr = .ok r → Go u Γ (fo r).om Z (x r)) : Go (tSeq (tDrop (tCall sp [] E tA)) u) Γ ω Z (Res.bind mr x) := fun σ G H D rp w z => h σ G H _ rp w fun vs G2 H2 s2 w2 p2 => by
  show sp (vs ++ []) H2 _ E
  rw [List.append_nil]
  exact Go.callK hs hd s2 w2 p2 z fun r e => RetQ.lose fun v G3 H3 s3 w3 => k r e σ G3 H3 D (rp.mono (s2.trans s3)) w3 (Z.mono (s2.trans s3) (by rw [e] at z; exact z))
/-- x = f(..) -/
theorem Go.asgCall {mr : Res R} {i : Nat} {x : R → Res X} {f1 : R → MP} {f2 : R → List Ent} {Z : ZF K (fun c d _ H => E c d H) ωe X} (h : EvA tA Γ ω ω1 ms) (hs : SpR K sp E ms ω1 ω1 mr fo) (hd : Dr ω1 ωe) (hf : ∀ r, fo r = .val (f1 r) (f2 r)) (k : ∀ r, mr = .ok r → Go u (Γ.set i (some (f1 r))) (f2 r) Z (x r)) : Go (tSeq (tAsg (tCall sp [] E tA) (gName i)) u) Γ ω Z (Res.bind mr x) := fun σ G H D rp w z => h σ G H _ rp w fun vs G2 H2 s2 w2 p2 => by
  show sp (vs ++ []) H2 _ E
  rw [List.append_nil]
  exact Go.callK hs hd s2 w2 p2 z fun r e => by
    rw [hf]
    exact fun v G3 H3 s3 w3 p3 => k r e (σ.set i (some v)) G3 H3 D ((rp.mono (s2.trans s3)).set p3) w3 (Z.mono (s2.trans s3) (by rw [e] at z; exact z))
theorem res_bind_ok {α : Type} (m : Res α) : Res.bind m .ok = m := by cases m <;> rfl
/-- return f(..) -/
theorem Go.retCall {mr : Res R} {e0 : Bool} (h : EvA tA Γ ω ω1 ms) (hs : SpR K sp E ms ω1 ω1 mr fo) (hd : Dr ω1 ωe) (hf : ∀ Q G r, RetQ Q G (fr r) → RetQ Q G (fo r)) : Go (tRet (tCall sp [] E tA)) Γ ω (zR K (fun c d _ H => E c d H) ωe e0 fr) mr := fun σ G H D rp w z => h σ G H _ rp w fun vs G2 H2 s2 w2 p2 => by
  show sp (vs ++ []) H2 _ E
  rw [List.append_nil]
  exact Go.callK (D := D) (x := Res.ok) (Z := zR K (fun c d _ H => E c d H) ωe e0 fr) hs hd s2 w2 p2 (by rw [res_bind_ok]; exact z) fun r e => hf _ _ _ ((z.2.1 r e).mono s2)
/-! ### objects -/
theorem lookup_out {m : Str} : ∀ {fs : List (Str × V)} {ns : List Str}, fs.map (·.1) = ns → ns.contains m = false → fs.lookup m = none
  | [], _, _, _ => rfl
  | (g, v) :: fs, _, rfl, h => by
    have h' : (m == g || (fs.map (·.1)).contains m) = false := by simpa [List.contains_cons] using h
    rw [Bool.or_eq_false_iff] at h'
    show (match m == g with | true => some v | false => List.lookup m fs) = none
    rw [h'.1]
    exact lookup_out rfl h'.2
/-- plain data that stand for instances of a class -/
class Ob (α : Type) extends Rp α where
  cls : Str
  fl : List Str
  at_ : ∀ {K : Frag} {G : Hp} {v : V} {x : α}, Rp.rep K G v x → ∃ p dx fs, v = .ref p ∧ G p = some (.ins (ga K cls) dx fs) ∧ fs.map (·.1) = fl
/-- an object or one's own object, at the heap -/
def InsAt (K : Frag) (ω : List Ent) (a : MP) (c : Str) (fl : List Str) : Prop := ∀ (G H : Hp) (v : V), At G ω H → a.p G v → ∃ p dx fs, v = .ref p ∧ H p = some (.ins (ga K c) dx fs) ∧ fs.map (·.1) = fl
theorem InsAt.of {α : Type} [o : Ob α] {x : α} : InsAt K ω (is K x) o.cls o.fl := fun G H v w p => by
  obtain ⟨q, dx, fs, e, h, l⟩ := o.at_ p
  exact ⟨q, dx, fs, e, w.get h, l⟩
theorem InsAt.own {k : Nat} {p : Addr} {c : Str} {ms : List (Str × MP)} (h : ω[k]? = some (Ent.own p (oins (ga K c) ms))) : InsAt K ω (adr p) c (ms.map (·.1)) := fun G H v w e => by
  obtain ⟨o, eo, dx, fs, rfl, hp⟩ := w.ownAt h
  refine ⟨p, dx, fs, e, eo, ?_⟩
  clear eo h
  induction hp with
  | nil => rfl
  | cons r t ih => rw [List.map_cons, List.map_cons, ih, r.1]
/-- o.m(..) -/
theorem meth_run {c : Str} {mn : Str} {fl : List Str} {tA : TA} (ha : EvX ta Γ ω ω1 a) (hi : InsAt K ω1 a c fl) (hn : fl.contains mn = false) (h : EvA tA Γ ω1 ω2 ms) {σ : L2.St} {G H : Hp} (rp : Reps G σ Γ) (w : At G ω H) {Q : VK}
    (q : ∀ vs G2 H2, Le G G2 → At G2 ω2 H2 → PArgs G2 vs (a :: ms) → sp vs H2 Q E) : tMeth (ga K c) mn sp [] E ta tA σ H Q := ha σ G H _ rp w fun v G1 H1 s1 w1 p1 => by
  obtain ⟨p, dx, fs, rfl, e, l⟩ := hi G1 H1 v w1 p1
  refine ⟨p, dx, fs, rfl, e, lookup_out l hn, h σ G1 H1 _ (rp.mono s1) w1 fun vs G2 H2 s2 w2 p2 => ?_⟩
  show sp (V.ref p :: (vs ++ [])) H2 Q E
  rw [List.append_nil]
  exact q _ G2 H2 (s1.trans s2) w2 (.cons (a.mono s2 p1) p2)
theorem EvX.meth {c : Str} {mn : Str} {fl : List Str} {mr : Res R} {r : R} (ha : EvX ta Γ ω ω1 a) (hi : InsAt K ω1 a c fl) (hn : fl.contains mn = false) (h : EvA tA Γ ω1 ω2 ms) (hs : SpR K sp E (a :: ms) ω2 ωe mr fo) (e : mr = .ok r) (hf : fo r = .val m ω3) : EvX (tMeth (ga K c) mn sp [] E ta tA) Γ ω ω3 m := fun σ G H Q rp w q =>
  meth_run ha hi hn h rp w fun vs G2 H2 s2 w2 p2 => hs G2 H2 vs Q p2 w2 (Says.ok' e (by rw [hf]; exact fun v G3 H3 s3 w3 p3 => q v G3 H3 (s2.trans s3) w3 p3))
theorem EvF.meth {c : Str} {mn : Str} {fl : List Str} {mr : Res R} {r : R} (ha : EvX ta Γ ω ω1 a) (hi : InsAt K ω1 a c fl) (hn : fl.contains mn = false) (h : EvA tA Γ ω1 ω2 ms) (hs : SpR K sp E (a :: ms) ω2 ωe mr fo) (e : mr = .ok r) (hf : fo r = .own φ ω3) : EvF (tMeth (ga K c) mn sp [] E ta tA) Γ ω ω3 φ := fun σ G H Q rp w q =>
  meth_run ha hi hn h rp w fun vs G2 H2 s2 w2 p2 => hs G2 H2 vs Q p2 w2 (Says.ok' e (by rw [hf]; exact fun p G3 H3 s3 w3 => q p G3 H3 (s2.trans s3) w3))
theorem Go.dropMeth {c : Str} {mn : Str} {fl : List Str} {mr : Res R} {x : R → Res X} {Z : ZF K (fun c d _ H => E c d H) ωe X} (ha : EvX ta Γ ω ω1 a) (hi : InsAt K ω1 a c fl) (hn : fl.contains mn = false) (h : EvA tA Γ ω1 ω2 ms) (hs : SpR K sp E (a :: ms) ω2 ω2 mr fo) (hd : Dr ω2 ωe) (k : ∀ r, mr = .ok r → Go u Γ (fo r).om Z (x r)) : Go (tSeq (tDrop (tMeth (ga K c) mn sp [] E ta tA)) u) Γ ω Z (Res.bind mr x) := fun σ G H D rp w z =>
  meth_run ha hi hn h rp w fun vs G2 H2 s2 w2 p2 => Go.callK hs hd s2 w2 p2 z fun r e => RetQ.lose fun v G3 H3 s3 w3 => k r e σ G3 H3 D (rp.mono (s2.trans s3)) w3 (Z.mono (s2.trans s3) (by rw [e] at z; exact z))
theorem Go.asgMeth {c : Str} {mn : Str} {fl : List Str} {mr : Res R} {i : Nat} {x : R → Res X} {f1 : R → MP} {f2 : R → List Ent} {Z : ZF K (fun c d _ H => E c d H) ωe X} (ha : EvX ta Γ ω ω1 a) (hi : InsAt K ω1 a c fl) (hn : fl.contains mn = false) (h : EvA tA Γ ω1 ω2 ms) (hs : SpR K sp E (a :: ms) ω2 ω2 mr fo) (hd : Dr ω2 ωe) (hf : ∀ r, fo r = .val (f1 r) (f2 r)) (k : ∀ r, mr = .ok r → Go u (Γ.set i (some (f1 r))) (f2 r) Z (x r)) : Go (tSeq (tAsg (tMeth (ga K c) mn sp [] E ta tA) (gName i)) u) Γ ω Z (Res.bind mr x) := fun σ G H D rp w z =>
  meth_run ha hi hn h rp w fun vs G2 H2 s2 w2 p2 => Go.callK hs hd s2 w2 p2 z fun r e => by
    rw [hf]
    exact fun v G3 H3 s3 w3 p3 => k r e (σ.set i (some v)) G3 H3 D ((rp.mono (s2.trans s3)).set p3) w3 (Z.mono (s2.trans s3) (by rw [e] at z; exact z))
/-- o.f -/
def FldOf {α β : Type} [Rp α] [Rp β] (K : Frag) (c f : Str) (x : α) (y : β) : Prop := ∀ (G : Hp) (v : V), Rp.rep K G v x → ∃ p dx fs z, v = .ref p ∧ G p = some (.ins (ga K c) dx fs) ∧ fs.lookup f = some z ∧ Rp.rep K G z y
theorem EvX.fld {α β : Type} [Rp α] [Rp β] {c f : Str} {x : α} {y : β} (h : EvX ta Γ ω ω1 (is K x)) (hf : FldOf K c f x y) (cl : Cls K (ga K c)) (na : NoAttr K (ga K c) f) : EvX (tFld K ta f) Γ ω ω1 (is K y) := fun σ G H Q rp w q => h σ G H _ rp w fun v G1 H1 s1 w1 p1 => by
  obtain ⟨p, dx, fs, z, rfl, e, l, hz⟩ := hf G1 v p1
  exact ⟨p, _, dx, fs, z, rfl, w1.get e, cl, na, l, q z G1 H1 s1 w1 hz⟩
theorem lookup_paired {G : Hp} {f : Str} {m : MP} : ∀ {fs : List (Str × V)} {ms : List (Str × MP)}, Paired (fun (f : Str × V) (m : Str × MP) => f.1 = m.1 ∧ m.2.p G f.2) fs ms → ms.lookup f = some m → ∃ z, fs.lookup f = some z ∧ m.p G z
  | _, _, .nil, h => by cases h
  | (g, v) :: fs, (g', m') :: ms, .cons r t, h => by
    obtain ⟨e, hv⟩ := r
    have e' : g = g' := e
    subst e'
    have h' : (match f == g with | true => some m' | false => List.lookup f ms) = some m := h
    show ∃ z, (match f == g with | true => some v | false => List.lookup f fs) = some z ∧ m.p G z
    cases q : f == g with
    | true =>
      rw [q] at h'
      cases h'
      exact ⟨v, rfl, hv⟩
    | false =>
      rw [q] at h'
      exact lookup_paired t h'
theorem EvX.fldO {c f : Str} {ms : List (Str × MP)} {k : Nat} {p : Addr} (h : EvX ta Γ ω ω1 (adr p)) (ho : ω1[k]? = some (Ent.own p (oins (ga K c) ms))) (l : ms.lookup f = some m) (cl : Cls K (ga K c)) (na : NoAttr K (ga K c) f) : EvX (tFld K ta f) Γ ω ω1 m := fun σ G H Q rp w q => h σ G H _ rp w fun v G1 H1 s1 w1 p1 => by
  cases p1
  obtain ⟨o, eo, dx, fs, rfl, hp⟩ := w1.ownAt ho
  obtain ⟨z, lz, hz⟩ := lookup_paired hp l
  exact ⟨p, _, dx, fs, z, rfl, eo, cl, na, lz, q z G1 H1 s1 w1 hz⟩
/-- o.f = e, o one's own -/
def putM (f : Str) (m : MP) : List (Str × MP) → List (Str × MP)
  | [] => [(f, m)]
  | (g, x) :: r => if g = f then (g, m) :: r else (g, x) :: putM f m r
theorem put_paired {G : Hp} {f : Str} {m : MP} {y : V} (hy : m.p G y) : ∀ {fs : List (Str × V)} {ms : List (Str × MP)}, Paired (fun (f : Str × V) (m : Str × MP) => f.1 = m.1 ∧ m.2.p G f.2) fs ms → Paired (fun (f : Str × V) (m : Str × MP) => f.1 = m.1 ∧ m.2.p G f.2) (putF f y fs) (putM f m ms)
  | _, _, .nil => .cons ⟨rfl, hy⟩ .nil
  | (g, v) :: fs, (g', m') :: ms, .cons r t => by
    obtain ⟨e, hv⟩ := r
    have e' : g = g' := e
    subst e'
    show Paired _ (if g = f then (g, y) :: fs else (g, v) :: putF f y fs) (if g = f then (g, m) :: ms else (g, m') :: putM f m ms)
    by_cases q : g = f
    · rw [if_pos q, if_pos q]
      exact .cons ⟨rfl, hy⟩ t
    · rw [if_neg q, if_neg q]
      exact .cons ⟨rfl, hv⟩ (put_paired hy t)
theorem Go.setF {c f : Str} {ms ms' : List (Str × MP)} {k : Nat} {p : Addr} {x : Res X} (h : EvX te Γ ω ω1 m) (ha : EvX ta Γ ω1 ω1 (adr p)) (ho : ω1[k]? = some (Ent.own p (oins (ga K c) ms))) (e : putM f m ms = ms') (l : ms.length < 1000) (cl : Cls K (ga K c)) (na : NoAttr K (ga K c) f) (hk : Go u Γ (ω1.set k (.own p (oins (ga K c) ms'))) Z x) :
    Go (tSeq (sFld K ta te f) u) Γ ω Z x := fun σ G H D rp w z => h σ G H _ rp w fun v G1 H1 s1 w1 p1 => ha σ G1 H1 _ (rp.mono s1) w1 fun v2 G2 H2 s2 w2 p2 => by
  cases p2
  obtain ⟨o, eo, dx, fs, rfl, hp⟩ := w2.ownAt ho
  subst e
  refine ⟨p, _, dx, fs, rfl, eo, cl, na, by rw [Paired.len hp]; exact l, ?_⟩
  exact hk σ G2 _ D (rp.mono (s1.trans s2)) (w2.put ho ⟨dx, _, rfl, put_paired (m.mono s2 p1) hp⟩) (Z.mono (s1.trans s2) z)
/-- C(..): what __init__ makes of the new object stands still behind it -/
theorem make_run {c : Str} {f1 : R → MP} {mr : Res R} {Q : VK} {vs : List V} {G1 H1 : Hp} {fl : R → List (Str × MP)} {ωo : R → List Ent} (hs : ∀ x, SpR K sp E (adr x :: ms) (.own x (oins (ga K c) []) :: ω1) ω1 mr fun r => .val (is K ()) (.own x (oins (ga K c) (fl r)) :: ωo r))
    (hm : ∀ r p G o, (oins (ga K c) (fl r)).p G o → G p = some o → (f1 r).p G (.ref p)) (w1 : At G1 ω1 H1) (p1 : PArgs G1 vs ms) (nb : mr ≠ .bad) (ne : ∀ x, mr = .err x → PostE K (fun c d _ H => E c d H) ω1 G1 x)
    (q : ∀ r, mr = .ok r → ∀ (v : V) (G3 H3 : Hp), Le G1 G3 → At G3 (ωo r) H3 → (f1 r).p G3 v → Q v H3) :
    ∀ x dx, H1 x = none → H1 dx = none → dx ≠ x → sp (.ref x :: (vs ++ [])) (upd (upd H1 dx (.own x)) x (.ins (ga K c) dx [])) (fun v H2 => v = .non ∧ Q (.ref x) H2) E := fun x dx hx hdx ne' => by
  rw [List.append_nil]
  obtain ⟨w2, s2⟩ := w1.new (o := .own x) hdx
  have hx2 : upd H1 dx (.own x) x = none := by
    rw [upd_ne (fun z => ne' z.symm)]
    exact hx
  have w3 : At (upd G1 dx (.own x)) (.own x (oins (ga K c) []) :: ω1) (upd (upd H1 dx (.own x)) x (.ins (ga K c) dx [])) := w2.newOwn hx2 ⟨dx, [], rfl, .nil⟩
  refine hs x _ _ _ _ (.cons rfl (PArgs.mono s2 p1)) w3 ⟨nb, fun r e v G3 H3 s3 w3 p3 => ⟨p3, ?_⟩, fun y e => (ne y e).mono s2⟩
  obtain ⟨o, eo, ho, w4, s4⟩ := At.freeze w3
  have so : stl o = o := by
    obtain ⟨_, _, rfl, _⟩ := ho
    rfl
  rw [so] at w4 s4
  exact q r e (.ref x) _ H3 (s2.trans (s3.trans s4)) w4 (hm r x _ o (OC.mono _ s4 ho) upd_same)
theorem EvX.make {c : Str} {f1 : R → MP} {mr : Res R} {r : R} {fl : R → List (Str × MP)} {ωo : R → List Ent} (h : EvA tA Γ ω ω1 ms) (hs : ∀ x, SpR K sp E (adr x :: ms) (.own x (oins (ga K c) []) :: ω1) ω1 mr fun r => .val (is K ()) (.own x (oins (ga K c) (fl r)) :: ωo r))
    (hm : ∀ r p G o, (oins (ga K c) (fl r)).p G o → G p = some o → (f1 r).p G (.ref p)) (e : mr = .ok r) : EvX (tMake (ga K c) sp [] E tA) Γ ω (ωo r) (f1 r) := fun σ G H Q rp w q => h σ G H _ rp w fun vs G1 H1 s1 w1 p1 =>
  make_run hs hm w1 p1 (fun z => (by rw [e] at z; cases z)) (fun x e' => by rw [e] at e'; cases e') fun r' e' v G3 H3 s3 w3 p3 => by
    rw [e] at e'
    cases e'
    exact q v G3 H3 (s1.trans s3) w3 p3
/-! ### comprehensions -/
theorem wipe_get (σ : L2.St) : ∀ (vs : List Nat) (i : Nat), (wipe σ vs)[i]? = if i ∈ vs then (σ[i]?).map (fun _ => none) else σ[i]?
  | [], i => by rw [if_neg (by simp)]; rfl
  | v :: vs, i => by
    show ((wipe σ vs).set v none)[i]? = _
    by_cases z : v = i
    · subst z
      rw [if_pos List.mem_cons_self]
      by_cases l : v < σ.length
      · rw [List.getElem?_set_self (by rw [wipe_length]; exact l), List.getElem?_eq_getElem l]
        rfl
      · rw [List.getElem?_eq_none (by rw [List.length_set, wipe_length]; omega), List.getElem?_eq_none (by omega)]
        rfl
    · rw [List.getElem?_set_ne z, wipe_get σ vs i]
      by_cases y : i ∈ vs
      · rw [if_pos y, if_pos (List.mem_cons_of_mem _ y)]
      · rw [if_neg y, if_neg (fun q => by
          rcases List.mem_cons.mp q with q | q
          · exact z q.symm
          · exact y q)]
theorem wipe_eq {σ σ2 : L2.St} {vs : List Nat} (l : σ2.length = σ.length) (h : ∀ i, i ∉ vs → σ2[i]? = σ[i]?) : wipe σ2 vs = wipe σ vs := by
  refine List.ext_getElem? fun i => ?_
  rw [wipe_get, wipe_get]
  by_cases y : i ∈ vs
  · rw [if_pos y, if_pos y]
    by_cases z : i < σ.length
    · rw [List.getElem?_eq_getElem z, List.getElem?_eq_getElem (by rw [l]; exact z)]
      rfl
    · rw [List.getElem?_eq_none (by omega), List.getElem?_eq_none (by omega)]
  · rw [if_neg y, if_neg y]
    exact h i y
/-- the slots forgotten -/
def wipeG (Γ : Gm) : List Nat → Gm
  | [] => Γ
  | v :: vs => (wipeG Γ vs).set v none
theorem wipeG_len (Γ : Gm) : ∀ vs : List Nat, (wipeG Γ vs).length = Γ.length
  | [] => rfl
  | v :: vs => by
    show ((wipeG Γ vs).set v none).length = _
    rw [List.length_set, wipeG_len Γ vs]
theorem Reps.wipe {G : Hp} {σ : L2.St} {Γ : Gm} (h : Reps G σ Γ) : ∀ vs : List Nat, Reps G (L2.wipe σ vs) (wipeG Γ vs)
  | [] => h
  | v :: vs => by
    have ih := Reps.wipe h vs
    refine ⟨by show ((L2.wipe σ vs).set v none).length = ((wipeG Γ vs).set v none).length; rw [List.length_set, List.length_set, ih.1], fun i m e => ?_⟩
    have e' : ((wipeG Γ vs).set v none)[i]? = some (some m) := e
    by_cases z : v = i
    · subst z
      have l := (List.getElem?_eq_some_iff.mp e').1
      rw [List.length_set] at l
      rw [List.getElem?_set_self l] at e'
      cases (Option.some.inj e')
    · rw [List.getElem?_set_ne z] at e'
      obtain ⟨x, ex, px⟩ := ih.2 i m e'
      exact ⟨x, by show ((L2.wipe σ vs).set v none)[i]? = _; rw [List.getElem?_set_ne z]; exact ex, px⟩
/-- a target that stores within vs alone -/
def TgW {α : Type} [Rp α] (K : Frag) (g : TG) (vs : List Nat) (Γ : Gm) (Γ' : α → Gm) : Prop := ∀ (a : α) (σ : L2.St) (G H : Hp) (ω : List Ent) (v : V) (Q : L2.St → Hp → Prop), Reps G σ Γ → At G ω H → Rp.rep K G v a → (∀ σ', σ'.length = σ.length → (∀ i, i ∉ vs → σ'[i]? = σ[i]?) → Reps G σ' (Γ' a) → Q σ' H) → g v σ H Q
variable {α β γ δ : Type} [Rp α] [Rp β] [Rp γ]
theorem TgW.name {i : Nat} {vs : List Nat} (h : i ∈ vs) : TgW (α := α) K (gName i) vs Γ fun a => Γ.set i (some (is K a)) := fun a σ G H ω v Q r w p q => q _ (by rw [List.length_set]) (fun j hj => List.getElem?_set_ne (fun z => hj (by rw [← z]; exact h))) (r.set (m := is K a) p)
theorem TgW.pair {g1 g2 : TG} {vs : List Nat} {Γ1 : α → Gm} {Γ2 : α → β → Gm} (h1 : TgW (α := α) K g1 vs Γ Γ1) (h2 : ∀ a, TgW (α := β) K g2 vs (Γ1 a) (Γ2 a)) : TgW (α := α × β) K (gTup K 2 (gCons g1 (gCons g2 gNil))) vs Γ fun ab => Γ2 ab.1 ab.2 := fun ab σ G H ω v Q r w p q => by
  obtain ⟨a, x, y, rfl, e, p1, p2⟩ := p
  exact ⟨a, [x, y], rfl, RC.st_of (w.tup e), rfl, x, [y], rfl, h1 ab.1 σ G H ω x _ r w p1 fun σ1 l1 k1 r1 => ⟨y, [], rfl, h2 ab.1 ab.2 σ1 G H ω y _ r1 w p2 fun σ2 l2 k2 r2 => ⟨rfl, q σ2 (l2.trans l1) (fun i hi => (k2 i hi).trans (k1 i hi)) r2⟩⟩⟩
theorem mapO_drop {fb : α → Option (Option δ)} {xs : List α} {i : Nat} {a : α} (h : xs[i]? = some a) : mapO fb (xs.drop i) = match fb a with
    | none => none
    | some none => mapO fb (xs.drop (i + 1))
    | some (some y) => match mapO fb (xs.drop (i + 1)) with
      | none => none
      | some ys => some (y :: ys) := by
  rw [List.drop_eq_getElem_cons (List.getElem?_eq_some_iff.mp h).1, (List.getElem?_eq_some_iff.mp h).2]
  rfl
theorem mapO_len {δ : Type} {fb : α → Option (Option δ)} : ∀ {xs : List α} {ys : List δ}, mapO fb xs = some ys → ys.length ≤ xs.length
  | [], _, h => by
    cases h
    exact Nat.le_refl _
  | x :: xs, ys, h => by
    unfold mapO at h
    split at h
    · cases h
    · have := mapO_len h
      exact Nat.le_succ_of_le this
    · split at h
      · cases h
      · rename_i ys' e
        cases h
        exact Nat.succ_le_succ (mapO_len e)
/-- one turn: the test comes to c; what is kept -/
def Elt (K : Frag) (tt : TT) (te : TE) (Γ : Gm) (ω : List Ent) (o : Option β) : Prop := ∃ c, EvT tt Γ ω ω c ∧ (c = false → o = none) ∧ (c = true → ∃ y, o = some y ∧ EvX te Γ ω ω (is K y))
theorem EvF.lc {wi : TI} {g : TG} {vs : List Nat} {P : List Ent → Prop} {xs : List α} {ys : List β} {fb : α → Option (Option β)} {Γb : α → Gm} (hi : IterX K wi Γ ω ω P xs) (hP : P ω) (hP' : ∀ p φ, P ω → P (.own p φ :: ω)) (ht : TgW K g vs (wipeG Γ vs) Γb) (h : mapO fb xs = some ys)
    (hb : ∀ a o p φ, fb a = some o → Elt K tt te (Γb a) (.own p φ :: ω) o) : EvF (tLc wi g tt te vs) Γ ω ω (olst K ys) := fun σ G H Q rp w q => hi σ G H _ rp w fun J G2 H2 s2 w2 wk D hD => by
  have hl := wk.len
  refine ⟨fun i m H' => m = xs.length - i ∧ i ≤ xs.length ∧ ∃ acc G' ys', Le G2 G' ∧ At G' (.own D (olst K acc) :: ω) H' ∧ acc.length ≤ i ∧ mapO fb (xs.drop i) = some ys' ∧ acc ++ ys' = ys, ⟨xs.length, by simp, Nat.zero_le _, [], G2, ys, Le.refl _, newL w2 hD .nil (Nat.zero_le _), Nat.le_refl _, h, rfl⟩, ?_⟩
  rintro i m H' ⟨rfl, hle, acc, G', ys', sG, w', la, ef, ea⟩
  by_cases hlt : i < xs.length
  · have hx : xs[i]? = some xs[i] := List.getElem?_eq_getElem hlt
    rw [mapO_drop hx] at ef
    refine .inr ⟨wk.go G' _ H' i sG w' (hP' _ _ hP) hlt, fun H3 => ∃ acc G3 ys', Le G2 G3 ∧ At G3 (.own D (olst K acc) :: ω) H3 ∧ acc.length ≤ i + 1 ∧ mapO fb (xs.drop (i + 1)) = some ys' ∧ acc ++ ys' = ys, fun H3 q => ⟨xs.length - (i + 1), by omega, rfl, hlt, q⟩, fun x H3 y => ?_⟩
    obtain ⟨G3, s3, w3, px⟩ := wk.yld G' _ H' i x H3 _ sG w' (hP' _ _ hP) hx y
    have rw0 := (rp.mono (s2.trans (sG.trans s3))).wipe vs
    refine ht _ _ G3 H3 _ x _ rw0 w3 px fun σ4 l4 k4 r4 => ⟨?_, ?_⟩
    · refine (wipe_eq l4 k4).trans (wipe_eq (by rw [wipe_length]) fun i hi => ?_)
      rw [wipe_get, if_neg hi]
    · cases ho : fb xs[i] with
      | none =>
        rw [ho] at ef
        cases ef
      | some o =>
        rw [ho] at ef
        obtain ⟨c, hc, h1, h2⟩ := hb _ o D (olst K acc) ho
        refine hc σ4 G3 H3 _ r4 w3 fun G4 H4 s4 w4 => ?_
        cases c with
        | false =>
          have e := h1 rfl
          subst e
          exact RC.if_f rfl ⟨acc, G4, ys', sG.trans (s3.trans s4), w4, by omega, ef, ea⟩
        | true =>
          obtain ⟨y, e, hy⟩ := h2 rfl
          subst e
          have ef' : (match mapO fb (xs.drop (i + 1)) with | none => none | some ys => some (y :: ys)) = some ys' := ef
          split at ef'
          · cases ef'
          · rename_i ys2 e2
            cases ef'
            refine RC.if_t rfl (hy σ4 G4 H4 _ (r4.mono s4) w4 fun v G5 H5 s5 w5 p5 => ?_)
            obtain ⟨o, eo, us, rfl, hu, _⟩ := w5.ownAt (k := 0) rfl
            have lu := Paired.len hu
            refine ⟨us, eo, by rw [lu]; omega, acc ++ [y], G5, ys2, sG.trans (s3.trans (s4.trans s5)), ?_, by rw [List.length_append]; show acc.length + 1 ≤ _; omega, e2, by rw [List.append_assoc]; exact ea⟩
            have w6 := w5.put (k := 0) (φ' := olst K (acc ++ [y])) rfl ⟨_, rfl, Paired.app' hu (.cons p5 .nil), by rw [List.length_append]; show acc.length + 1 ≤ _; omega⟩
            exact w6
  · have e : i = xs.length := by omega
    subst e
    rw [List.drop_length] at ef
    cases ef
    rw [List.append_nil] at ea
    subst ea
    exact .inl ⟨wk.stop G' _ H' sG w' (hP' _ _ hP), q D G' H' (s2.trans sG) w'⟩
/-! ### == of data -/
class Dat (α : Type) extends Rp α where
  d : α → PyData
  dp : ∀ {K : Frag} {G H : Hp} {ω : List Ent} {v : V} {x : α}, At G ω H → Rp.rep K G v x → Dp K H v (d x)
  lay : ∀ x : α, (d x).canLay0 = true
  deep : Nat
  dep : ∀ x : α, (d x).depth ≤ deep
  dec : DecidableEq α
  eqv : ∀ x y : α, PyData.eqv (d x) (d y) = decide (x = y)
theorem Dat.shaped {α : Type} [t : Dat α] (h : t.deep ≤ 64) (x : α) : SeqAt.shaped (t.d x) = true := by
  unfold SeqAt.shaped
  rw [t.lay x, decide_eq_true (Nat.le_trans (t.dep x) h)]
  rfl
instance : Dat Int where
  d := .int
  dp _ h := by
    cases h
    exact .int _
  lay _ := by simp [PyData.canLay0]
  deep := 0
  dep _ := by simp [PyData.depth]
  dec := inferInstance
  eqv x y := by
    rw [PyData.eqv]
    by_cases h : x = y <;> simp [h]
theorem dpa {α : Type} [t : Dat α] {G H : Hp} (w : At G ω H) : ∀ {vs : List V} {xs : List α}, All K G vs xs → DpAll K H vs (xs.map t.d)
  | _, _, .nil => .nil
  | _, _, .cons r s => .cons (t.dp w r) (dpa w s)
theorem layAll {α : Type} [t : Dat α] : ∀ xs : List α, PyData.canLayAll0 (xs.map t.d) = true
  | [] => by simp [PyData.canLayAll0]
  | x :: xs => by simp [PyData.canLayAll0, t.lay x, layAll xs]
theorem depAll {α : Type} [t : Dat α] : ∀ xs : List α, PyData.depthAll (xs.map t.d) ≤ t.deep
  | [] => by simp [PyData.depthAll]
  | x :: xs => by
    have h1 := depAll xs
    have h2 := t.dep x
    simp only [List.map_cons, PyData.depthAll]
    omega
theorem eqvAll {α : Type} [t : Dat α] [dd : DecidableEq α] : ∀ xs ys : List α, PyData.eqvAll (xs.map t.d) (ys.map t.d) = decide (xs = ys)
  | [], [] => by simp [PyData.eqvAll]
  | [], y :: ys => by simp [PyData.eqvAll]
  | x :: xs, [] => by simp [PyData.eqvAll]
  | x :: xs, y :: ys => by
    rw [List.map_cons, List.map_cons, PyData.eqvAll, eqvAll xs ys, t.eqv]
    by_cases h : x = y
    · subst h
      simp
    · simp [h]
instance {α : Type} [t : Dat α] : Dat (List α) where
  d xs := .list (xs.map t.d)
  dp w h := by
    obtain ⟨a, vs, rfl, e, ha, _⟩ := h
    exact .lst (RC.sq_of (w.lst e)) (dpa w ha)
  lay xs := by
    rw [PyData.canLay0]
    exact layAll xs
  deep := t.deep + 1
  dep xs := by
    rw [PyData.depth]
    exact Nat.succ_le_succ (depAll xs)
  dec := @instDecidableEqList α t.dec
  eqv xs ys := by
    rw [PyData.eqv]
    exact @eqvAll α t t.dec xs ys
instance {α : Type} [t : Dat α] : DecidableEq (Tu α) := fun x y => match x, y with
  | ⟨l⟩, ⟨l'⟩ => match @instDecidableEqList α t.dec l l' with
    | .isTrue h => .isTrue (h ▸ rfl)
    | .isFalse h => .isFalse fun q => h (Tu.mk.inj q)
instance {α : Type} [t : Dat α] : Dat (Tu α) where
  d xs := .tuple (xs.l.map t.d)
  dp w h := by
    obtain ⟨a, vs, rfl, e, ha, _⟩ := h
    exact .tup (RC.st_of (w.tup e)) (dpa w ha)
  lay xs := by
    rw [PyData.canLay0]
    exact layAll xs.l
  deep := t.deep + 1
  dep xs := by
    rw [PyData.depth]
    exact Nat.succ_le_succ (depAll xs.l)
  dec := inferInstance
  eqv xs ys := by
    rw [PyData.eqv]
    have := @eqvAll α t t.dec xs.l ys.l
    rw [this]
    exact decide_eq_decide.mpr ⟨fun h => by cases xs; cases ys; exact congrArg Tu.mk h, fun h => by rw [h]⟩
instance {α β : Type} [t : Dat α] [s : Dat β] : Dat (α × β) where
  d p := .tuple [t.d p.1, s.d p.2]
  dp w h := by
    obtain ⟨a, x, y, rfl, e, h1, h2⟩ := h
    exact .tup (RC.st_of (w.tup e)) (.cons (t.dp w h1) (.cons (s.dp w h2) .nil))
  lay p := by simp [PyData.canLay0, PyData.canLayAll0, t.lay, s.lay]
  deep := max t.deep s.deep + 1
  dep p := by
    have h1 := t.dep p.1
    have h2 := s.dep p.2
    simp only [PyData.depth, PyData.depthAll]
    omega
  dec := @instDecidableEqProd α β t.dec s.dec
  eqv p q := by
    rw [PyData.eqv, PyData.eqvAll, PyData.eqvAll, PyData.eqvAll, t.eqv, s.eqv, Bool.and_true]
    letI := t.dec
    letI := s.dec
    by_cases h1 : p.1 = q.1
    · by_cases h2 : p.2 = q.2
      · rw [decide_eq_true h1, decide_eq_true h2, decide_eq_true (Prod.ext h1 h2)]
        rfl
      · rw [decide_eq_false h2, decide_eq_false (fun z => h2 (congrArg Prod.snd z)), Bool.and_false]
    · rw [decide_eq_false h1, decide_eq_false (fun z => h1 (congrArg Prod.fst z)), Bool.false_and]
theorem OpX.eqD {α : Type} [t : Dat α] [DecidableEq α] {x y : α} (h : t.deep ≤ 64) : OpX (rEqD K) ω ω (is K x) (is K y) (is K (decide (x = y))) := fun G H u v Q w p1 p2 q => by
  refine ⟨t.d x, t.d y, t.dp w p1, t.dp w p2, Dat.shaped h x, Dat.shaped h y, q _ G H (Le.refl _) w ?_⟩
  show V.bl _ = V.bl _
  rw [t.eqv]
  congr
theorem OpX.neD {α : Type} [t : Dat α] [DecidableEq α] {x y : α} (h : t.deep ≤ 64) : OpX (rNeD K) ω ω (is K x) (is K y) (is K (!decide (x = y))) := fun G H u v Q w p1 p2 q => by
  refine ⟨t.d x, t.d y, t.dp w p1, t.dp w p2, Dat.shaped h x, Dat.shaped h y, q _ G H (Le.refl _) w ?_⟩
  show V.bl _ = V.bl _
  rw [t.eqv]
  congr
/-- one's own list compared -/
theorem OpX.eqO {α : Type} [t : Dat α] [DecidableEq α] {x y : List α} {k : Nat} {p : Addr} (ho : ω[k]? = some (Ent.own p (olst K x))) (h : t.deep ≤ 63) : OpX (rEqD K) ω ω (adr p) (is K y) (is K (decide (x = y))) := fun G H u v Q w p1 p2 q => by
  cases p1
  obtain ⟨o, eo, us, rfl, hu, _⟩ := w.ownAt ho
  have hd : Dat.deep (List α) ≤ 64 := Nat.succ_le_succ h
  refine ⟨Dat.d x, Dat.d y, .lst (RC.sq_of eo) (dpa w hu), Dat.dp w p2, Dat.shaped hd x, Dat.shaped hd y, q _ G H (Le.refl _) w ?_⟩
  show V.bl _ = V.bl _
  rw [Dat.eqv]
  congr
theorem OpX.neO {α : Type} [t : Dat α] [DecidableEq α] {x y : List α} {k : Nat} {p : Addr} (ho : ω[k]? = some (Ent.own p (olst K x))) (h : t.deep ≤ 63) : OpX (rNeD K) ω ω (adr p) (is K y) (is K (!decide (x = y))) := fun G H u v Q w p1 p2 q => by
  cases p1
  obtain ⟨o, eo, us, rfl, hu, _⟩ := w.ownAt ho
  have hd : Dat.deep (List α) ≤ 64 := Nat.succ_le_succ h
  refine ⟨Dat.d x, Dat.d y, .lst (RC.sq_of eo) (dpa w hu), Dat.dp w p2, Dat.shaped hd x, Dat.shaped hd y, q _ G H (Le.refl _) w ?_⟩
  show V.bl _ = V.bl _
  rw [Dat.eqv]
  congr
end
end Lf
/-! ## Readings told by plain data: the rest -/
namespace Lf
open PySem PySem.Spec PyProof.Rows L2
open PySem.W (Frag)
open He (ga)
section
variable {K : Frag} {W : WX} {E : XK} {ωe : List Ent} {X R S T : Type} {Γ Γ' : Gm} {ω ω1 ω2 ω3 : List Ent} {Z : ZF K W ωe X} {t u ts : TS} {te ta tb tc : TE} {tt uu : TT} {a b m : MP} {fr : R → RS} {fn : S → Gm × List Ent} {φ : OC} {sp : Sp} {tA : TA} {ms : List MP} {fo : R → RS} {α β : Type} [Rp α] [Rp β]
theorem passF {P : Program} {w : World} {X : Cx} : Passes (L2.CX P w) X (fun _ _ _ => False) := fun _ _ _ _ _ _ _ h => by
  obtain ⟨a, B, H', cls, d, _, _, _, _, _, _, _, q⟩ := h
  exact q.elim
theorem val_ok {m : Res R} {r : R} (h : Res.val m = some r) : m = .ok r := by
  cases m with
  | ok a => cases h; rfl
  | err e => cases h
  | bad => cases h
theorem set_same {ω : List Ent} {k : Nat} {e : Ent} (h : ω[k]? = some e) : ω.set k e = ω := by
  refine List.ext_getElem? fun i => ?_
  by_cases z : k = i
  · subst z
    rw [List.getElem?_set_self (List.getElem?_eq_some_iff.mp h).1, h]
  · rw [List.getElem?_set_ne z]
theorem Says.front {mr : Res R} {G : Hp} {Q : VK} {p : Addr} {φ : OC} {φ' : R → OC} {f1 : R → MP} {k : Nat} (ho : ω[k]? = some (Ent.own p φ)) (s : Says K G ω mr (fun r => .val (f1 r) (ω.set k (.own p (φ' r)))) Q E) : Says K G (.own p φ :: ω.eraseIdx k) mr (fun r => .val (f1 r) (.own p (φ' r) :: ω.eraseIdx k)) Q E := by
  refine ⟨s.1, fun r e v G2 H2 s2 w2 p2 => s.2.1 r e v G2 H2 s2 (At.back w2 ho) p2, fun x e σ d v G2 H2 s2 w2 => s.2.2 x e σ d v G2 H2 s2 ?_⟩
  have := At.back w2 ho
  rw [set_same ho] at this
  exact this
/-! conditional values -/
class NN (α : Type) extends Rp α where
  nn : ∀ {K : Frag} {H : Hp} {v : V} {x : α}, Rp.rep K H v x → v ≠ .non
instance : NN Int := { nn := fun h z => by rw [z] at h; cases h }
instance : NN Bool := { nn := fun h z => by rw [z] at h; cases h }
instance : NN Str := { nn := fun h z => by rw [z] at h; cases h }
instance {α : Type} [Rp α] : NN (List α) := { nn := fun ⟨_, _, e, _⟩ z => by rw [z] at e; cases e }
instance {α : Type} [Rp α] : NN (Tu α) := { nn := fun ⟨_, _, e, _⟩ z => by rw [z] at e; cases e }
instance {α β : Type} [Rp α] [Rp β] : NN (α × β) := { nn := fun ⟨_, _, _, e, _⟩ z => by rw [z] at e; cases e }
theorem EvX.opt {α : Type} [n : NN α] {x : α} (h : EvX te Γ ω ω1 (is K x)) : EvX te Γ ω ω1 (is K (some x)) := h.as fun _ _ p => ⟨p, n.nn p⟩
theorem EvX.iteV {c : Bool} {x y : α} (h : EvT tt Γ ω ω1 c) (h1 : c = true → EvX ta Γ ω1 ω2 (is K x)) (h2 : c = false → EvX tb Γ ω1 ω2 (is K y)) : EvX (tIf tt ta tb) Γ ω ω2 (is K (if c then x else y)) := by
  cases c with
  | true => exact EvX.ite h (fun _ => h1 rfl) (fun z => (nomatch z))
  | false => exact EvX.ite h (fun z => (nomatch z)) (fun _ => h2 rfl)
theorem EvX.iteO {c : Bool} {o1 o2 : Option α} {z : α} (h : EvT tt Γ ω ω1 c) (h1 : c = true → o1 = some z → EvX ta Γ ω1 ω2 (is K z)) (h2 : c = false → o2 = some z → EvX tb Γ ω1 ω2 (is K z)) (e : (if c then o1 else o2) = some z) : EvX (tIf tt ta tb) Γ ω ω2 (is K z) := by
  cases c with
  | true => exact EvX.ite h (fun _ => h1 rfl e) (fun z => (nomatch z))
  | false => exact EvX.ite h (fun z => (nomatch z)) (fun _ => h2 rfl e)
theorem EvT.eq {x y : Bool} (h : EvT tt Γ ω ω1 x) (e : x = y) : EvT tt Γ ω ω1 y := e ▸ h
/-! ints with written numbers; max, min, int, bit_length -/
theorem OpX.mulK {i j : Int} (c : CMul i j) : OpX (rI CMul fun i j => .int (i * j)) ω ω (is K i) (is K j) (is K (i * j)) := .I c fun _ => rfl
theorem OpX.powK {i j : Int} (c : CPow i j) : OpX (rI CPow fun i j => .int (i ^ j.toNat)) ω ω (is K i) (is K j) (is K (i ^ j.toNat)) := .I c fun _ => rfl
theorem OpX.modK {i j : Int} (c : 0 < j) : OpX (rI (fun _ j => 0 < j) fun i j => .int (i % j)) ω ω (is K i) (is K j) (is K (i % j)) := .I c fun _ => rfl
theorem OpX.fdivK {i j : Int} (c : CDiv i j) : OpX (rI CDiv fun i j => .int (i / j)) ω ω (is K i) (is K j) (is K (i / j)) := .I c fun _ => rfl
theorem CaX.int1 {i : Int} : CaX RC.rInt1 ω ω [is K i] (is K i) := fun G H vs Q w p q => by
  obtain ⟨v, rfl, e⟩ := PArgs.one p
  cases e
  exact .inl ⟨i, rfl, q _ G H (Le.refl _) w rfl⟩
def max2 (i j : Int) : Int := if j > i then j else i
def min2 (i j : Int) : Int := if j < i then j else i
theorem CaX.max2 {i j : Int} : CaX Evl.rMax2 ω ω [is K i, is K j] (is K (max2 i j)) := fun G H vs Q w p q => by
  obtain ⟨v, v', rfl, e, e'⟩ := PArgs.two p
  cases e
  cases e'
  exact ⟨i, j, rfl, q _ G H (Le.refl _) w rfl⟩
theorem CaX.min2 {i j : Int} : CaX RC.rMin2 ω ω [is K i, is K j] (is K (min2 i j)) := fun G H vs Q w p q => by
  obtain ⟨v, v', rfl, e, e'⟩ := PArgs.two p
  cases e
  cases e'
  exact ⟨i, j, rfl, q _ G H (Le.refl _) w rfl⟩
theorem EvX.bits {i : Int} (h : EvX te Γ ω ω1 (is K i)) : EvX (tBits te) Γ ω ω1 (is K (Builtin.Int.intBits i : Int)) := fun σ G H Q r w q => h σ G H _ r w fun v G2 H2 s w2 p => ⟨i, p, q _ G2 H2 s w2 rfl⟩
/-! comprehensions -/
theorem mapO_map {γ δ : Type} (f : γ → δ) : ∀ xs : List γ, mapO (fun x => some (some (f x))) xs = some (xs.map f)
  | [] => rfl
  | x :: xs => by
    unfold mapO
    rw [mapO_map f xs]
    rfl
theorem mapO_fil {γ δ : Type} (c : γ → Bool) (f : γ → δ) : ∀ xs : List γ, mapO (fun x => if c x then some (some (f x)) else some none) xs = some ((xs.filter c).map f)
  | [] => rfl
  | x :: xs => by
    unfold mapO
    rw [mapO_fil c f xs]
    cases h : c x with
    | true => rw [List.filter_cons_of_pos h]; rfl
    | false => rw [List.filter_cons_of_neg (by rw [h]; decide)]; rfl
theorem Elt.all {y : β} {o : Option β} (h : EvX te Γ ω ω (is K y)) (e : some (some y) = some o) : Elt K tYes te Γ ω o := ⟨true, EvT.yes, fun z => (nomatch z), fun _ => ⟨y, (Option.some.inj e).symm, h⟩⟩
theorem Elt.iteO {c : Bool} {oA : Option (Option β)} {o : Option β} (h : EvT tt Γ ω ω c) (h1 : c = true → oA = some o → ∃ y, o = some y ∧ EvX te Γ ω ω (is K y)) (e : (if c then oA else some none) = some o) : Elt K tt te Γ ω o := by
  cases c with
  | true => exact ⟨true, h, fun z => (nomatch z), fun _ => h1 rfl e⟩
  | false => exact ⟨false, h, fun _ => (Option.some.inj e).symm, fun z => (nomatch z)⟩
theorem Elt.ite {c : Bool} {y : β} {o : Option β} (h : EvT tt Γ ω ω c) (h1 : c = true → EvX te Γ ω ω (is K y)) (e : (if c then some (some y) else some none) = some o) : Elt K tt te Γ ω o := Elt.iteO h (fun z q => ⟨y, (Option.some.inj q).symm, h1 z⟩) e
/-! a, b = e; raise; what is not reached -/
theorem Go.asgT {g : TG} {y : α} {Γ2 : α → Gm} {x : Res X} (h : EvX te Γ ω ω1 (is K y)) (ht : TgX K g Γ Γ2) (k : Go u (Γ2 y) ω1 Z x) : Go (tSeq (tAsg te g) u) Γ ω Z x := fun σ G H D rp w z => h σ G H _ rp w fun v G2 H2 s w2 p => ht y σ G2 H2 _ v _ (rp.mono s) w2 p fun σ' r' => k σ' G2 H2 D r' w2 (Z.mono s z)
theorem Go.never : Go tNever Γ ω Z (.bad : Res X) := fun σ G H D rp w z => absurd z Z.nobad
/-! tuples: +, slices, [::-1] -/
def catT (xs ys : Tu α) : Option (Tu α) := if xs.l.length + ys.l.length ≤ sizeLine then some ⟨xs.l ++ ys.l⟩ else none
theorem OpX.catT {xs ys zs : Tu α} (e : Lf.catT xs ys = some zs) : OpX (rCatA K) ω ω (is K xs) (is K ys) (is K zs) := fun G H u v Q w p1 p2 q => by
  obtain ⟨a, us, rfl, ea, ha, la⟩ := p1
  obtain ⟨b, vs, rfl, eb, hb, lb⟩ := p2
  unfold Lf.catT at e
  split at e
  · rename_i c
    cases e
    refine ⟨a, b, us, vs, rfl, rfl, RC.st_of (w.tup ea), RC.st_of (w.tup eb), by rw [Paired.len ha, Paired.len hb]; exact c, fun z => ?_, fun _ z => ?_, fun _ _ p hp => ?_⟩
    · subst z
      have : xs.l = [] := List.eq_nil_of_length_eq_zero (Paired.len ha).symm
      exact q _ G H (Le.refl _) w ⟨b, vs, rfl, eb, by rw [this]; exact hb, by rw [this]; exact lb⟩
    · subst z
      have : ys.l = [] := List.eq_nil_of_length_eq_zero (Paired.len hb).symm
      exact q _ G H (Le.refl _) w ⟨a, us, rfl, ea, by rw [this, List.append_nil]; exact ha, by rw [this, List.append_nil]; exact la⟩
    · obtain ⟨w2, s2⟩ := w.new (o := .tup (us ++ vs)) hp
      exact q _ _ _ s2 w2 ⟨p, _, rfl, upd_same, Paired.app' (All.mono s2 ha) (All.mono s2 hb), by show (xs.l ++ ys.l).length ≤ _; rw [List.length_append]; exact c⟩
  · cases e
theorem cut_whole {γ : Type} {xs : List γ} {lo hi : Option Int} (h : HT.sIx xs.length 0 lo = 0 ∧ HT.sIx xs.length xs.length hi = xs.length) : cut xs lo hi = xs := by
  unfold cut
  rw [h.1, h.2, List.drop_zero, Nat.sub_zero, List.take_length]
theorem EvX.slT {xs : Tu α} {tl th : TO} {lo hi : Option Int} (h : EvX te Γ ω ω1 (is K xs)) (h1 : EvO tl Γ ω1 ω2 lo) (h2 : EvO th Γ ω2 ω3 hi) : EvX (tSl (rSlA K) te tl th) Γ ω ω3 (is K (Tu.mk (cut xs.l lo hi))) := fun σ G H Q r w q =>
  h σ G H _ r w fun v G1 H1 s1 w1 p1 => h1 σ G1 H1 _ (r.mono s1) w1 fun G2 H2 s2 w2 => h2 σ G2 H2 _ (r.mono (s1.trans s2)) w2 fun G3 H3 s3 w3 => by
    obtain ⟨a, us, rfl, e, ha, l⟩ := (is K xs).mono (s2.trans s3) p1
    refine ⟨a, us, rfl, RC.st_of (w3.tup e), fun z => ?_, fun _ p hp => ?_⟩
    · rw [Paired.len ha] at z
      exact q _ G3 H3 (s1.trans (s2.trans s3)) w3 ⟨a, us, rfl, e, by rw [cut_whole z]; exact ha, by rw [cut_whole z]; exact l⟩
    · obtain ⟨w4, s4⟩ := w3.new (o := .tup (cutV us lo hi)) hp
      exact q _ _ _ (s1.trans (s2.trans (s3.trans s4))) w4 ⟨p, _, rfl, upd_same, All.cut (All.mono s4 ha), Nat.le_trans (cut_len _ _ _) l⟩
theorem EvX.revT {xs : Tu α} (h : EvX te Γ ω ω1 (is K xs)) : EvX (RC.tRevT K te) Γ ω ω1 (is K (Tu.mk xs.l.reverse)) := fun σ G H Q r w q => h σ G H _ r w fun v G1 H1 s1 w1 p1 => by
  obtain ⟨a, us, rfl, e, ha, l⟩ := p1
  refine ⟨a, us, rfl, RC.st_of (w1.tup e), fun p hp => ?_⟩
  obtain ⟨w2, s2⟩ := w1.new (o := .tup us.reverse) hp
  exact q _ _ _ (s1.trans s2) w2 ⟨p, _, rfl, upd_same, Paired.rev' (All.mono s2 ha), by show xs.l.reverse.length ≤ _; rw [List.length_reverse]; exact l⟩
/-! [*xs, a, ..] -/
theorem EvF.starL {xs ys zs : List α} {tr : TA} {ms : List MP} (h : EvX te Γ ω ω1 (is K xs)) (hr : EvA tr Γ ω1 ω2 ms) (e : ms = ys.map (is K)) (ec : cat xs ys = some zs) : EvF (tLst (StX.tStar K te tr)) Γ ω ω2 (olst K zs) := fun σ G H Q r w q => h σ G H _ r w fun v G1 H1 s1 w1 p1 => by
  obtain ⟨a, us, rfl, ea, ha, l⟩ := p1
  refine ⟨a, us, rfl, .inr (RC.sq_of (w1.lst ea)), hr σ G1 H1 _ (r.mono s1) w1 fun vs G2 H2 s2 w2 p2 => ?_⟩
  unfold cat at ec
  split at ec
  · rename_i c
    cases ec
    have hv : All K G2 vs ys := all_of (e ▸ p2)
    have hl : (us ++ vs).length ≤ sizeLine := by rw [List.length_append, Paired.len ha, Paired.len hv]; exact c
    exact ⟨hl, fun p hp => q p G2 _ (s1.trans s2) (newL w2 hp (Paired.app' (All.mono s2 ha) hv) (by rw [List.length_append]; exact c))⟩
  · cases ec
/-! in -/
theorem any_in {G : Hp} {n : Int} {vs : List V} {ns : List Int} (h : All K G vs ns) : inV (.int n) vs = decide (n ∈ ns) ∧ vs.all flatV = true := by
  rw [ints_of h]
  clear h
  induction ns with
  | nil => exact ⟨rfl, rfl⟩
  | cons x ns ih =>
    refine ⟨?_, ?_⟩
    · have h1 := ih.1
      unfold inV at h1 ⊢
      rw [List.map_cons, List.any_cons, h1]
      by_cases e : n = x
      · subst e
        simp [eqV]
      · have : (x == n) = false := by simpa using fun z => e z.symm
        simp [eqV, this, e]
    · rw [List.map_cons, List.all_cons, ih.2]
      rfl
theorem OpX.inL {n : Int} {xs : List Int} : OpX (rIn K false) ω ω (is K n) (is K xs) (is K (decide (n ∈ xs))) := fun G H u v Q w p1 p2 q => by
  cases p1
  obtain ⟨a, us, rfl, ea, ha, _⟩ := p2
  obtain ⟨h1, h2⟩ := any_in (n := n) ha
  exact ⟨a, us, rfl, .inl (RC.sq_of (w.lst ea)), rfl, h2, by rw [if_neg (by decide), h1]; exact q _ G H (Le.refl _) w rfl⟩
theorem OpX.niL {n : Int} {xs : List Int} : OpX (rIn K true) ω ω (is K n) (is K xs) (is K (!decide (n ∈ xs))) := fun G H u v Q w p1 p2 q => by
  cases p1
  obtain ⟨a, us, rfl, ea, ha, _⟩ := p2
  obtain ⟨h1, h2⟩ := any_in (n := n) ha
  exact ⟨a, us, rfl, .inl (RC.sq_of (w.lst ea)), rfl, h2, by rw [if_pos rfl, h1]; exact q _ G H (Le.refl _) w rfl⟩
/-! ### dicts -/
def Dic.get? {κ : Type} [DecidableEq κ] (d : Dic κ α) (k : κ) : Option α := (d.l.find? fun p => decide (p.1 = k)).map (·.2)
def Dic.has {κ : Type} [DecidableEq κ] (d : Dic κ α) (k : κ) : Bool := (d.get? k).isSome
def putL {κ : Type} [DecidableEq κ] (l : List (κ × α)) (k : κ) (x : α) : List (κ × α) := if (l.any fun p => decide (p.1 = k)) = true then l.map (fun p => if p.1 = k then (p.1, x) else p) else l ++ [(k, x)]
def Dic.put {κ : Type} [DecidableEq κ] (d : Dic κ α) (k : κ) (x : α) : Option (Dic κ α) := if d.l.length < sizeLine then some ⟨putL d.l k x⟩ else none
class KpV (κ : Type) extends Kp κ, Rp κ where
  dec : DecidableEq κ
  rp : ∀ {K : Frag} {H : Hp} {k : κ}, Rp.rep K H (kV (Kp.key k)) k
  kv : ∀ {K : Frag} {H : Hp} {v : V} {k : κ}, Rp.rep K H v k → v = kV (Kp.key k)
instance : KpV Int := { dec := inferInstance, rp := rfl, kv := fun h => h }
instance : KpV Str := { dec := inferInstance, rp := rfl, kv := fun h => h }
section
variable {κ : Type} [kp : KpV κ] [DecidableEq κ]
theorem valV_of {G : Hp} {k : κ} {kvs : List (Key × V)} {l : List (κ × α)} (h : AllD K G kvs l) : match (l.find? fun p => decide (p.1 = k)).map (·.2) with
    | none => valV kvs (Kp.key k) = none
    | some x => ∃ v, valV kvs (Kp.key k) = some v ∧ Rp.rep K G v x := by
  induction h with
  | nil => exact rfl
  | @cons kv p _ _ r t ih =>
    by_cases e : p.1 = k
    · rw [List.find?_cons, decide_eq_true e]
      refine ⟨kv.2, valV_pos ?_, r.2⟩
      rw [r.1, e]
    · rw [List.find?_cons, decide_eq_false e]
      have ne : ¬ kv.1 = Kp.key k := fun z => e (Kp.inj (r.1.symm.trans z))
      rw [valV_neg ne]
      exact ih
theorem dget_of {G H : Hp} {a : Addr} {kvs : List (Key × V)} {d : Dic κ α} {k : κ} {v : V} (e : Rd H a (.dK kvs)) (h : AllD K G kvs d.l) (hk : Rp.rep K G v k) : ∃ o, DGet H a v o ∧ match d.get? k with
    | none => o = none
    | some x => ∃ v, o = some v ∧ Rp.rep K G v x := by
  refine ⟨valV kvs (Kp.key k), .inl ⟨kvs, Kp.key k, e, KpV.kv hk, rfl⟩, ?_⟩
  have := valV_of (k := k) h
  unfold Dic.get?
  split at this <;> exact this
/-- where a dict stands: still, or one's own -/
def DicAt (K : Frag) (ω : List Ent) (a : MP) (d : Dic κ α) : Prop := ∀ (G H : Hp) (v : V), At G ω H → a.p G v → ∃ p kvs, v = .ref p ∧ Rd H p (.dK kvs) ∧ AllD K G kvs d.l
theorem DicAt.of {d : Dic κ α} : DicAt K ω (is K d) d := fun G H v w p => by
  obtain ⟨a, kvs, rfl, e, h, _⟩ := p
  exact ⟨a, kvs, rfl, w.rd e, h⟩
theorem DicAt.own {d : Dic κ α} {k : Nat} {p : Addr} (ho : ω[k]? = some (Ent.own p (odic K d))) : DicAt K ω (adr p) d := fun G H v w e => by
  obtain ⟨o, eo, kvs, rfl, h, _⟩ := w.ownAt ho
  exact ⟨p, kvs, e, .inl eo, h⟩
theorem EvF.dnew {K : Frag} {Γ : Gm} {ω : List Ent} {κ : Type} [KpV κ] {α : Type} [Rp α] : EvF tDNewK Γ ω ω (odic K (Dic.mk [] : Dic κ α)) := fun σ G H Q r w q p hp => q p G _ (Le.refl _) (w.newOwn hp ⟨[], rfl, .nil, Nat.zero_le _⟩)
theorem EvX.dget' {d : Dic κ α} {k : κ} {x : α} (h : EvX ta Γ ω ω1 a) (hk : EvX tb Γ ω1 ω2 (is K k)) (hd : DicAt K ω2 a d) (e : d.get? k = some x) : EvX (tDGet ta tb) Γ ω ω2 (is K x) := fun σ G H Q r w q => h σ G H _ r w fun v G1 H1 s1 w1 p1 => hk σ G1 H1 _ (r.mono s1) w1 fun y G2 H2 s2 w2 p2 => by
  obtain ⟨p, kvs, rfl, hr, hv⟩ := hd G2 H2 v w2 (a.mono s2 p1)
  obtain ⟨o, ho, hm⟩ := dget_of hr hv p2
  rw [e] at hm
  obtain ⟨u, rfl, hu⟩ := hm
  exact ⟨p, u, rfl, ho, q u G2 H2 (s1.trans s2) w2 hu⟩
theorem EvX.din' {d : Dic κ α} {k : κ} (hk : EvX tb Γ ω ω1 (is K k)) (h : EvX ta Γ ω1 ω2 a) (hd : DicAt K ω2 a d) : EvX (tDIn tb ta) Γ ω ω2 (is K (d.has k)) := fun σ G H Q r w q => hk σ G H _ r w fun y G1 H1 s1 w1 p1 => h σ G1 H1 _ (r.mono s1) w1 fun v G2 H2 s2 w2 p2 => by
  obtain ⟨p, kvs, rfl, hr, hv⟩ := hd G2 H2 v w2 p2
  obtain ⟨o, ho, hm⟩ := dget_of (k := k) hr hv ((is K k).mono s2 p1)
  refine ⟨p, o, rfl, ho, q _ G2 H2 (s1.trans s2) w2 ?_⟩
  show V.bl _ = V.bl _
  unfold Dic.has
  cases e : d.get? k with
  | none =>
    rw [e] at hm
    rw [hm]
    rfl
  | some x =>
    rw [e] at hm
    obtain ⟨u, rfl, _⟩ := hm
    rfl
theorem EvX.dni' {d : Dic κ α} {k : κ} (hk : EvX tb Γ ω ω1 (is K k)) (h : EvX ta Γ ω1 ω2 a) (hd : DicAt K ω2 a d) : EvX (tDNotIn tb ta) Γ ω ω2 (is K (!d.has k)) := fun σ G H Q r w q => hk σ G H _ r w fun y G1 H1 s1 w1 p1 => h σ G1 H1 _ (r.mono s1) w1 fun v G2 H2 s2 w2 p2 => by
  obtain ⟨p, kvs, rfl, hr, hv⟩ := hd G2 H2 v w2 p2
  obtain ⟨o, ho, hm⟩ := dget_of (k := k) hr hv ((is K k).mono s2 p1)
  refine ⟨p, o, rfl, ho, q _ G2 H2 (s1.trans s2) w2 ?_⟩
  show V.bl _ = V.bl _
  unfold Dic.has
  cases e : d.get? k with
  | none =>
    rw [e] at hm
    rw [hm]
    rfl
  | some x =>
    rw [e] at hm
    obtain ⟨u, rfl, _⟩ := hm
    rfl
theorem isD_of {H : Hp} {p : Addr} {kvs : List (Key × V)} (h : Rd H p (.dK kvs)) : IsD H p := .inl ⟨kvs, h⟩
theorem EvX.dget2' {d : Dic κ α} {k : κ} {z : α} (h : EvX ta Γ ω ω1 a) (hk : EvX tb Γ ω1 ω2 (is K k)) (hz : EvX tc Γ ω2 ω3 (is K z)) (hd1 : DicAt K ω1 a d) (hd : DicAt K ω3 a d) : EvX (tDGet2 ta tb tc) Γ ω ω3 (is K ((d.get? k).getD z)) := fun σ G H Q r w q => h σ G H _ r w fun v G1 H1 s1 w1 p1 => by
  obtain ⟨p, kvs, rfl, hr, hv⟩ := hd1 G1 H1 v w1 p1
  refine ⟨p, rfl, isD_of hr, hk σ G1 H1 _ (r.mono s1) w1 fun y G2 H2 s2 w2 p2 => hz σ G2 H2 _ (r.mono (s1.trans s2)) w2 fun u G3 H3 s3 w3 p3 => ?_⟩
  obtain ⟨p', kvs, e, hr, hv⟩ := hd G3 H3 (.ref p) w3 (a.mono (s2.trans s3) p1)
  cases e
  obtain ⟨o, ho, hm⟩ := dget_of (k := k) hr hv ((is K k).mono s3 p2)
  refine ⟨o, ho, q _ G3 H3 (s1.trans (s2.trans s3)) w3 ?_⟩
  cases e : d.get? k with
  | none =>
    rw [e] at hm
    rw [hm]
    exact p3
  | some x =>
    rw [e] at hm
    obtain ⟨t, rfl, ht⟩ := hm
    exact ht
theorem EvX.dgetN' {α : Type} [n : NN α] {d : Dic κ α} {k : κ} (h : EvX ta Γ ω ω1 a) (hk : EvX tb Γ ω1 ω2 (is K k)) (hd1 : DicAt K ω1 a d) (hd : DicAt K ω2 a d) : EvX (tDGet2 ta tb (tC .non)) Γ ω ω2 (is K (d.get? k)) := fun σ G H Q r w q => h σ G H _ r w fun v G1 H1 s1 w1 p1 => by
  obtain ⟨p, kvs, rfl, hr, hv⟩ := hd1 G1 H1 v w1 p1
  refine ⟨p, rfl, isD_of hr, hk σ G1 H1 _ (r.mono s1) w1 fun y G2 H2 s2 w2 p2 => ?_⟩
  obtain ⟨p', kvs, e, hr, hv⟩ := hd G2 H2 (.ref p) w2 (a.mono s2 p1)
  cases e
  obtain ⟨o, ho, hm⟩ := dget_of (k := k) hr hv p2
  refine ⟨o, ho, q _ G2 H2 (s1.trans s2) w2 ?_⟩
  cases e : d.get? k with
  | none =>
    rw [e] at hm
    rw [hm]
    rfl
  | some x =>
    rw [e] at hm
    obtain ⟨t, rfl, ht⟩ := hm
    exact ⟨ht, n.nn ht⟩
theorem any_of {G : Hp} {k : κ} {kvs : List (Key × V)} {l : List (κ × α)} (h : AllD K G kvs l) : (kvs.any fun kv => decide (kv.1 = Kp.key k)) = l.any fun p => decide (p.1 = k) := by
  induction h with
  | nil => rfl
  | @cons kv p _ _ r t ih =>
    rw [List.any_cons, List.any_cons, ih]
    congr 1
    exact decide_eq_decide.mpr ⟨fun z => Kp.inj (r.1.symm.trans z), fun z => by rw [r.1, z]⟩
theorem putM_of {G : Hp} {k : κ} {x : α} {v : V} (hv : Rp.rep K G v x) {kvs : List (Key × V)} {l : List (κ × α)} (h : AllD K G kvs l) : AllD K G (kvs.map fun kv => if kv.1 = Kp.key k then (kv.1, v) else kv) (l.map fun p => if p.1 = k then (p.1, x) else p) := by
  induction h with
  | nil => exact .nil
  | @cons kv p _ _ r t ih =>
    refine .cons ?_ ih
    show (if kv.1 = Kp.key k then (kv.1, v) else kv).1 = Kp.key (if p.1 = k then (p.1, x) else p).1 ∧ Rp.rep K G (if kv.1 = Kp.key k then (kv.1, v) else kv).2 (if p.1 = k then (p.1, x) else p).2
    by_cases e : p.1 = k
    · rw [if_pos e, if_pos (by rw [r.1, e])]
      exact ⟨r.1, hv⟩
    · rw [if_neg e, if_neg (fun z => e (Kp.inj (r.1.symm.trans z)))]
      exact r
theorem putK_of {G : Hp} {k : κ} {x : α} {v : V} (hv : Rp.rep K G v x) {kvs : List (Key × V)} {l : List (κ × α)} (h : AllD K G kvs l) : AllD K G (putK kvs (Kp.key k) v) (putL l k x) := by
  unfold putK putL
  rw [any_of h]
  split
  · exact putM_of hv h
  · exact Paired.app' h (.cons ⟨rfl, hv⟩ .nil)
theorem putL_len (l : List (κ × α)) (k : κ) (x : α) : (putL l k x).length ≤ l.length + 1 := by
  unfold putL
  split
  · rw [List.length_map]
    omega
  · rw [List.length_append]
    exact Nat.le_refl _
theorem Go.dput {d d' : Dic κ α} {i : κ} {y : α} {to ti : TE} {p : Addr} {k : Nat} {x : Res X} (h : EvX te Γ ω ω1 (is K y)) (ht : EvX to Γ ω1 ω1 (adr p)) (hi : EvX ti Γ ω1 ω1 (is K i)) (ho : ω1[k]? = some (Ent.own p (odic K d))) (e : d.put i y = some d') (hk : Go u Γ (ω1.set k (.own p (odic K d'))) Z x) :
    Go (tSeq (sDPut to ti te) u) Γ ω Z x := fun σ G H D rp w z => h σ G H _ rp w fun v G1 H1 s1 w1 p1 => ht σ G1 H1 _ (rp.mono s1) w1 fun v2 G2 H2 s2 w2 p2 => hi σ G2 H2 _ (rp.mono (s1.trans s2)) w2 fun v3 G3 H3 s3 w3 p3 => by
  cases p2
  obtain ⟨o, eo, kvs, rfl, hv, l⟩ := w3.ownAt ho
  unfold Dic.put at e
  split at e
  · rename_i c
    cases e
    have s := s1.trans (s2.trans s3)
    refine ⟨p, _, rfl, .inl ⟨kvs, Kp.key i, eo, KpV.kv p3, by rw [Paired.len hv]; exact c, rfl⟩, ?_⟩
    refine hk σ G3 _ D (rp.mono s) (w3.put ho ⟨_, rfl, putK_of ((is K y).mono (s2.trans s3) p1) hv, ?_⟩) (Z.mono s z)
    exact Nat.le_trans (putL_len _ _ _) c
  · cases e
end
end
end Lf
namespace Lf
open PySem PySem.Spec PyProof.Rows L2
theorem paired_cons {G : Hp} {f : Str} {m : MP} {ms : List (Str × MP)} {fs : List (Str × V)} (h : Paired (fun (f : Str × V) (m : Str × MP) => f.1 = m.1 ∧ m.2.p G f.2) fs ((f, m) :: ms)) : ∃ x fs', fs = (f, x) :: fs' ∧ m.p G x ∧ Paired (fun (f : Str × V) (m : Str × MP) => f.1 = m.1 ∧ m.2.p G f.2) fs' ms := by
  cases h with
  | @cons a b l1 l2 r t =>
    obtain ⟨g, x⟩ := a
    have e : g = f := r.1
    subst e
    exact ⟨x, _, rfl, r.2, t⟩
/-! isinstance -/

def eqv (v : V) : MP := ⟨fun _ u => u = v, fun _ h => h⟩
theorem EvX.c {v : V} {Γ : Gm} {ω : List Ent} : EvX (tC v) Γ ω ω (eqv v) := fun σ G H Q r w q => q v G H (Le.refl _) w rfl
class PyT (α : Type) extends Rp α where
  t : String
  ty : ∀ {K : PySem.W.Frag} {G H : Hp} {ω : List Ent} {v : V} {x : α}, At G ω H → Rp.rep K G v x → TyX K H v (.type t)
instance : PyT Int := { t := "int", ty := fun _ h => by cases h; exact .base (.int _) }
instance : PyT Bool := { t := "bool", ty := fun _ h => by cases h; exact .base (.bl _) }
instance : PyT Str := { t := "str", ty := fun _ h => by cases h; exact .base (.str _) }
instance {α : Type} [Rp α] : PyT (List α) := { t := "list", ty := fun w ⟨a, vs, e, h, _⟩ => by subst e; exact .base (.lst (w.lst h)) }
instance {α : Type} [Rp α] : PyT (Tu α) := { t := "tuple", ty := fun w ⟨a, vs, e, h, _⟩ => by subst e; exact .base (.tup (w.tup h)) }
theorem CaX.isi {K : PySem.W.Frag} {ω : List Ent} {α : Type} [p : PyT α] {x : α} {c : V} {u : Value} {b : Bool} (hc : ClsV c u) (e : PySem.W.kitOne K (.type p.t) u = some b) : CaX (rIsi K) ω ω [is K x, eqv c] (is K b) := fun G H vs Q w pa q => by
  obtain ⟨v, v', rfl, h, rfl⟩ := PArgs.two pa
  exact ⟨v, _, _, _, b, rfl, hc, p.ty w h, e, q _ G H (Le.refl _) w rfl⟩
end Lf
namespace RC
open PySem PySem.Spec PyProof.Rows L2
/-! ### min of a list of data -/
section
variable {X : Cx}
def rMinD (K : PySem.W.Frag) : List V → Hp → VK → Prop := fun vs H Q => ∃ (a : Addr) (xs : List V) (d : PyData) (ds : List PyData), vs = [.ref a] ∧ SqL K H a xs ∧ DpAll K H xs (d :: ds) ∧ PySem.W.AlikeAll (d :: ds) ∧ PyData.depthAll (d :: ds) ≤ 40 ∧
  ∀ (i : Nat) v, xs[i]? = some v → (d :: ds)[i]? = some (PySem.W.minD d ds) → Q v H
theorem vals_at : ∀ {xs : List V} {us : List Value} {i : Nat} {u : Value}, Vals xs us → us[i]? = some u → ∃ x, xs[i]? = some x ∧ RelV x u
  | _, _, _, _, .nil, h => by simp at h
  | _, _, 0, _, .cons (a := x) r rs, h => by
    have e := Option.some.inj (show some _ = some _ from h)
    subst e
    exact ⟨x, rfl, r⟩
  | _, _, i + 1, _, .cons r rs, h => by
    obtain ⟨x, a, b⟩ := vals_at (i := i) rs (by simpa using h)
    exact ⟨x, by simpa using a, b⟩
theorem cr_minLL (hc : X.calm = true) (hr : Room 1 X.A) : CallR X (.builtin "min") (rMinD X.K) := by
  intro pins s σ H vs us Q I r h
  obtain ⟨a, xs, d, ds, rfl, hs, hd, al, dep, q⟩ := h
  obtain ⟨its, rv, hl, _⟩ := I.list hs
  rw [Vals.ref1 r]
  obtain ⟨as, hr0⟩ := Dp.readsAll I (d :: ds) xs its hd rv
  have hr' : ReadsAll s.heap its.toArray.toList (d :: ds) as := by rw [List.toList_toArray]; exact hr0
  have hu := hr.units
  have hn : its.toArray.size = ds.length + 1 := PySem.W.readsAll_len hr'
  have hh : X.A.handled = none := I.ok.hd hc
  refine call_min_walkH (PySem.W.iter_listW (A := X.A.in1) hh hl.isList fun s₂ e W st hfp hw hk => ?_)
  refine ⟨_, _, _, _, _, _, _, s.heap, _, rfl, W, st, hfp, by omega, hw, hk, PySem.W.cmpIn_lt (A := X.A.in1) hr' al (by show X.A.units + 1 + _ < _; omega), fun v s' hP m => ?_⟩
  obtain ⟨h', tk, rfl, hk'⟩ := PySem.W.moved_old e rfl m
  obtain ⟨bs, r2, hi, _, _⟩ := PySem.W.readsAll_atA hr' _ v hP
  have e1 : its.toArray.size - 1 = ds.length := by omega
  have e2 := (PySem.W.argBest_fold PySem.W.dataLt PyData.none d ds ds.length (Nat.le_refl _)).2
  rw [List.take_length] at e2
  have hv : its[argBest (fun i j => PySem.W.dataLt ((d :: ds).getD i .none) ((d :: ds).getD j .none)) (its.toArray.size - 1)]? = some v := by
    have := hP
    simpa using this
  obtain ⟨x, hx, rx⟩ := vals_at rv hv
  refine ⟨x, H, I.kept hk', rx, q _ x hx ?_⟩
  have e3 : (d :: ds).getD (argBest (fun i j => PySem.W.dataLt ((d :: ds).getD i .none) ((d :: ds).getD j .none)) (its.toArray.size - 1)) .none = PySem.W.minD d ds := by
    rw [e1]
    exact e2
  rw [List.getD_eq_getElem?_getD, List.getElem?_eq_getElem hi] at e3
  rw [List.getElem?_eq_getElem hi]
  exact congrArg some e3
end
end RC
/-! ## Readings told by plain data: walks over dicts, orders, texts of data -/
namespace Lf
open PySem PySem.Spec PyProof.Rows L2
open PySem.W (Frag)
open He (ga)
section
variable {X : Cx} {e : Expr} {td : TE}
/-- a dict is locked as soon as it has come (and stays so) -/
def tLockV (td : TE) : TE := fun σ H Q => td σ H fun x H1 => ∃ d, x = .ref d ∧ ((∃ u, H1 d = some u ∧ LockD u ∧ ∀ od, Q x (upd H1 d (.frz od u))) ∨ ∃ od u, H1 d = some (.frz od u) ∧ Q x H1)
theorem pe_lockV (he : PE X e td) : PE X e (tLockV td) := by
  refine ⟨fun pins s σ H Q I h => wpAny_mono (he.run pins s σ H _ I h) (fun v s1 hv => ?_) fun _ _ z => z⟩
  obtain ⟨x, H1, I1, rx, d, ex, q⟩ := hv
  rcases q with ⟨u, hu, lu, q⟩ | ⟨od, u, hu, q⟩
  · have mu : Mut (some u) := by
      cases u <;> first | exact trivial | exact lu.elim
    obtain ⟨od, I2⟩ := I1.lock hu mu
    exact ⟨x, _, I2, rx, q od⟩
  · exact ⟨x, H1, I1, rx, q⟩
end
section
variable {K : Frag} {W : WX} {E : XK} {ωe : List Ent} {X R S T : Type} {Γ Γ' : Gm} {ω ω1 ω2 ω3 : List Ent} {Z : ZF K W ωe X} {t u ts : TS} {te ta tb tc : TE} {tt uu : TT} {a b m : MP} {fr : R → RS} {fn : S → Gm × List Ent} {φ : OC} {sp : Sp} {tA : TA} {ms : List MP} {fo : R → RS} {α β : Type} [Rp α] [Rp β]
section
variable {κ : Type} [kp : KpV κ]
theorem lockV {d : Dic κ α} {σ : L2.St} {G H : Hp} {R : V → Hp → Prop} (h : EvX te Γ ω ω1 (is K d)) (r : Reps G σ Γ) (w : At G ω H)
    (q : ∀ (p : Addr) (od : Obj) (kvs : List (Key × V)) (G2 H2 : Hp), Le G G2 → At G2 ω1 H2 → G2 p = some (.frz od (.dK kvs)) → AllD K G2 kvs d.l → d.l.length ≤ sizeLine → R (.ref p) H2) : tLockV te σ H R := h σ G H _ r w fun v G1 H1 s1 w1 p1 => by
  obtain ⟨p, kvs, rfl, e, hv, l⟩ := p1
  rcases e with e | ⟨od, e⟩
  · refine ⟨p, rfl, .inl ⟨_, w1.get e, trivial, fun od => ?_⟩⟩
    obtain ⟨w2, s2⟩ := w1.lock (od := od) e trivial
    exact q p od kvs _ _ (s1.trans s2) w2 upd_same (AllD.mono s2 hv) l
  · exact ⟨p, rfl, .inr ⟨od, _, w1.get e, q p od kvs G1 H1 s1 w1 e hv l⟩⟩
theorem allD_at {G : Hp} {kvs : List (Key × V)} {l : List (κ × α)} (h : AllD K G kvs l) {i : Nat} {x : κ × α} (e : l[i]? = some x) : ∃ v, kvs[i]? = some (Kp.key x.1, v) ∧ Rp.rep K G v x.2 := by
  obtain ⟨kv, ek, r1, r2⟩ := Paired.at_ h e
  exact ⟨kv.2, by rw [ek, ← r1], r2⟩
theorem IterX.keys {d : Dic κ α} (h : EvX te Γ ω ω1 (is K d)) : IterX K (iKeys (tLockV te)) Γ ω ω1 Any (d.l.map (·.1)) := fun σ G H R r w q => by
  refine lockV h r w fun p od kvs G2 H2 s2 w2 e hv l => ⟨p, od, rfl, .inl ⟨kvs, w2.get e, q _ G2 H2 s2 w2 ⟨by rw [List.length_map]; exact l, fun G ω H i s w _ hi => ⟨w.get (s.at e), by rw [List.length_map, ← Paired.len hv] at hi; exact hi⟩, fun G ω H s w _ => ⟨w.get (s.at e), by rw [List.length_map, Paired.len hv]; exact Nat.le_refl _⟩, fun G ω H i x H' k s w _ hk y => ?_⟩⟩⟩
  obtain ⟨rfl, k', v', ek, rfl⟩ := y
  rw [List.getElem?_map] at hk
  cases z : d.l[i]? with
  | none =>
    rw [z] at hk
    cases hk
  | some kx =>
    rw [z] at hk
    cases hk
    obtain ⟨v, ev, _⟩ := allD_at hv z
    rw [ev] at ek
    cases ek
    exact ⟨G, Le.refl _, w, kp.rp⟩
theorem IterX.keysM {d : Dic κ α} (h : EvX te Γ ω ω1 (is K d)) : IterX K (iKeysM (tLockV te)) Γ ω ω1 Any (d.l.map (·.1)) := fun σ G H R r w q => by
  refine lockV h r w fun p od kvs G2 H2 s2 w2 e hv l => ⟨p, od, kvs, rfl, w2.get e, q _ G2 H2 s2 w2 ⟨by rw [List.length_map]; exact l, fun G ω H i s w _ hi => ⟨w.get (s.at e), by rw [List.length_map, ← Paired.len hv] at hi; exact hi⟩, fun G ω H s w _ => ⟨w.get (s.at e), by rw [List.length_map, Paired.len hv]; exact Nat.le_refl _⟩, fun G ω H i x H' k s w _ hk y => ?_⟩⟩
  obtain ⟨rfl, k', v', ek, rfl⟩ := y
  rw [List.getElem?_map] at hk
  cases z : d.l[i]? with
  | none =>
    rw [z] at hk
    cases hk
  | some kx =>
    rw [z] at hk
    cases hk
    obtain ⟨v, ev, _⟩ := allD_at hv z
    rw [ev] at ek
    cases ek
    exact ⟨G, Le.refl _, w, kp.rp⟩
theorem IterX.vals {d : Dic κ α} (h : EvX te Γ ω ω1 (is K d)) : IterX K (iVals (tLockV te)) Γ ω ω1 Any (d.l.map (·.2)) := fun σ G H R r w q => by
  refine lockV h r w fun p od kvs G2 H2 s2 w2 e hv l => ⟨p, od, kvs, rfl, w2.get e, q _ G2 H2 s2 w2 ⟨by rw [List.length_map]; exact l, fun G ω H i s w _ hi => ⟨w.get (s.at e), by rw [List.length_map, ← Paired.len hv] at hi; exact hi⟩, fun G ω H s w _ => ⟨w.get (s.at e), by rw [List.length_map, Paired.len hv]; exact Nat.le_refl _⟩, fun G ω H i x H' k s w _ hk y => ?_⟩⟩
  obtain ⟨rfl, k', ek⟩ := y
  rw [List.getElem?_map] at hk
  cases z : d.l[i]? with
  | none =>
    rw [z] at hk
    cases hk
  | some kx =>
    rw [z] at hk
    cases hk
    obtain ⟨v, ev, pv⟩ := allD_at hv z
    rw [ev] at ek
    cases ek
    exact ⟨G, Le.refl _, w, Rp.mono s pv⟩
theorem IterX.items {d : Dic κ α} (h : EvX te Γ ω ω1 (is K d)) : IterX K (iItems (tLockV te)) Γ ω ω1 Any d.l := fun σ G H R r w q => by
  refine lockV h r w fun p od kvs G2 H2 s2 w2 e hv l => ⟨p, od, kvs, rfl, w2.get e, q _ G2 H2 s2 w2 ⟨l, fun G ω H i s w _ hi => ⟨w.get (s.at e), by rw [← Paired.len hv] at hi; exact hi⟩, fun G ω H s w _ => ⟨w.get (s.at e), by rw [Paired.len hv]; exact Nat.le_refl _⟩, fun G ω H i x H' k s w _ hk y => ?_⟩⟩
  obtain ⟨t, k', v', ek, rfl, nt, rfl⟩ := y
  obtain ⟨v, ev, pv⟩ := allD_at hv hk
  have ee := Prod.mk.inj (Option.some.inj (ev.symm.trans ek))
  obtain ⟨w2, s2⟩ := w.new (o := .tup [kV k', v']) nt
  rw [← ee.1, ← ee.2] at w2 s2 ⊢
  exact ⟨_, s2, w2, t, _, _, rfl, upd_same, kp.rp, Rp.mono (s.trans s2) pv⟩
end
/-! two at once, the second new -/
theorem Go.parF {i j : Nat} {x : Res X} (ha : EvX ta Γ ω ω1 a) (hb : EvF tb Γ ω1 ω2 φ) (k : ∀ p, Go u ((Γ.set i (some a)).set j (some (adr p))) (.own p φ :: ω2) Z x) : Go (tSeq (tPar i j (tCons ta (tCons tb tNil))) u) Γ ω Z x := fun σ G H D rp w z => ha σ G H _ rp w fun v G1 H1 s1 w1 p1 => hb σ G1 H1 _ (rp.mono s1) w1 fun p G2 H2 s2 w2 =>
  ⟨v, .ref p, rfl, k p _ G2 H2 D (((rp.mono (s1.trans s2)).set (a.mono s2 p1)).set (m := adr p) rfl) w2 (Z.mono (s1.trans s2) z)⟩
/-- the first new, the second a value -/
theorem Go.parF1 {i j : Nat} {x : Res X} (ha : EvF ta Γ ω ω1 φ) (hb : ∀ p, EvX tb Γ (.own p φ :: ω1) (.own p φ :: ω1) b) (k : ∀ p, Go u ((Γ.set i (some (adr p))).set j (some b)) (.own p φ :: ω1) Z x) : Go (tSeq (tPar i j (tCons ta (tCons tb tNil))) u) Γ ω Z x := fun σ G H D rp w z => ha σ G H _ rp w fun p G1 H1 s1 w1 => hb p σ G1 H1 _ (rp.mono s1) w1 fun v G2 H2 s2 w2 p2 =>
  ⟨.ref p, v, rfl, k p _ G2 H2 D (((rp.mono (s1.trans s2)).set (m := adr p) rfl).set p2) w2 (Z.mono (s1.trans s2) z)⟩
/-! one's own list, of which nothing more is told -/
def ojunk : OC := ⟨fun _ o => ∃ vs, o = .lst vs, fun _ h => h, fun ⟨_, e⟩ => e ▸ fun z => z⟩
def more {α : Type} (xs : List α) : Option Unit := if xs.length < sizeLine then some () else none
theorem Go.appJ {xs : List α} {y : Unit} {to : TE} {p : Addr} {k : Nat} {x : Res X} (ht : EvX to Γ ω ω (adr p)) (h : EvX te Γ ω ω1 m) (h0 : ∃ zs : List α, ω[k]? = some (Ent.own p (olst K zs))) (ho : ω1[k]? = some (Ent.own p (olst K xs))) (e : more xs = some y) (hk : Go u Γ (ω1.set k (.own p ojunk)) Z x) :
    Go (tSeq (tDrop (tBM K "list" rAppend to (tCons te tNil))) u) Γ ω Z x := fun σ G H D rp w z => ht σ G H _ rp w fun v G1 H1 s1 w1 p1 => by
  cases p1
  obtain ⟨zs, h0⟩ := h0
  obtain ⟨o, eo, us, rfl, _, _⟩ := w1.ownAt h0
  refine ⟨RC.ty_l eo, h σ G1 H1 _ (rp.mono s1) w1 fun v G2 H2 s2 w2 p2 => ?_⟩
  obtain ⟨o, eo, us, rfl, hu, _⟩ := w2.ownAt ho
  unfold more at e
  split at e
  · rename_i c
    refine ⟨p, us, v, rfl, rfl, eo, by rw [Paired.len hu]; exact c, ?_⟩
    exact hk σ G2 _ D (rp.mono (s1.trans s2)) (w2.put ho ⟨_, rfl⟩) (Z.mono (s1.trans s2) z)
  · cases e
/-! a value that is not None -/
theorem EvX.unopt {x : Option α} {y : α} (h : EvX te Γ ω ω1 (is K x)) (e : x = some y) : EvX te Γ ω ω1 (is K y) := h.as fun _ _ p => by
  subst e
  exact p.1
/-! order of pairs of ints -/
def ltP (x y : Int × Int) : Bool := HT.lexLt [x.1, x.2] [y.1, y.2]
theorem OpX.ltP {x y : Int × Int} : OpX (rLtT K) ω ω (is K x) (is K y) (is K (Lf.ltP x y)) := fun G H u v Q w p1 p2 q => by
  obtain ⟨a, u1, u2, rfl, ea, h1, h2⟩ := p1
  obtain ⟨b, v1, v2, rfl, eb, g1, g2⟩ := p2
  cases h1
  cases h2
  cases g1
  cases g2
  exact ⟨a, b, [x.1, x.2], [y.1, y.2], rfl, rfl, RC.st_of (w.tup ea), RC.st_of (w.tup eb), q _ G H (Le.refl _) w rfl⟩
/-! the least of a list of data -/
class Ord1 (α : Type) extends Dat α where
  alike : ∀ xs : List α, PySem.W.AlikeAll (xs.map d)
def leastD {α : Type} [t : Ord1 α] (x : α) (xs : List α) : α := xs.foldl (fun a y => if PySem.W.dataLt (t.d y) (t.d a) then y else a) x
def minL {α : Type} [Ord1 α] : List α → Option α
  | [] => none
  | x :: xs => some (leastD x xs)
theorem minD_of {α : Type} [t : Ord1 α] : ∀ (xs : List α) (x : α), PySem.W.minD (t.d x) (xs.map t.d) = t.d (leastD x xs)
  | [], x => rfl
  | y :: xs, x => by
    have ih := minD_of xs (if PySem.W.dataLt (t.d y) (t.d x) then y else x)
    unfold PySem.W.minD at ih ⊢
    rw [List.map_cons, List.foldl_cons]
    show List.foldl _ (if PySem.W.dataLt (t.d y) (t.d x) = true then t.d y else t.d x) _ = _
    have e : (if PySem.W.dataLt (t.d y) (t.d x) = true then t.d y else t.d x) = t.d (if PySem.W.dataLt (t.d y) (t.d x) then y else x) := by split <;> rfl
    rw [e]
    exact ih
theorem d_inj {α : Type} [t : Dat α] {x y : α} (h : t.d x = t.d y) : x = y := by
  have e := t.eqv x y
  rw [h, t.eqv y y] at e
  letI := t.dec
  have e2 : decide (x = y) = true := by
    rw [← e]
    exact decide_eq_true rfl
  exact of_decide_eq_true e2
theorem CaX.minD {α : Type} [t : Ord1 α] {xs : List α} {y : α} (h : minL xs = some y) (hd : t.deep ≤ 40) : CaX (RC.rMinD K) ω ω [is K xs] (is K y) := fun G H vs Q w p q => by
  obtain ⟨v, rfl, a, us, rfl, e, ha, l⟩ := PArgs.one p
  cases xs with
  | nil => cases h
  | cons x xs =>
    cases h
    have hp := dpa w ha
    refine ⟨a, us, t.d x, xs.map t.d, rfl, RC.sq_of (w.lst e), hp, t.alike (x :: xs), Nat.le_trans (depAll (x :: xs)) hd, fun i v hv hi => ?_⟩
    rw [minD_of] at hi
    have hi' : ((x :: xs).map t.d)[i]? = some (t.d (leastD x xs)) := hi
    rw [List.getElem?_map] at hi'
    cases z : (x :: xs)[i]? with
    | none =>
      rw [z] at hi'
      cases hi'
    | some y =>
      rw [z] at hi'
      have ey : y = leastD x xs := d_inj (Option.some.inj hi')
      obtain ⟨v', ev, pv⟩ := Paired.at_ ha z
      have e2 : v' = v := Option.some.inj (ev.symm.trans hv)
      rw [ey, e2] at pv
      exact q v G H (Le.refl _) w pv
instance : Ord1 (Int × Int) where
  alike xs := by
    constructor
    · intro x hx y hy
      obtain ⟨a, _, rfl⟩ := List.mem_map.mp hx
      obtain ⟨b, _, rfl⟩ := List.mem_map.mp hy
      simp [Dat.d, PySem.W.alike, PySem.W.alikeAll]
    · intro x hx e
      obtain ⟨a, _, rfl⟩ := List.mem_map.mp hx
      cases e
/-! repr of data -/
def shown {α : Type} [t : Dat α] (x : α) : Option Str := if (t.d x).showable = true ∧ (t.d x).shown.length ≤ sizeLine then some (t.d x).shown else none
theorem CaX.repr {α : Type} [t : Dat α] {x : α} {y : Str} (h : shown x = some y) (hd : t.deep ≤ 40) : CaX (RC.rReprD K) ω ω [is K x] (is K y) := fun G H vs Q w p q => by
  obtain ⟨v, rfl, e⟩ := PArgs.one p
  unfold shown at h
  split at h
  · rename_i c
    cases h
    exact ⟨v, t.d x, rfl, t.dp w e, c.1, t.lay x, Nat.le_trans (t.dep x) hd, c.2, q _ G H (Le.refl _) w rfl⟩
  · cases h
end
end Lf
namespace Lf
open PySem PySem.Spec PyProof.Rows L2
open PySem.W (Frag)
section
variable {K : Frag} {W : WX} {ωe : List Ent} {X : Type} {Γ : Gm} {ω ω1 : List Ent} {Z : ZF K W ωe X} {t u : TS} {tt : TT}
/-- a block that raises or is never reached -/
def zE (K : Frag) (W : WX) (ωe : List Ent) (X : Type) : ZF K W ωe X where
  z m D G := m ≠ .bad ∧ (∀ r, m ≠ .ok r) ∧ ∀ x, m = .err x → PostE K W ωe G x
  mono s h := ⟨h.1, h.2.1, fun x e => (h.2.2 x e).mono s⟩
  nobad h := h.1 rfl
  err h := h.2.2 _ rfl
theorem Go.ifX {c : Bool} {m1 m2 : Res X} (h : EvT tt Γ ω ω1 c) (h1 : c = true → Go t Γ ω1 (zE K W ωe X) m1) (hn : ∀ r, m1 ≠ .ok r) (h2 : c = false → Go u Γ ω1 Z m2) : Go (tSeq (tIfS tt t tNext) u) Γ ω Z (if c then m1 else m2) := fun σ G H D rp w z => h σ G H _ rp w fun G2 H2 s w2 => by
  have z2 := Z.mono s z
  cases c with
  | true =>
    have z3 : Z.z m1 D G2 := z2
    exact RC.if_t rfl (h1 rfl σ G2 H2 _ (rp.mono s) w2 ⟨fun e => Z.nobad (by rw [e] at z3; exact z3), hn, fun x e => Z.err (by rw [e] at z3; exact z3)⟩)
  | false => exact RC.if_f rfl (h2 rfl σ G2 H2 D (rp.mono s) w2 z2)
end
end Lf
namespace Lf
open PySem PySem.Spec PyProof.Rows L2
open PySem.W (Frag)
section
variable {K : Frag} {Γ : Gm} {ω ω1 ω2 ω3 : List Ent} {ta tb tc : TE} {α κ : Type} [Rp α] [KpV κ] [DecidableEq κ] {d : Dic κ α} {q : κ} {x z : α} {p : Addr} {k : Nat}
theorem EvX.dget (h : EvX ta Γ ω ω1 (is K d)) (hk : EvX tb Γ ω1 ω2 (is K q)) (e : d.get? q = some x) : EvX (tDGet ta tb) Γ ω ω2 (is K x) := EvX.dget' h hk DicAt.of e
theorem EvX.dgetO (h : EvX ta Γ ω ω1 (adr p)) (hk : EvX tb Γ ω1 ω2 (is K q)) (ho : ω2[k]? = some (Ent.own p (odic K d))) (e : d.get? q = some x) : EvX (tDGet ta tb) Γ ω ω2 (is K x) := EvX.dget' h hk (DicAt.own ho) e
theorem EvX.dget2 (h : EvX ta Γ ω ω1 (is K d)) (hk : EvX tb Γ ω1 ω2 (is K q)) (hz : EvX tc Γ ω2 ω3 (is K z)) : EvX (tDGet2 ta tb tc) Γ ω ω3 (is K ((d.get? q).getD z)) := EvX.dget2' h hk hz DicAt.of DicAt.of
theorem EvX.dget2O (h : EvX ta Γ ω ω1 (adr p)) (hk : EvX tb Γ ω1 ω2 (is K q)) (hz : EvX tc Γ ω2 ω3 (is K z)) (ho1 : ω1[k]? = some (Ent.own p (odic K d))) (ho : ω3[k]? = some (Ent.own p (odic K d))) : EvX (tDGet2 ta tb tc) Γ ω ω3 (is K ((d.get? q).getD z)) := EvX.dget2' h hk hz (DicAt.own ho1) (DicAt.own ho)
theorem EvX.din (hk : EvX tb Γ ω ω1 (is K q)) (h : EvX ta Γ ω1 ω2 (is K d)) : EvX (tDIn tb ta) Γ ω ω2 (is K (d.has q)) := EvX.din' hk h DicAt.of
theorem EvX.dni (hk : EvX tb Γ ω ω1 (is K q)) (h : EvX ta Γ ω1 ω2 (is K d)) : EvX (tDNotIn tb ta) Γ ω ω2 (is K (!d.has q)) := EvX.dni' hk h DicAt.of
theorem EvX.dinO (hk : EvX tb Γ ω ω1 (is K q)) (h : EvX ta Γ ω1 ω2 (adr p)) (ho : ω2[k]? = some (Ent.own p (odic K d))) : EvX (tDIn tb ta) Γ ω ω2 (is K (d.has q)) := EvX.din' hk h (DicAt.own ho)
theorem EvX.dniO (hk : EvX tb Γ ω ω1 (is K q)) (h : EvX ta Γ ω1 ω2 (adr p)) (ho : ω2[k]? = some (Ent.own p (odic K d))) : EvX (tDNotIn tb ta) Γ ω ω2 (is K (!d.has q)) := EvX.dni' hk h (DicAt.own ho)
end
section
variable {K : Frag} {Γ : Gm} {ω ω1 ω2 : List Ent} {ta tb : TE} {α κ : Type} [NN α] [KpV κ] [DecidableEq κ] {d : Dic κ α} {q : κ} {p : Addr} {k : Nat}
theorem EvX.dgetN (h : EvX ta Γ ω ω1 (is K d)) (hk : EvX tb Γ ω1 ω2 (is K q)) : EvX (tDGet2 ta tb (tC .non)) Γ ω ω2 (is K (d.get? q)) := EvX.dgetN' h hk DicAt.of DicAt.of
theorem EvX.dgetNO (h : EvX ta Γ ω ω1 (adr p)) (hk : EvX tb Γ ω1 ω2 (is K q)) (ho1 : ω1[k]? = some (Ent.own p (odic K d))) (ho : ω2[k]? = some (Ent.own p (odic K d))) : EvX (tDGet2 ta tb (tC .non)) Γ ω ω2 (is K (d.get? q)) := EvX.dgetN' h hk (DicAt.own ho1) (DicAt.own ho)
end
end Lf
/-! ## set(xs) of a list of ints; sorted of a set of ints, however many -/
namespace SetL
open PySem PySem.Spec PyProof.Rows L2
/-- the set as it is first laid -/
def bare (w : World) : Obj := { cls := .type "set", dict := none, data := .set #[] 0 (.fresh 0 0 (!w.params.followText "set-order")) }
section
variable {P : Program} {w : World} {A : Around} {E : Value → Shared → Prop} {s : Shared}
theorem bare_set {h : Heap} (e : h.get? h.objs.size = none) : (h.push (bare w)).get? h.objs.size = some (bare w) := Heap.get?_push_size _ rfl
theorem bare_is {h : Heap} {a : Addr} {ns : List Int} (e : h.get? a = some (bare w)) : SetR w h a (fun j => decide (j ∈ ns.take 0)) 0 := setR_new_at e
/-- old objects are not among the two new ones -/
theorem old_ne {h : Heap} {b : Addr} {o u : Obj} (e : h.get? b = some o) : b ∉ [h.objs.size, (h.push u).objs.size] := by
  have lt := Heap.lt_size e
  rw [Heap.size_push]
  intro m
  rcases List.mem_cons.mp m with z | m
  · exact Nat.ne_of_lt lt z
  · exact Nat.ne_of_lt (Nat.lt_succ_of_lt lt) (List.mem_singleton.mp m)
set_option maxRecDepth 100000 in
set_option maxHeartbeats 3200000 in
/-- what set(l) leaves: the members are those of the list -/
theorem made {l : Addr} {xs : Array Value} {ns : List Int} {Q : Value → Shared → Prop} (calm : A.handled = none) (hl : s.heap.IsList l xs) (hi : IntsAre xs.toList ns) (few : ns.length + 1 < scanBound)
    (q : ∀ (g : Heap) (tk c : Nat), SetR w g s.heap.objs.size (fun j => decide (j ∈ ns)) c → c ≤ ns.length → (∀ b o, s.heap.get? b = some o → g.get? b = some o) → Q (.ref s.heap.objs.size) { s with heap := g, toks := tk }) :
    wpAny (model P w) A (call (.type "set") [.ref l]) Q E s := by
  have size : xs.size = ns.length := by simpa using IntsAre.length hi
  obtain ⟨_, _, m1⟩ := F.called_set.mro
  have m2 := F.called_set.made
  have m3 := F.called_set.sub
  have m4 := F.called_set.notType
  have m5 := F.called_set.canCreate
  have m6 := F.typeCall_set_1 (.ref l)
  have m7 := F.called_set.init.lookup
  refine wpAny_call (codeAny_of_tree ?_)
  show wpAny (model P w) _ (callAny (.type "set") ⟨[.ref l], []⟩) _ _ s
  refine wpAny_pure ⟨Code.quiet_builtin _ (by decide +kernel), codeAny_builtin F.entry_type_call ?_⟩
  rw [Around.under_plain (weight_type_call_type "set" [.ref l] []) rfl]
  repeat any_goals first | wp_step | assumption
  refine codeAny_mono (code_set_led1 (.ref l) (E := E) (Q₁ := fun v t => v = .ref s.heap.objs.size ∧ t = { s with heap := s.heap.push (bare w) }) ⟨rfl, rfl⟩) fun r t hr => ?_
  match r, hr with
  | .error _, hr => exact hr
  | .ok (.ret _), ⟨e1, e2⟩ =>
    subst e1 e2
    have at0 : (s.heap.push (bare w)).get? s.heap.objs.size = some (bare w) := Heap.get?_push_size _ rfl
    have ty0 : Shared.TypeIs { s with heap := s.heap.push (bare w) } (.ref s.heap.objs.size) "set" := ⟨_, at0, rfl⟩
    have m8 := F.called_set.init.bind (.ref s.heap.objs.size)
    repeat any_goals first | wp_step | assumption
    refine codeAny_mono (codeAny_call_builtin (R := wants (fun v t => v = .none ∧ ∃ g tk c, t = { s with heap := g, toks := tk } ∧ SetR w g s.heap.objs.size (fun j => decide (j ∈ ns)) c ∧ c ≤ ns.length ∧ ∀ b o, s.heap.get? b = some o → g.get? b = some o) E) F.called_set.init.plain F.entry_set_init (check_set_init_1 ty0 ?_)) fun r t hr => ?_
    · obtain ⟨⟨cls0, dict0, dat0, sl0⟩, at1, c1, n1, d1⟩ := hl
      dsimp only at c1 d1
      subst c1 d1
      have at2 : (s.heap.push (bare w)).get? l = some { cls := .type "list", dict := dict0, data := .seq xs n1, slots := sl0 } := Heap.get?_push_of_some _ at1
      have is2 : (s.heap.push (bare w)).IsList l xs := ⟨_, at2, rfl, n1, rfl⟩
      have s1 := F.sub_list_set
      have s2 := F.sub_list_frozenset
      have s3 : ((Value.type "list") == (Value.type "dict")) = false := by decide
      have apart := old_ne (u := bare w) at1
      unfold Builtin.«set.__init__» noKeywords Builtin.Frozenset.updateFrom
      generalize pi : pyIter = it
      wp_walk
      subst pi
      refine wpAny_pyIter_list is2 (wpAny_bind (wpAny_runValue ?_))
      have ne1 : l ≠ (s.heap.push (bare w)).objs.size := fun z => apart (by rw [z]; simp)
      have ne0 : s.heap.objs.size ∉ [(s.heap.push (bare w)).objs.size, l] := fun z => by
        rcases List.mem_cons.mp z with z | z
        · rw [Heap.size_push] at z
          exact absurd z (Nat.ne_of_lt (Nat.lt_succ_self _))
        · exact apart (by rw [← List.mem_singleton.mp z]; simp)
      have each : ∀ (i : Nat) (v : Value), xs[i]? = some v → ∃ k t, ns[i]? = some k ∧ v = .int k t := fun i v hv => by
        have li : i < ns.length := size ▸ (Array.getElem?_eq_some_iff.mp hv).1
        obtain ⟨t, e⟩ := IntsAre.int_at hi i v (by rw [Array.getElem?_toList]; exact hv)
        exact ⟨ns[i], t, List.getElem?_eq_getElem li, by rw [e, List.getD_eq_getElem?_getD, List.getElem?_eq_getElem li]; rfl⟩
      have calm3 : A.in1.in1.in1.handled = none := by simp [calm]
      refine set_update_ints ((Walks.list calm3 _ l ne1 xs).toS) s.heap.objs.size ne0 ns size few each xs.size 0 _ (Nat.sub_zero _) (Nat.zero_le _) ⟨⟨_, Heap.get?_push_size _ rfl, rfl, rfl⟩, is2.push _⟩ ⟨0, Nat.le_refl 0, bare_is (Heap.get?_push_of_some _ at0)⟩ fun t c mv hc hs => ?_
      obtain ⟨g, gs, dr, tk, os⟩ := t
      obtain rfl : gs = s.gens := mv.gens
      obtain rfl : dr = s.drawn := mv.drawn
      obtain rfl : os = s.os := mv.os
      refine wpAny_pure (wpAny_pure ⟨rfl, g, tk, c, rfl, hs, size ▸ hc, fun b o e => mv.heap b o (old_ne e) (Heap.get?_push_of_some _ (Heap.get?_push_of_some _ e))⟩)
    · match r, hr with
      | .error _, hr => exact hr
      | .ok (.ret _), ⟨e1, g, tk, c, e2, hs, hc, old⟩ =>
        subst e1 e2
        repeat any_goals first | wp_step | assumption
        exact q g tk c hs hc old
/-- sorted(x) of a set of ints -/
theorem inOrder {a : Addr} {S : Int → Bool} {n : Nat} {Q : Value → Shared → Prop} (R : SetR w s.heap a S n) (calm : A.handled = none)
    (q : ∀ (t : Shared) (b : Addr) (out : Array Value) (c : Nat) (ns : List Int), (∀ x o, s.heap.get? x = some o → t.heap.get? x = some o) ∧ t.gens = s.gens ∧ t.os = s.os ∧ s.heap.objs.size ≤ b → t.heap.get? b = some (seqObj "list" out c) → IntsAre out.toList ns →
      ns.Pairwise (· < ·) ∧ (∀ k, k ∈ ns ↔ S k = true) ∧ ns.length = n → Q (.ref b) t) :
    wpAny (model P w) A (call (.builtin "sorted") [.ref a]) Q E s := by
  obtain ⟨o, es, ep, tb, r1, r2, r3, good, once, mem, few, fits, len, ris, led⟩ := R
  apply Calls.call_function_entry kind_sorted plain_sorted entry_sorted (args_sorted1 _)
  unfold Builtin.«sorted»
  apply wpAny_bind (m := checkCount "sorted" 1 1 _)
  apply wpAny_pure
  apply wpAny_bind
  refine collect_set (A := A.in1) calm ⟨o, r1, r2.1, r3⟩ fits few ris led fun t us old more g1 g2 perm => ?_
  have lu : us.length = n := by
    rw [perm.length_eq, List.length_map, Array.length_toList, len]
  have small : us.length ≤ sizeLine := by
    have : n < scanBound := len ▸ few
    unfold scanBound at this
    rw [lu, sizeLine_eq]
    omega
  have whole : IntsAre us (us.map SrtO.iv) := SrtO.ints_iv fun v hv => by
    obtain ⟨x, hx, e⟩ := List.mem_map.mp (perm.mem_iff.mp hv)
    obtain ⟨k, tk, e2, _⟩ := good x hx
    exact ⟨k, tk, by rw [← e, e2]⟩
  have keys : (us.map SrtO.iv).Perm (es.toList.map keyOf) := by
    have z := perm.map SrtO.iv
    rw [List.map_map] at z
    refine z.trans (List.Perm.of_eq (List.map_congr_left fun x hx => ?_))
    obtain ⟨k, tk, e2, _⟩ := good x hx
    show SrtO.iv x.2 = keyOf x
    unfold keyOf
    rw [e2]
    rfl
  apply wpAny_bind
  refine wpAny_newList ?_ small
  have at0 : (t.heap.push (seqObj "list" us.toArray 0)).get? t.heap.objs.size = some (seqObj "list" us.toArray 0) := Heap.get?_push_size _ rfl
  apply wpAny_bind
  apply wpAny_holding
  refine wpAny_call_entry slot_list_sort ⟨_, at0, rfl⟩ entry_list_sort (SrtO.list_sort_ord SrtO.swo_int at0 small (fun h2 => SrtO.ints_sortable whole h2) fun out h1 h2 => ?_) (args_list_sort _)
  obtain ⟨k1, k2, k3⟩ := SrtO.ints_out whole h1 h2
  obtain ⟨c, hc⟩ := sortedHeap_at (vs := us) (out := out.toArray) at0
  have pn := k2.trans keys
  refine ⟨_, rfl, wpAny_pure ⟨_, rfl, q _ t.heap.objs.size out.toArray c (out.map SrtO.iv) ⟨fun x u e => ?_, g1, g2, more⟩ hc k1 ⟨?_, fun k => by rw [pn.mem_iff, ← mem k], by rw [pn.length_eq, List.length_map, Array.length_toList, len]⟩⟩⟩
  · have e1 := old x u e
    have lt := Heap.lt_size e1
    show (sortedHeap (t.heap.push (seqObj "list" us.toArray 0)) t.heap.objs.size us out.toArray).get? x = some u
    rw [sortedHeap_old (Nat.ne_of_lt lt) (by rw [size_push']; exact Nat.lt_succ_of_lt lt)]
    exact Heap.get?_push_of_some _ e1
  · exact lt_of_le_nodup _ k3 (pn.nodup_iff.mpr once)
end
end SetL
/-! ## Readings told by plain data: sets of ints, lists in order -/
namespace Lf
open PySem PySem.Spec PyProof.Rows L2
open PySem.W (Frag)
section
variable {X : Cx}
def rSetL (K : Frag) (w : World) : List V → Hp → VK → Prop := fun vs H Q => ∃ (a : Addr) (ns : List Int), vs = [.ref a] ∧ SqL K H a (ns.map V.int) ∧ ns.length + 1 < scanBound ∧ ∀ (p : Addr) (c : Nat), H p = none → Q (.ref p) (upd H p (SetO w p (fun j => decide (j ∈ ns)) c))
theorem cr_setL (hc : X.calm = true) : CallR X (.type "set") (rSetL X.K X.w) := by
  intro pins s σ H xs us Q I r h
  obtain ⟨a, ns, rfl, hs, few, q⟩ := h
  obtain ⟨its, rv, hl, _⟩ := I.list hs
  rw [Vals.ref1 r]
  refine SetL.made (I.ok.hd hc) hl.isList (by simpa using rv.ints) few fun g tk c R _ old => ?_
  exact ⟨.ref _, upd H s.heap.objs.size (SetO X.w s.heap.objs.size (fun j => decide (j ∈ ns)) c), I.laid (t' := tk) old (Nat.le_refl _) (setO_new R), rfl, q _ c (I.hok.fresh (Nat.le_refl _))⟩
def rSortS (w : World) : List V → Hp → VK → Prop := fun vs H Q => ∃ (a : Addr) (S : Int → Bool) (n : Nat), vs = [V.ref a] ∧ H a = some (SetO w a S n) ∧
  ∀ (ns : List Int) (p : Addr), ns.Pairwise (· < ·) → (∀ k : Int, k ∈ ns ↔ S k = true) → ns.length ≤ sizeLine → H p = none → Q (.ref p) (upd H p (.lst (ns.map V.int)))
theorem cr_sortS (hc : X.calm = true) : CallR X (.builtin "sorted") (rSortS X.w) := by
  intro pins s σ H vs us Q I r h
  obtain ⟨a, S, n, rfl, ha, q⟩ := h
  have R := setO_get I ha
  have few : n < scanBound := by
    obtain ⟨_, es, _, _, _, _, _, _, _, _, few, _, len, _⟩ := R
    exact len ▸ few
  rw [Vals.ref1 r]
  refine SetL.inOrder R (I.ok.hd hc) fun t b out c ns old at_ isI facts => ?_
  obtain ⟨k, g, o, new⟩ := old
  obtain ⟨inc, mem, len⟩ := facts
  have small : ns.length ≤ sizeLine := by
    unfold scanBound at few
    rw [len, sizeLine_eq]
    omega
  have free : H b = none := I.hok.fresh new
  have J : Inv X pins σ (upd H b (.lst (ns.map V.int))) { s with heap := t.heap, gens := t.gens, drawn := t.drawn, toks := t.toks } :=
    I.call (ch := []) (Un.laid k new free) (I.hok.laid k new ⟨by rw [List.length_map]; exact small, out.toList, c, vals_of_ints isI, at_⟩) (by rw [g]; exact I.bare) (fun _ z => nomatch z)
  obtain ⟨_, _, _, _, _⟩ := t
  subst o
  exact ⟨.ref b, _, J, rfl, q ns b inc mem small free⟩
end
/-- a set of ints, told by a list of its members -/
structure ISet (w : World) where
  l : List Int
instance {w : World} : Rp (ISet w) := ⟨fun _ G v x => ∃ p S n, v = .ref p ∧ G p = some (SetO w p S n) ∧ ∀ k : Int, S k = true ↔ k ∈ x.l, fun s ⟨p, S, n, e, h, m⟩ => ⟨p, S, n, e, s.at h, m⟩⟩
def mkSet (w : World) (xs : List Int) : Option (ISet w) := if xs.length < 4000 then some ⟨xs⟩ else none
/-- the members in order, each once -/
def insU (x : Int) : List Int → List Int
  | [] => [x]
  | y :: ys => if x < y then x :: y :: ys else if x = y then y :: ys else y :: insU x ys
def sortU (l : List Int) : List Int := l.foldr insU []
theorem insU_mem (x k : Int) : ∀ l : List Int, k ∈ insU x l ↔ k = x ∨ k ∈ l
  | [] => by simp [insU]
  | y :: ys => by
    unfold insU
    split
    · simp
    · split
      · rename_i e
        subst e
        simp
      · rw [List.mem_cons, insU_mem x k ys, List.mem_cons]
        constructor
        · rintro (h | h | h) <;> simp [h]
        · rintro (h | h | h) <;> simp [h]
theorem insU_inc (x : Int) : ∀ {l : List Int}, l.Pairwise (· < ·) → (insU x l).Pairwise (· < ·)
  | [], _ => by simp [insU]
  | y :: ys, h => by
    obtain ⟨h1, h2⟩ := List.pairwise_cons.mp h
    unfold insU
    split
    · rename_i c
      refine List.pairwise_cons.mpr ⟨fun z hz => ?_, h⟩
      rcases List.mem_cons.mp hz with e | e
      · subst e
        exact c
      · have := h1 z e
        omega
    · split
      · exact h
      · refine List.pairwise_cons.mpr ⟨fun z hz => ?_, insU_inc x h2⟩
        rcases (insU_mem x z ys).mp hz with e | e
        · subst e
          omega
        · exact h1 z e
theorem sortU_inc : ∀ l : List Int, (sortU l).Pairwise (· < ·)
  | [] => .nil
  | x :: l => insU_inc x (sortU_inc l)
theorem sortU_mem (k : Int) : ∀ l : List Int, k ∈ sortU l ↔ k ∈ l
  | [] => by simp [sortU]
  | x :: l => by
    show k ∈ insU x (sortU l) ↔ _
    rw [insU_mem, sortU_mem k l, List.mem_cons]
theorem inc_eq : ∀ {xs ys : List Int}, xs.Pairwise (· < ·) → ys.Pairwise (· < ·) → (∀ k, k ∈ xs ↔ k ∈ ys) → xs = ys
  | [], [], _, _, _ => rfl
  | [], y :: ys, _, _, h => by
    have := (h y).mpr List.mem_cons_self
    cases this
  | x :: xs, [], _, _, h => by
    have := (h x).mp List.mem_cons_self
    cases this
  | x :: xs, y :: ys, h1, h2, h => by
    obtain ⟨a1, a2⟩ := List.pairwise_cons.mp h1
    obtain ⟨b1, b2⟩ := List.pairwise_cons.mp h2
    have e : x = y := by
      rcases List.mem_cons.mp ((h x).mp List.mem_cons_self) with e | e
      · exact e
      · rcases List.mem_cons.mp ((h y).mpr List.mem_cons_self) with e' | e'
        · exact e'.symm
        · have := b1 x e
          have := a1 y e'
          omega
    subst e
    rw [inc_eq a2 b2 fun k => ?_]
    constructor
    · intro hk
      rcases List.mem_cons.mp ((h k).mp (List.mem_cons_of_mem _ hk)) with e | e
      · subst e
        exact absurd (a1 _ hk) (by omega)
      · exact e
    · intro hk
      rcases List.mem_cons.mp ((h k).mpr (List.mem_cons_of_mem _ hk)) with e | e
      · subst e
        exact absurd (b1 _ hk) (by omega)
      · exact e
theorem le_eq : ∀ {xs ys : List Int}, xs.Pairwise (· ≤ ·) → ys.Pairwise (· ≤ ·) → xs.Perm ys → xs = ys := fun h1 h2 p => List.Perm.eq_of_pairwise (fun a b _ _ x y => by omega) h1 h2 p
/-- in order -/
def insI (x : Int) : List Int → List Int
  | [] => [x]
  | y :: ys => if x ≤ y then x :: y :: ys else y :: insI x ys
def sortI (l : List Int) : List Int := l.foldr insI []
theorem insI_perm (x : Int) : ∀ l : List Int, (insI x l).Perm (x :: l)
  | [] => .refl _
  | y :: ys => by
    unfold insI
    split
    · exact .refl _
    · exact ((insI_perm x ys).cons y).trans (.swap x y ys)
theorem insI_inc (x : Int) : ∀ {l : List Int}, l.Pairwise (· ≤ ·) → (insI x l).Pairwise (· ≤ ·)
  | [], _ => by simp [insI]
  | y :: ys, h => by
    obtain ⟨h1, h2⟩ := List.pairwise_cons.mp h
    unfold insI
    split
    · rename_i c
      refine List.pairwise_cons.mpr ⟨fun z hz => ?_, h⟩
      rcases List.mem_cons.mp hz with e | e
      · subst e
        exact c
      · have := h1 z e
        omega
    · refine List.pairwise_cons.mpr ⟨fun z hz => ?_, insI_inc x h2⟩
      rcases List.mem_cons.mp ((insI_perm x ys).mem_iff.mp hz) with e | e
      · subst e
        omega
      · exact h1 z e
theorem sortI_perm : ∀ l : List Int, (sortI l).Perm l
  | [] => .refl _
  | x :: l => (insI_perm x _).trans ((sortI_perm l).cons x)
theorem sortI_inc : ∀ l : List Int, (sortI l).Pairwise (· ≤ ·)
  | [] => .nil
  | x :: l => insI_inc x (sortI_inc l)
section
variable {K : Frag} {w : World} {ω : List Ent}
theorem all_ints {G : Hp} (ns : List Int) : All K G (ns.map V.int) ns := by
  induction ns with
  | nil => exact .nil
  | cons x ns ih => exact .cons rfl ih
theorem CaX.setL {xs : List Int} {s : ISet w} (h : mkSet w xs = some s) : CaX (rSetL K w) ω ω [is K xs] (is K s) := fun G H vs Q wA pa q => by
  obtain ⟨v, rfl, a, us, rfl, e, ha, l⟩ := PArgs.one pa
  unfold mkSet at h
  split at h
  · rename_i c
    cases h
    refine ⟨a, xs, rfl, by rw [← ints_of ha]; exact RC.sq_of (wA.lst e), by unfold scanBound; omega, fun p c hp => ?_⟩
    obtain ⟨w2, s2⟩ := wA.new (o := SetO w p (fun j => decide (j ∈ xs)) c) hp
    exact q _ _ _ s2 w2 ⟨p, _, c, rfl, upd_same, fun k => by simp⟩
  · cases h
theorem CaF.sortS {s : ISet w} : CaF (rSortS w) ω ω [is K s] (olst K (sortU s.l)) := fun G H vs Q wA pa q => by
  obtain ⟨v, rfl, p, S, n, rfl, e, m⟩ := PArgs.one pa
  refine ⟨p, S, n, rfl, wA.get e, fun ns b inc mem small free => ?_⟩
  have en : ns = sortU s.l := inc_eq inc (sortU_inc _) fun k => by rw [mem k, m k, sortU_mem]
  rw [en] at small ⊢
  exact q b G _ (Le.refl _) (newL wA free (all_ints _) small)
theorem CaF.sortI {xs : List Int} : CaF (rSortedI K) ω ω [is K xs] (olst K (Lf.sortI xs)) := fun G H vs Q wA pa q => by
  obtain ⟨v, rfl, a, us, rfl, e, ha, l⟩ := PArgs.one pa
  refine ⟨a, xs, rfl, by rw [← ints_of ha]; exact RC.sq_of (wA.lst e), fun ns b perm inc free => ?_⟩
  have en : ns = Lf.sortI xs := le_eq inc (sortI_inc _) (perm.trans (sortI_perm xs).symm)
  rw [en]
  exact q b G _ (Le.refl _) (newL wA free (all_ints _) (by rw [(sortI_perm xs).length_eq]; exact l))
end
end Lf
namespace Lf
open PySem PySem.Spec PyProof.Rows L2
open PySem.W (Frag)
def setOk (xs : List Int) : Option (List Int) := if xs.length < 4000 then some (sortU xs) else none
theorem EvF.sortedSet {K : Frag} {w : World} {Γ : Gm} {ω ω1 : List Ent} {tA : TA} {xs ys : List Int} (h : EvA tA Γ ω ω1 [is K xs]) (e : setOk xs = some ys) : EvF (tCB (rSortS w) (tCons (tCB (rSetL K w) tA) tNil)) Γ ω ω1 (olst K ys) := by
  unfold setOk at e
  split at e
  · rename_i c
    cases e
    exact EvF.ca (EvA.cons (EvX.ca h (CaX.setL (w := w) (s := ⟨xs⟩) (by unfold mkSet; rw [if_pos c]))) EvA.nil) CaF.sortS
  · cases e
end Lf
namespace Lf
open PySem PySem.Spec PyProof.Rows L2
open PySem.W (Frag)
section
variable {K : Frag} {ω : List Ent} {a b : MP} {α : Type} [t : Dat α]
/-- data that stand still or are one's own -/
def DtAt (K : Frag) (ω : List Ent) (a : MP) (x : α) : Prop := ∀ (G H : Hp) (v : V), At G ω H → a.p G v → Dp K H v (t.d x)
theorem DtAt.of {x : α} : DtAt K ω (is K x) x := fun G H v w p => t.dp w p
theorem DtAt.own {xs : List α} {k : Nat} {p : Addr} (ho : ω[k]? = some (Ent.own p (olst K xs))) : DtAt K ω (adr p) xs := fun G H v w e => by
  obtain ⟨o, eo, us, rfl, hu, _⟩ := w.ownAt ho
  cases e
  exact .lst (RC.sq_of eo) (dpa w hu)
theorem OpX.eqA [DecidableEq α] {x y : α} (ha : DtAt K ω a x) (hb : DtAt K ω b y) (h : t.deep ≤ 64) : OpX (rEqD K) ω ω a b (is K (decide (x = y))) := fun G H u v Q w p1 p2 q => by
  refine ⟨t.d x, t.d y, ha G H u w p1, hb G H v w p2, Dat.shaped h x, Dat.shaped h y, q _ G H (Le.refl _) w ?_⟩
  show V.bl _ = V.bl _
  rw [t.eqv]
  congr
theorem OpX.neA [DecidableEq α] {x y : α} (ha : DtAt K ω a x) (hb : DtAt K ω b y) (h : t.deep ≤ 64) : OpX (rNeD K) ω ω a b (is K (!decide (x = y))) := fun G H u v Q w p1 p2 q => by
  refine ⟨t.d x, t.d y, ha G H u w p1, hb G H v w p2, Dat.shaped h x, Dat.shaped h y, q _ G H (Le.refl _) w ?_⟩
  show V.bl _ = V.bl _
  rw [t.eqv]
  congr
end
/-! repr of what may be None, too -/
class Shw (α : Type) extends Rp α where
  d : α → PyData
  dp : ∀ {K : Frag} {G H : Hp} {ω : List Ent} {v : V} {x : α}, At G ω H → Rp.rep K G v x → Dp K H v (d x)
  lay : ∀ x : α, (d x).canLay0 = true
  deep : Nat
  dep : ∀ x : α, (d x).depth ≤ deep
instance {α : Type} [t : Dat α] : Shw α := { d := t.d, dp := t.dp, lay := t.lay, deep := t.deep, dep := t.dep }
instance : Shw Bool where
  d := .bool
  dp _ h := by
    cases h
    exact .bl _
  lay _ := by simp [PyData.canLay0]
  deep := 0
  dep _ := by simp [PyData.depth]
instance {α : Type} [t : Shw α] : Shw (Option α) where
  d x := match x with
    | none => .none
    | some x => t.d x
  dp {K G H ω v x} w h := match x, h with
    | none, h => by
      cases h
      exact .non
    | some x, h => t.dp w h.1
  lay x := match x with
    | none => by simp [PyData.canLay0]
    | some x => t.lay x
  deep := t.deep
  dep x := match x with
    | none => by simp [PyData.depth]
    | some x => t.dep x
section
variable {K : Frag} {ω : List Ent} {a b : MP}
def ShAt {α : Type} [t : Shw α] (K : Frag) (ω : List Ent) (a : MP) (x : α) : Prop := ∀ (G H : Hp) (v : V), At G ω H → a.p G v → Dp K H v (t.d x)
theorem ShAt.of {α : Type} [t : Shw α] {x : α} : ShAt K ω (is K x) x := fun G H v w p => t.dp w p
theorem ShAt.own {α : Type} [t : Dat α] {xs : List α} {k : Nat} {p : Addr} (ho : ω[k]? = some (Ent.own p (olst K xs))) : ShAt K ω (adr p) xs := DtAt.own ho
def told {α : Type} [t : Shw α] (x : α) : Option Str := if (t.d x).showable = true ∧ (t.d x).shown.length ≤ sizeLine then some (t.d x).shown else none
theorem CaX.told {α : Type} [t : Shw α] {x : α} {y : Str} (ha : ShAt K ω a x) (h : told x = some y) (hd : t.deep ≤ 40) : CaX (RC.rReprD K) ω ω [a] (is K y) := fun G H vs Q w p q => by
  obtain ⟨v, rfl, e⟩ := PArgs.one p
  unfold Lf.told at h
  split at h
  · rename_i c
    cases h
    exact ⟨v, t.d x, rfl, ha G H v w e, c.1, t.lay x, Nat.le_trans (t.dep x) hd, c.2, q _ G H (Le.refl _) w rfl⟩
  · cases h
end
end Lf
/-! ## set(xs) of a long list of few ints -/
namespace SetM
open PySem PySem.Spec PyProof.Rows L2 SetL
/-- members enough are never met -/
def Few (ns : List Int) : Prop := ∀ as : List Int, as.Nodup → (∀ x ∈ as, x ∈ ns) → as.length + 1 < scanBound
theorem nodup_le : ∀ {as bs : List Int}, as.Nodup → (∀ x ∈ as, x ∈ bs) → as.length ≤ bs.length
  | [], _, _, _ => Nat.zero_le _
  | x :: as, bs, u, h => by
    obtain ⟨u1, u2⟩ := List.nodup_cons.mp u
    have m := h x List.mem_cons_self
    have le := nodup_le (as := as) (bs := bs.erase x) u2 fun y hy => (List.mem_erase_of_ne (fun e => u1 (by rw [← e]; exact hy))).mpr (h y (List.mem_cons_of_mem _ hy))
    have l := List.length_erase_of_mem m
    have := List.length_pos_of_mem m
    rw [List.length_cons]
    omega
section
variable {P : Program} {w : World} {A : Around} {E : Value → Shared → Prop} {s : Shared}
/-- the members so far, one more item: kept as a list without repeats -/
theorem grown {ns as : List Int} {i : Nat} {z : Int} (hz : ns[i]? = some z) (nd : as.Nodup) (mem : ∀ x, x ∈ as ↔ x ∈ ns.take i) : ∃ bs : List Int, bs.Nodup ∧ (∀ x, x ∈ bs ↔ x ∈ ns.take (i + 1)) ∧ bs.length = (if decide (z ∈ ns.take i) = true then as.length else as.length + 1) := by
  have tk : ∀ x, x ∈ ns.take (i + 1) ↔ x ∈ ns.take i ∨ x = z := fun x => by
    rw [List.take_add_one, hz]
    simp
  by_cases c : z ∈ ns.take i
  · refine ⟨as, nd, fun x => ?_, by rw [if_pos (decide_eq_true c)]⟩
    rw [tk, mem]
    exact ⟨.inl, fun h => h.elim id fun e => e ▸ c⟩
  · refine ⟨z :: as, List.nodup_cons.mpr ⟨fun h => c ((mem z).mp h), nd⟩, fun x => ?_, by rw [if_neg (by rw [decide_eq_false c]; decide)]; rfl⟩
    rw [tk, List.mem_cons, mem]
    exact Or.comm
/-- the update from the i-th item on -/
theorem onward {it S : Addr} {fp wr : List Addr} {gr : Array GenState → Array GenState → Prop} {n : Nat} {item : Nat → Value → Prop} {st : Nat → Shared → Prop} {R : Result → Shared → Prop}
    (walk : WalksS P w A.in1 it fp wr gr n item st) (apart : S ∉ fp) {ns : List Int} (size : ns.length = n) (few : Few ns) (allI : ∀ i v, item i v → ∃ k t, ns[i]? = some k ∧ v = .int k t) (left : Nat) :
    ∀ (i : Nat) (s : Shared), i + left = n → st i s → (∃ as : List Int, as.Nodup ∧ (∀ x, x ∈ as ↔ x ∈ ns.take i) ∧ SetR w s.heap S (fun j => decide (j ∈ ns.take i)) as.length) →
      (∀ t c, Moved (S :: wr) gr s t → SetR w t.heap S (fun j => decide (j ∈ ns)) c → R (.ok (.ret .none)) t) → codeAny (model P w) A (.builtin "set.update.loop" ⟨[.ref S, .ref it], []⟩) R s := by
  have other : S ∉ wr := fun m => apart (walk.sub _ m)
  have wider : ∀ a ∈ wr, a ∈ S :: wr := fun a m => .tail _ m
  induction left with
  | zero =>
    rintro i s full here ⟨as, nd, mem, set⟩ done
    obtain rfl : i = ns.length := by omega
    rw [List.take_length] at set
    apply codeAny_builtin F.entry_set_update_loop
    rw [Around.under_plainId F.plain_set_update_loop _]
    exact wpAny_bind (m := pyNext (.ref it)) (walk.done s _ _ (size ▸ here) fun t mv => wpAny_pure (done t _ (mv.mono wider) (set.at fun o e => mv.heap S o other e)))
  | succ left more =>
    rintro i s part here ⟨as, nd, mem, set⟩ done
    have more_ : i < n := by omega
    apply codeAny_builtin F.entry_set_update_loop
    rw [Around.under_plainId F.plain_set_update_loop _]
    refine wpAny_bind (m := pyNext (.ref it)) (walk.item i s _ _ more_ here fun v t isItem next mv => ?_)
    obtain ⟨z, tok, hz, rfl⟩ := allI i v isItem
    obtain ⟨bs, nd2, mem2, len2⟩ := grown hz nd mem
    have room := few as nd fun x hx => List.mem_of_mem_take ((mem x).mp hx)
    have set1 := set.at (fun o e => mv.heap S o other e : ∀ o, s.heap.get? S = some o → t.heap.get? S = some o)
    refine wpAny_bind (m := holding [Value.int z tok] (setAdd S (.int z tok))) (wpAny_holding ?_)
    unfold setAdd
    apply wpAny_holding
    apply wpAny_bind
    refine (intKind P w).pyHash (k := z) (intKind_is _ _ _ _) (setR_add_hashed (s := { t with toks := t.toks + 1 }) set1 room fun g same set2 => wpAny_pure ⟨plainId_quiet F.plain_set_update_loop _, ?_⟩)
    have old : ∀ a o, a ≠ S → t.heap.get? a = some o → g.get? a = some o := fun a o ne e => by
      rw [same.2 a ne]
      exact e
    refine more (i + 1) _ (by omega) (walk.frame _ t _ _ next (Nat.le_succ _) fun a m o e => old a o (fun z => apart (z ▸ m)) e) ⟨bs, nd2, mem2, ?_⟩ fun u c mv2 last => ?_
    · rw [len2]
      refine set2.congr fun j => ?_
      rw [← Bool.decide_or]
      refine decide_eq_decide.mpr ?_
      rw [List.take_add_one, hz]
      simp
    · exact done u c (Moved.trans walk.gtrans ((mv.mono wider).then_heap (Nat.le_succ _) fun a o no e => old a o (fun z => no (z ▸ .head _)) e) mv2) last
set_option maxRecDepth 100000 in
set_option maxHeartbeats 3200000 in
/-- what set(l) leaves: the members are those of the list -/
theorem made {l : Addr} {xs : Array Value} {ns : List Int} {Q : Value → Shared → Prop} (calm : A.handled = none) (hl : s.heap.IsList l xs) (hi : IntsAre xs.toList ns) (few : Few ns)
    (q : ∀ (g : Heap) (tk c : Nat), SetR w g s.heap.objs.size (fun j => decide (j ∈ ns)) c → (∀ b o, s.heap.get? b = some o → g.get? b = some o) → Q (.ref s.heap.objs.size) { s with heap := g, toks := tk }) :
    wpAny (model P w) A (call (.type "set") [.ref l]) Q E s := by
  have size : xs.size = ns.length := by simpa using IntsAre.length hi
  obtain ⟨_, _, m1⟩ := F.called_set.mro
  have m2 := F.called_set.made
  have m3 := F.called_set.sub
  have m4 := F.called_set.notType
  have m5 := F.called_set.canCreate
  have m6 := F.typeCall_set_1 (.ref l)
  have m7 := F.called_set.init.lookup
  refine wpAny_call (codeAny_of_tree ?_)
  show wpAny (model P w) _ (callAny (.type "set") ⟨[.ref l], []⟩) _ _ s
  refine wpAny_pure ⟨Code.quiet_builtin _ (by decide +kernel), codeAny_builtin F.entry_type_call ?_⟩
  rw [Around.under_plain (weight_type_call_type "set" [.ref l] []) rfl]
  repeat any_goals first | wp_step | assumption
  refine codeAny_mono (code_set_led1 (.ref l) (E := E) (Q₁ := fun v t => v = .ref s.heap.objs.size ∧ t = { s with heap := s.heap.push (bare w) }) ⟨rfl, rfl⟩) fun r t hr => ?_
  match r, hr with
  | .error _, hr => exact hr
  | .ok (.ret _), ⟨e1, e2⟩ =>
    subst e1 e2
    have at0 : (s.heap.push (bare w)).get? s.heap.objs.size = some (bare w) := Heap.get?_push_size _ rfl
    have ty0 : Shared.TypeIs { s with heap := s.heap.push (bare w) } (.ref s.heap.objs.size) "set" := ⟨_, at0, rfl⟩
    have m8 := F.called_set.init.bind (.ref s.heap.objs.size)
    repeat any_goals first | wp_step | assumption
    refine codeAny_mono (codeAny_call_builtin (R := wants (fun v t => v = .none ∧ ∃ g tk c, t = { s with heap := g, toks := tk } ∧ SetR w g s.heap.objs.size (fun j => decide (j ∈ ns)) c ∧ ∀ b o, s.heap.get? b = some o → g.get? b = some o) E) F.called_set.init.plain F.entry_set_init (check_set_init_1 ty0 ?_)) fun r t hr => ?_
    · obtain ⟨⟨cls0, dict0, dat0, sl0⟩, at1, c1, n1, d1⟩ := hl
      dsimp only at c1 d1
      subst c1 d1
      have at2 : (s.heap.push (bare w)).get? l = some { cls := .type "list", dict := dict0, data := .seq xs n1, slots := sl0 } := Heap.get?_push_of_some _ at1
      have is2 : (s.heap.push (bare w)).IsList l xs := ⟨_, at2, rfl, n1, rfl⟩
      have s1 := F.sub_list_set
      have s2 := F.sub_list_frozenset
      have s3 : ((Value.type "list") == (Value.type "dict")) = false := by decide
      have apart := old_ne (u := bare w) at1
      unfold Builtin.«set.__init__» noKeywords Builtin.Frozenset.updateFrom
      generalize pi : pyIter = it
      wp_walk
      subst pi
      refine wpAny_pyIter_list is2 (wpAny_bind (wpAny_runValue ?_))
      have ne1 : l ≠ (s.heap.push (bare w)).objs.size := fun z => apart (by rw [z]; simp)
      have ne0 : s.heap.objs.size ∉ [(s.heap.push (bare w)).objs.size, l] := fun z => by
        rcases List.mem_cons.mp z with z | z
        · rw [Heap.size_push] at z
          exact absurd z (Nat.ne_of_lt (Nat.lt_succ_self _))
        · exact apart (by rw [← List.mem_singleton.mp z]; simp)
      have each : ∀ (i : Nat) (v : Value), xs[i]? = some v → ∃ k t, ns[i]? = some k ∧ v = .int k t := fun i v hv => by
        have li : i < ns.length := size ▸ (Array.getElem?_eq_some_iff.mp hv).1
        obtain ⟨t, e⟩ := IntsAre.int_at hi i v (by rw [Array.getElem?_toList]; exact hv)
        exact ⟨ns[i], t, List.getElem?_eq_getElem li, by rw [e, List.getD_eq_getElem?_getD, List.getElem?_eq_getElem li]; rfl⟩
      have calm3 : A.in1.in1.in1.handled = none := by simp [calm]
      refine onward ((Walks.list calm3 _ l ne1 xs).toS) ne0 size.symm few each xs.size 0 _ (Nat.zero_add _) ⟨⟨_, Heap.get?_push_size _ rfl, rfl, rfl⟩, is2.push _⟩ ⟨[], List.nodup_nil, fun x => by rw [List.take_zero], bare_is (Heap.get?_push_of_some _ at0)⟩ fun t c mv hs => ?_
      obtain ⟨g, gs, dr, tk, os⟩ := t
      obtain rfl : gs = s.gens := mv.gens
      obtain rfl : dr = s.drawn := mv.drawn
      obtain rfl : os = s.os := mv.os
      refine wpAny_pure (wpAny_pure ⟨rfl, g, tk, c, rfl, hs, fun b o e => mv.heap b o (old_ne e) (Heap.get?_push_of_some _ (Heap.get?_push_of_some _ e))⟩)
    · match r, hr with
      | .error _, hr => exact hr
      | .ok (.ret _), ⟨e1, g, tk, c, e2, hs, old⟩ =>
        subst e1 e2
        repeat any_goals first | wp_step | assumption
        exact q g tk c hs old
end
end SetM
namespace Lf
open PySem PySem.Spec PyProof.Rows L2
open PySem.W (Frag)
section
variable {X : Cx}
def rSetM (K : Frag) (w : World) : List V → Hp → VK → Prop := fun vs H Q => ∃ (a : Addr) (ns : List Int), vs = [.ref a] ∧ SqL K H a (ns.map V.int) ∧ SetM.Few ns ∧ ∀ (p : Addr) (c : Nat), H p = none → Q (.ref p) (upd H p (SetO w p (fun j => decide (j ∈ ns)) c))
theorem cr_setM (hc : X.calm = true) : CallR X (.type "set") (rSetM X.K X.w) := by
  intro pins s σ H xs us Q I r h
  obtain ⟨a, ns, rfl, hs, few, q⟩ := h
  obtain ⟨its, rv, hl, _⟩ := I.list hs
  rw [Vals.ref1 r]
  refine SetM.made (I.ok.hd hc) hl.isList (by simpa using rv.ints) few fun g tk c R old => ?_
  exact ⟨.ref _, upd H s.heap.objs.size (SetO X.w s.heap.objs.size (fun j => decide (j ∈ ns)) c), I.laid (t' := tk) old (Nat.le_refl _) (setO_new R), rfl, q _ c (I.hok.fresh (Nat.le_refl _))⟩
end
/-- set(xs), told in order: not too many members -/
def setFew (xs : List Int) : Option (List Int) := if (sortU xs).length < 4000 then some (sortU xs) else none
theorem few_of {xs : List Int} (h : (sortU xs).length < 4000) : SetM.Few xs := fun as nd sub => by
  have := SetM.nodup_le (as := as) (bs := sortU xs) nd fun x hx => (sortU_mem x xs).mpr (sub x hx)
  unfold scanBound
  omega
section
variable {K : Frag} {w : World} {ω : List Ent}
theorem CaX.setM {xs : List Int} (few : SetM.Few xs) : CaX (rSetM K w) ω ω [is K xs] (is K (ISet.mk (w := w) xs)) := fun G H vs Q wA pa q => by
  obtain ⟨v, rfl, a, us, rfl, e, ha, l⟩ := PArgs.one pa
  refine ⟨a, xs, rfl, by rw [← ints_of ha]; exact RC.sq_of (wA.lst e), few, fun p c hp => ?_⟩
  obtain ⟨w2, s2⟩ := wA.new (o := SetO w p (fun j => decide (j ∈ xs)) c) hp
  exact q _ _ _ s2 w2 ⟨p, _, c, rfl, upd_same, fun k => by simp⟩
end
theorem EvF.sortedSetM {K : Frag} {w : World} {Γ : Gm} {ω ω1 : List Ent} {tA : TA} {xs ys : List Int} (h : EvA tA Γ ω ω1 [is K xs]) (e : setFew xs = some ys) : EvF (tCB (rSortS w) (tCons (tCB (rSetM K w) tA) tNil)) Γ ω ω1 (olst K ys) := by
  unfold setFew at e
  split at e
  · rename_i c
    cases e
    exact EvF.ca (EvA.cons (EvX.ca h (CaX.setM (w := w) (few_of c))) EvA.nil) CaF.sortS
  · cases e
end Lf
/-! ## sorted(d), d a dict by ints -/
namespace SortD
open PySem PySem.Calls PySem.Spec PyProof.Rows PyProof.V L2
section
variable {P : Program} {w : World} {A : Around} {E : Value → Shared → Prop} {s : Shared}
/-- what is gathered out of a source lies behind what was there -/
theorem gather {T : String} {r d : Addr} {n : Nat} {G : Nat → Value → Prop} {OK : Heap → Prop} {R : List Value → Shared → Prop} (K : PySem.W.KdlSrc P w T r d n G OK) (calm : A.handled = none) (ok : OK s.heap) (small : n ≤ sizeLine)
    (h : ∀ (h' : Heap) (tk : Nat) (acc : Array Value), (∀ b o, s.heap.get? b = some o → h'.get? b = some o) → s.heap.objs.size < h'.objs.size → ItemsOf G acc n → R acc.toList { s with heap := h', toks := tk }) : wpAny (model P w) A (collect (.ref r)) R E s := by
  obtain ⟨lr, ld⟩ := K.there _ ok
  have at0 : (s.heap.push { cls := .type "list", data := .seq ([] : List Value).toArray }).get? s.heap.objs.size = some { cls := .type "list", data := .seq #[] } := Heap.get?_push_size _ rfl
  have walk := PySem.W.kdl_extend (A := A) (s := { s with heap := s.heap.push { cls := .type "list", data := .seq ([] : List Value).toArray } }) (R := fun fin t => fin = .ok (.ret (.ref s.heap.objs.size)) ∧ ∃ (h' : Heap) (tk : Nat) (acc : Array Value) (c : Nat), t = { s with heap := h', toks := tk } ∧ (∀ b o, s.heap.get? b = some o → h'.get? b = some o) ∧ h'.get? s.heap.objs.size = some { cls := .type "list", dict := none, data := .seq acc c, slots := #[] } ∧ ItemsOf G acc n) K calm
    (K.keep _ _ ok fun b _ o e => Heap.get?_push_of_some _ e) s.heap.objs.size (Nat.ne_of_gt lr) (Nat.ne_of_gt ld) (.ref s.heap.objs.size) 0 at0
    (fun h' tk acc c old here items => ⟨rfl, h', tk, acc, c, rfl, fun b o e => old b o (Nat.ne_of_lt (Heap.lt_size e)) (Heap.get?_push_of_some _ e), here, items⟩) small
  have back : ∀ (t : Shared), (∃ (h' : Heap) (tk : Nat) (acc : Array Value) (c : Nat), t = { s with heap := h', toks := tk } ∧ (∀ b o, s.heap.get? b = some o → h'.get? b = some o) ∧ h'.get? s.heap.objs.size = some { cls := .type "list", dict := none, data := .seq acc c, slots := #[] } ∧ ItemsOf G acc n) →
      ∃ (acc : Array Value) (c : Nat), t.heap.get? s.heap.objs.size = some { cls := .type "list", dict := none, data := .seq acc c, slots := #[] } ∧ R acc.toList t := fun t ⟨h', tk, acc, c, e, old, here, items⟩ => by
    subst e
    exact ⟨acc, c, here, h h' tk acc old (Heap.lt_size here) items⟩
  unfold collect
  apply wpAny_bind
  apply wpAny_runValue
  apply codeAny_builtin F.entry_proto_collect
  rewrite [Around.under_plainId F.plain_proto_collect _]
  apply wpAny_bind
  refine wpAny_newObj_type ?_
  refine wpAny_pure (And.intro (plainId_quiet F.plain_list_iadd _) ?_)
  apply codeAny_builtin F.entry_list_iadd
  rewrite [Around.under_plainId F.plain_list_iadd _]
  refine wpAny_mono walk (fun fin t end_ => ?_) fun e t no => absurd no.1 (fun z => nomatch z)
  match fin, end_ with
  | .done f, ⟨e, more⟩ =>
    cases e
    obtain ⟨acc, c, here, done⟩ := back t more
    exact wpAny_bind (wpAny_load here (wpAny_pure done))
  | .again c', ⟨q, run⟩ =>
    refine ⟨q, codeAny_mono run fun fin t2 end2 => ?_⟩
    obtain ⟨e, more⟩ := end2
    subst e
    obtain ⟨acc, c, here, done⟩ := back t2 more
    exact wpAny_bind (wpAny_load here (wpAny_pure done))
/-- the keys of the dict at a, in order, as a new list -/
theorem keysInOrder {a : Addr} {kvs : List (Key × Value)} {ns : List Int} {Q : Value → Shared → Prop} (calm : A.handled = none) (lo : (a == sysModules) = false) (df : s.heap.DictOf (mixKind P w) a kvs) (small : kvs.length ≤ sizeLine) (ek : kvs.map (·.1) = ns.map Sum.inl)
    (q : ∀ (h' : Heap) (tk : Nat) (b : Addr) (out : Array Value) (c : Nat) (ms : List Int), (∀ x o, s.heap.get? x = some o → h'.get? x = some o) → s.heap.objs.size ≤ b → h'.get? b = some (seqObj "list" out c) → IntsAre out.toList ms → ms.Perm ns → ms.Pairwise (· ≤ ·) → Q (.ref b) { s with heap := h', toks := tk }) :
    wpAny (model P w) A (call (.builtin "sorted") [.ref a]) Q E s := by
  have nl : kvs.length = ns.length := by
    have := congrArg List.length ek
    rw [List.length_map, List.length_map] at this
    exact this
  obtain ⟨ep, hat⟩ := df.dictAt
  apply Calls.call_function_entry kind_sorted plain_sorted entry_sorted (args_sorted1 _)
  unfold Builtin.«sorted»
  apply wpAny_bind (m := checkCount "sorted" 1 1 _)
  apply wpAny_pure
  apply wpAny_bind
  refine gather (A := A.in1) (PySem.W.kdl_dict (knd := mixKind P w) (kvs := kvs) (ep := ep) lo) calm hat small fun h' tk acc old more items => ?_
  obtain ⟨il, ip⟩ := items
  have each : ∀ (j : Nat) (v : Value), acc.toList[j]? = some v → ∃ k t, ns[j]? = some k ∧ v = .int k t := fun j v hv => by
    obtain ⟨k, x, e, ik⟩ := ip j v (by rw [← Array.getElem?_toList]; exact hv)
    have e2 : (kvs.map (·.1))[j]? = some k := by
      rw [List.getElem?_map, e]
      rfl
    rw [ek, List.getElem?_map] at e2
    cases z : ns[j]? with
    | none =>
      rw [z] at e2
      cases e2
    | some n =>
      rw [z] at e2
      cases e2
      have e3 : ∃ t, v = .int n t := by
        cases v <;> first | exact ⟨_, by rw [eq_of_beq ik]⟩ | exact Bool.noConfusion ik
      obtain ⟨t, e3⟩ := e3
      exact ⟨n, t, rfl, e3⟩
  have len : acc.toList.length = ns.length := by rw [Array.length_toList, il, nl]
  have whole : IntsAre acc.toList (acc.toList.map SrtO.iv) := SrtO.ints_iv fun v hv => by
    obtain ⟨j, hj⟩ := List.mem_iff_getElem?.mp hv
    obtain ⟨k, t, _, e⟩ := each j v hj
    exact ⟨k, t, e⟩
  have keys : acc.toList.map SrtO.iv = ns := by
    refine List.ext_getElem? fun j => ?_
    rw [List.getElem?_map]
    cases z : acc.toList[j]? with
    | none =>
      rw [List.getElem?_eq_none (by rw [← len]; exact List.getElem?_eq_none_iff.mp z)]
      rfl
    | some v =>
      obtain ⟨k, t, e, e2⟩ := each j v z
      rw [e, e2]
      rfl
  apply wpAny_bind
  refine wpAny_newList ?_ (by rw [len, ← nl]; exact small)
  have at0 : (h'.push (seqObj "list" acc.toList.toArray 0)).get? h'.objs.size = some (seqObj "list" acc.toList.toArray 0) := Heap.get?_push_size _ rfl
  apply wpAny_bind
  apply wpAny_holding
  refine wpAny_call_entry slot_list_sort ⟨_, at0, rfl⟩ entry_list_sort (SrtO.list_sort_ord SrtO.swo_int at0 (by rw [len, ← nl]; exact small) (fun h2 => SrtO.ints_sortable whole h2) fun out h1 h2 => ?_) (args_list_sort _)
  obtain ⟨k1, k2, k3⟩ := SrtO.ints_out whole h1 h2
  obtain ⟨c, hc⟩ := sortedHeap_at (vs := acc.toList) (out := out.toArray) at0
  refine ⟨_, rfl, wpAny_pure ⟨_, rfl, q _ _ h'.objs.size out.toArray c (out.map SrtO.iv) (fun x u e => ?_) (Nat.le_of_lt more) hc k1 (keys ▸ k2) k3⟩⟩
  have e1 := old x u e
  have lt := Heap.lt_size e1
  show (sortedHeap (h'.push (seqObj "list" acc.toList.toArray 0)) h'.objs.size acc.toList out.toArray).get? x = some u
  rw [sortedHeap_old (Nat.ne_of_lt lt) (by rw [size_push']; exact Nat.lt_succ_of_lt lt)]
  exact Heap.get?_push_of_some _ e1
end
end SortD
namespace Lf
open PySem PySem.Spec PyProof.Rows L2
open PySem.W (Frag)
section
variable {X : Cx}
def rSortD : List V → Hp → VK → Prop := fun xs H Q => ∃ (a : Addr) (kvs : List (Key × V)) (ns : List Int), xs = [.ref a] ∧ Rd H a (.dK kvs) ∧ kvs.map (·.1) = ns.map Sum.inl ∧
  ∀ (ms : List Int) (p : Addr), ms.Perm ns → ms.Pairwise (· ≤ ·) → ms.length ≤ sizeLine → H p = none → Q (.ref p) (upd H p (.lst (ms.map V.int)))
theorem kv_keys : ∀ {kvs : List (Key × V)} {vs : List (Key × Value)}, KV kvs vs → vs.map (·.1) = kvs.map (·.1)
  | _, _, .nil => rfl
  | _, _, .cons r t => by rw [List.map_cons, List.map_cons, kv_keys t, r.1]
theorem cr_sortD (hc : X.calm = true) : CallR X (.builtin "sorted") rSortD := by
  intro pins s σ H xs us Q I r h
  obtain ⟨a, kvs, ns, rfl, hd, ek, q⟩ := h
  rw [Vals.ref1 r]
  have ok : ObjOk X.prog X.w H s.heap a (.dK kvs) := by
    rcases hd with e | ⟨o, e⟩
    · exact I.hok a _ e
    · exact (I.hok a _ e).2
  obtain ⟨small, lo, vs, kv, df⟩ := ok
  have ev := kv_keys kv
  have nl : kvs.length = ns.length := by
    have := congrArg List.length ek
    rw [List.length_map, List.length_map] at this
    exact this
  have vl : vs.length = kvs.length := by
    have := congrArg List.length ev
    rw [List.length_map, List.length_map] at this
    exact this
  refine SortD.keysInOrder (I.ok.hd hc) lo df (by rw [vl]; exact small) (ev.trans ek) fun h' tk b out c ms k new at_ isI perm inc => ?_
  have sm : ms.length ≤ sizeLine := by
    rw [perm.length_eq, ← nl]
    exact small
  have free : H b = none := I.hok.fresh new
  exact ⟨.ref b, upd H b (.lst (ms.map V.int)), I.laid (t' := tk) k new ⟨by rw [List.length_map]; exact sm, out.toList, c, vals_of_ints isI, at_⟩, rfl, q ms b perm inc sm free⟩
end
end Lf
/-! ## Readings told by plain data: loops with break, more walks, sorted lists, displays -/
namespace Lf
open PySem PySem.Spec PyProof.Rows L2
open PySem.W (Frag)
open He (ga)
/-! a loop that may be broken off -/
inductive Brk (S : Type) where
  | go (s : S) | out (s : S)
def Res.until {α S : Type} (f : S → α → Res (Brk S)) : List α → S → Res S
  | [], s => .ok s
  | x :: xs, s => Res.bind (f s x) fun c => match c with
    | .go s' => Res.until f xs s'
    | .out s' => .ok s'
def BkPost (D : Ends) (G : Hp) (p : Gm × List Ent) : Prop := ∀ (σ : L2.St) (G2 H2 : Hp), Le G G2 → Reps G2 σ p.1 → At G2 p.2 H2 → D.bk σ H2
section
variable {K : Frag} {W : WX} {ωe : List Ent} {X R S T : Type} {Γ : Gm} {ω ω1 ω2 ω3 : List Ent} {Z : ZF K W ωe X} {t u tbs : TS} {te ta tb : TE} {tt : TT} {fn : S → Gm × List Ent} {α β : Type} [Rp α] [Rp β] {a b m : MP}
def zK (K : Frag) (W : WX) (ωe : List Ent) (fn : S → Gm × List Ent) : ZF K W ωe (Brk S) where
  z m D G := m ≠ .bad ∧ (∀ s, m = .ok (.go s) → NxPost D G (fn s)) ∧ (∀ s, m = .ok (.out s) → BkPost D G (fn s)) ∧ ∀ x, m = .err x → PostE K W ωe G x
  mono s h := ⟨h.1, fun r e => (h.2.1 r e).mono s, fun r e v G3 H3 s3 => h.2.2.1 r e v G3 H3 (s.trans s3), fun x e => (h.2.2.2 x e).mono s⟩
  nobad h := h.1 rfl
  err h := h.2.2.2 _ rfl
theorem Go.nextK {s : S} (a : Sub Γ (fn s).1) (d : Dr ω (fn s).2) : Go tNext Γ ω (zK K W ωe fn) (.ok (.go s)) := fun σ G H D rp w z => z.2.1 s rfl σ G H (Le.refl _) (rp.sub a) (d.at w)
theorem Go.brk {s : S} (a : Sub Γ (fn s).1) (d : Dr ω (fn s).2) : Go tBreak Γ ω (zK K W ωe fn) (.ok (.out s)) := fun σ G H D rp w z => z.2.2.1 s rfl σ G H (Le.refl _) (rp.sub a) (d.at w)
theorem until_drop {fb : S → α → Res (Brk S)} {xs : List α} {i : Nat} {a : α} (h : xs[i]? = some a) (s : S) : Res.until fb (xs.drop i) s = Res.bind (fb s a) fun c => match c with
    | .go s' => Res.until fb (xs.drop (i + 1)) s'
    | .out s' => .ok s' := by
  have lt := (List.getElem?_eq_some_iff.mp h).1
  rw [List.drop_eq_getElem_cons lt, (List.getElem?_eq_some_iff.mp h).2]
  rfl
theorem Go.forK {wi : TI} {g : TG} {P : List Ent → Prop} {xs : List α} {fb : S → α → Res (Brk S)} {s0 : S} {Γb : S → α → Gm} (hi : IterX K wi Γ ω ω1 P xs) (h0 : Sub Γ (fn s0).1) (d0 : Dr ω1 (fn s0).2) (hP : ∀ s, P (fn s).2) (ht : ∀ s, TgX K g (fn s).1 (Γb s)) (hb : ∀ s a, Go tbs (Γb s a) (fn s).2 (zK K W ωe fn) (fb s a)) :
    Go (tFor wi g tbs) Γ ω (zN K W ωe fn) (Res.until fb xs s0) := fun σ G H D rp w z => hi σ G H _ rp w fun J G2 H2 s2 w2 wk => by
  refine ⟨fun i m σ' H' => m = xs.length - i ∧ i ≤ xs.length ∧ ∃ s G', Le G2 G' ∧ Reps G' σ' (fn s).1 ∧ At G' (fn s).2 H' ∧ Res.until fb (xs.drop i) s = Res.until fb xs s0, ⟨xs.length, by simp, Nat.zero_le _, s0, G2, Le.refl _, (rp.mono s2).sub h0, d0.at w2, rfl⟩, ?_⟩
  rintro i m σ' H' ⟨rfl, hle, s, G', sG, r', w', ef⟩
  by_cases hlt : i < xs.length
  · obtain ⟨y, hx⟩ : ∃ y, xs[i]? = some y := ⟨_, List.getElem?_eq_getElem hlt⟩
    rw [until_drop hx] at ef
    refine .inr ⟨wk.go G' _ H' i sG w' (hP s) hlt, fun σ3 H3 => ∃ s3 G3, Le G2 G3 ∧ Reps G3 σ3 (fn s3).1 ∧ At G3 (fn s3).2 H3 ∧ Res.until fb (xs.drop (i + 1)) s3 = Res.until fb xs s0, fun σ3 H3 q => ⟨xs.length - (i + 1), by omega, rfl, hlt, q⟩, fun x H3 y => ?_⟩
    obtain ⟨G3, s3, w3, px⟩ := wk.yld G' _ H' i x H3 _ sG w' (hP s) hx y
    refine ht s _ σ' G3 H3 _ x _ (r'.mono s3) w3 px fun σ4 r4 => ?_
    refine hb s _ σ4 G3 H3 _ r4 w3 ⟨fun q => ?_, fun s5 q σ5 G5 H5 s5' r5 w5 => ?_, fun s5 q σ5 G5 H5 s5' r5 w5 => ?_, fun e q => ?_⟩
    · rw [q] at ef
      exact z.1 ef.symm
    · rw [q] at ef
      exact ⟨s5, G5, sG.trans (s3.trans s5'), r5, w5, ef⟩
    · rw [q] at ef
      exact z.2.1 s5 ef.symm σ5 G5 H5 (s2.trans (sG.trans (s3.trans s5'))) r5 w5
    · rw [q] at ef
      exact PostE.mono (s2.trans (sG.trans s3)) (z.2.2 e ef.symm)
  · obtain rfl : i = xs.length := by omega
    rw [List.drop_length] at ef
    exact .inl ⟨wk.stop G' _ H' sG w' (hP s), z.2.1 s ef.symm σ' G' H' (s2.trans sG) r' w'⟩
/-! range(a, b, -1) -/
def idown (hi lo : Int) : Option (List Int) := if -(2 ^ 60) ≤ lo ∧ lo < 2 ^ 60 ∧ -(2 ^ 60) ≤ hi ∧ hi < 2 ^ 60 ∧ (hi - lo).toNat ≤ sizeLine then some ((List.range (hi - lo).toNat).map fun (i : Nat) => hi + (i : Int) * (-1)) else none
theorem walk_down {G0 : Hp} {hi : Int} {n : Nat} (hn : n ≤ sizeLine) : WalkX K G0 Any (Itc hi (-1) n) ((List.range n).map fun (i : Nat) => hi + (i : Int) * (-1)) := by
  have lw := walk_rng (K := K) (G0 := G0) (lo := hi) hn
  refine ⟨by simpa using lw.len, fun G ω H i s w q h => by simpa [Itc] using h, fun G ω H s w q => by simp [Itc], fun G ω H i x H' a _ w _ h y => ?_⟩
  obtain ⟨rfl, rfl⟩ := y
  rw [List.getElem?_map] at h
  cases z : (List.range n)[i]? with
  | none =>
    rw [z] at h
    cases h
  | some j =>
    rw [z] at h
    obtain ⟨l, e⟩ := List.getElem?_eq_some_iff.mp z
    rw [List.getElem_range] at e
    subst e
    cases h
    exact ⟨G, Le.refl _, w, rfl⟩
theorem IterX.down {tA : TA} {hi lo : Int} {xs : List Int} (h : EvA tA Γ ω ω1 [is K hi, is K lo, is K (-1 : Int)]) (e : idown hi lo = some xs) : IterX K (iRng3 tA) Γ ω ω1 Any xs := fun σ G H R r w q => h σ G H _ r w fun vs G1 H1 s1 w1 p1 => by
  cases p1 with
  | cons p1 t => cases t with
    | cons p2 t => cases t with
      | cons p3 t =>
        cases t
        cases p1
        cases p2
        cases p3
        unfold idown at e
        split at e
        · rename_i c
          cases e
          exact ⟨hi, lo, -1, (hi - lo).toNat, rfl, RgC.neg (by omega) (by omega) (by omega) (by omega), q _ G1 H1 s1 w1 (walk_down c.2.2.2.2)⟩
        · cases e
/-! range(a, b) of great ints -/
def irngL (lo hi : Int) : Option (List Int) := if (hi - lo).toNat ≤ sizeLine then some ((List.range (hi - lo).toNat).map fun (i : Nat) => lo + (i : Int)) else none
theorem IterX.rngL {tA : TA} {lo hi : Int} {xs : List Int} (h : EvA tA Γ ω ω1 [is K lo, is K hi]) (e : irngL lo hi = some xs) : IterX K (RC.iRngL tA) Γ ω ω1 Any xs := fun σ G H R r w q => h σ G H _ r w fun vs G1 H1 s1 w1 p1 => by
  obtain ⟨v, v', rfl, pv, pv'⟩ := PArgs.two p1
  cases pv
  cases pv'
  unfold irngL at e
  split at e
  · rename_i c
    cases e
    exact ⟨lo, hi, rfl, q _ G1 H1 s1 w1 (walk_rng c)⟩
  · cases e
/-! enumerate(xs) -/
def nums : Nat → List α → List (Int × α)
  | _, [] => []
  | n, x :: xs => ((n : Int), x) :: nums (n + 1) xs
theorem nums_len {γ : Type} : ∀ (n : Nat) (xs : List γ), (nums n xs).length = xs.length
  | _, [] => rfl
  | n, x :: xs => by
    show (nums (n + 1) xs).length + 1 = xs.length + 1
    rw [nums_len]
theorem nums_at {γ : Type} : ∀ (n i : Nat) (xs : List γ), (nums n xs)[i]? = (xs[i]?).map fun x => (((n + i : Nat) : Int), x)
  | _, _, [] => rfl
  | n, 0, x :: xs => rfl
  | n, i + 1, x :: xs => by
    show (nums (n + 1) xs)[i]? = (xs[i]?).map _
    rw [nums_at, show n + 1 + i = n + (i + 1) by omega]
theorem IterX.enum {tA : TA} {xs : List α} (h : EvA tA Γ ω ω1 [is K xs]) : IterX K (iEnum K tA) Γ ω ω1 Any (nums 0 xs) := fun σ G H R r w q => h σ G H _ r w fun vs G1 H1 s1 w1 p1 => by
  obtain ⟨v, rfl, a, us, rfl, e, ha, l⟩ := PArgs.one p1
  refine ⟨a, us, rfl, RC.sq_of (w1.lst e), q _ G1 H1 s1 w1 ⟨by rw [nums_len]; exact l, fun G ω H i s w _ hi => ?_, fun G ω H s w _ => ?_, fun G ω H i x H' b s w _ hi y => ?_⟩⟩
  · rw [nums_len, ← Paired.len ha] at hi
    exact ⟨us, us[i], RC.sq_of (w.lst (s.at e)), List.getElem?_eq_getElem hi⟩
  · exact ⟨us, RC.sq_of (w.lst (s.at e)), by rw [nums_len]; exact Nat.le_of_eq (Paired.len ha)⟩
  · obtain ⟨T, u, rfl, free, rfl, hu⟩ := y
    rw [nums_at, Nat.zero_add] at hi
    cases z : xs[i]? with
    | none =>
      rw [z] at hi
      cases hi
    | some x =>
      rw [z] at hi
      cases hi
      obtain ⟨v', ev, pv⟩ := Paired.at_ ha z
      have e2 := hu us (RC.sq_of (w.lst (s.at e)))
      obtain rfl : v' = u := Option.some.inj (ev.symm.trans e2)
      obtain ⟨w2, s2⟩ := w.new (o := .tup [.int (i : Nat), v']) free
      exact ⟨_, s2, w2, T, _, v', rfl, upd_same, rfl, Rp.mono (s.trans s2) pv⟩
/-! sorted(d); the greatest, the least of a list of ints -/
theorem keys_of {G : Hp} : ∀ {kvs : List (Key × V)} {l : List (Int × α)}, AllD K G kvs l → kvs.map (·.1) = (l.map (·.1)).map Sum.inl
  | _, _, .nil => rfl
  | _, _, .cons r t => by
    rw [List.map_cons, List.map_cons, List.map_cons, keys_of t, r.1]
    rfl
theorem CaF.sortD {d : Dic Int α} : CaF rSortD ω ω [is K d] (olst K (Lf.sortI (d.l.map (·.1)))) := fun G H vs Q wA pa q => by
  obtain ⟨v, rfl, pv⟩ := PArgs.one pa
  obtain ⟨p, kvs, rfl, rd, al⟩ := DicAt.of (K := K) (ω := ω) (d := d) G H v wA pv
  refine ⟨p, kvs, d.l.map (·.1), rfl, rd, keys_of al, fun ms b perm inc small free => ?_⟩
  have en : ms = Lf.sortI (d.l.map (·.1)) := le_eq inc (sortI_inc _) (perm.trans (sortI_perm _).symm)
  rw [en] at small ⊢
  exact q b G _ (Le.refl _) (newL wA free (all_ints _) small)
def maxL : List Int → Option Int
  | [] => none
  | x :: xs => some (xs.foldl max x)
theorem fold_max : ∀ (xs : List Int) (x : Int), xs.foldl max x ∈ x :: xs ∧ ∀ y ∈ x :: xs, y ≤ xs.foldl max x
  | [], x => ⟨List.mem_cons_self, fun y h => by
    rw [List.mem_singleton.mp h]
    exact Int.le_refl _⟩
  | z :: xs, x => by
    obtain ⟨h1, h2⟩ := fold_max xs (max x z)
    rw [List.foldl_cons]
    refine ⟨?_, fun y hy => ?_⟩
    · rcases List.mem_cons.mp h1 with e | e
      · rw [e]
        rcases Int.le_total x z with l | l
        · rw [Int.max_eq_right l]
          exact List.mem_cons_of_mem _ List.mem_cons_self
        · rw [Int.max_eq_left l]
          exact List.mem_cons_self
      · exact List.mem_cons_of_mem _ (List.mem_cons_of_mem _ e)
    · have top := h2 _ List.mem_cons_self
      rcases List.mem_cons.mp hy with e | e
      · rw [e]
        exact Int.le_trans (Int.le_max_left _ _) top
      · rcases List.mem_cons.mp e with e | e
        · rw [e]
          exact Int.le_trans (Int.le_max_right _ _) top
        · exact h2 y (List.mem_cons_of_mem _ e)
theorem CaX.maxI {xs : List Int} {y : Int} (h : maxL xs = some y) : CaX (rMax K) ω ω [is K xs] (is K y) := fun G H vs Q w p q => by
  obtain ⟨v, rfl, a, us, rfl, e, ha, l⟩ := PArgs.one p
  cases xs with
  | nil => cases h
  | cons x xs =>
    cases h
    refine ⟨a, x :: xs, rfl, by rw [← ints_of ha]; exact RC.sq_of (w.lst e), Nat.succ_pos _, fun m hm top => ?_⟩
    obtain ⟨h1, h2⟩ := fold_max xs x
    have e1 := top _ h1
    have e2 := h2 _ hm
    obtain rfl : m = xs.foldl max x := by omega
    exact q _ G H (Le.refl _) w rfl
def minI : List Int → Option Int
  | [] => none
  | x :: xs => some (xs.foldl min x)
theorem fold_min : ∀ (xs : List Int) (x : Int), xs.foldl min x ∈ x :: xs ∧ ∀ y ∈ x :: xs, xs.foldl min x ≤ y
  | [], x => ⟨List.mem_cons_self, fun y h => by
    rw [List.mem_singleton.mp h]
    exact Int.le_refl _⟩
  | z :: xs, x => by
    obtain ⟨h1, h2⟩ := fold_min xs (min x z)
    rw [List.foldl_cons]
    refine ⟨?_, fun y hy => ?_⟩
    · rcases List.mem_cons.mp h1 with e | e
      · rw [e]
        rcases Int.le_total x z with l | l
        · rw [Int.min_eq_left l]
          exact List.mem_cons_self
        · rw [Int.min_eq_right l]
          exact List.mem_cons_of_mem _ List.mem_cons_self
      · exact List.mem_cons_of_mem _ (List.mem_cons_of_mem _ e)
    · have low := h2 _ List.mem_cons_self
      rcases List.mem_cons.mp hy with e | e
      · rw [e]
        exact Int.le_trans low (Int.min_le_left _ _)
      · rcases List.mem_cons.mp e with e | e
        · rw [e]
          exact Int.le_trans low (Int.min_le_right _ _)
        · exact h2 y (List.mem_cons_of_mem _ e)
theorem CaX.minI {xs : List Int} {y : Int} (h : minI xs = some y) : CaX (rMin K) ω ω [is K xs] (is K y) := fun G H vs Q w p q => by
  obtain ⟨v, rfl, a, us, rfl, e, ha, l⟩ := PArgs.one p
  cases xs with
  | nil => cases h
  | cons x xs =>
    cases h
    refine ⟨a, x :: xs, rfl, by rw [← ints_of ha]; exact RC.sq_of (w.lst e), Nat.succ_pos _, fun m hm low => ?_⟩
    obtain ⟨h1, h2⟩ := fold_min xs x
    have e1 := low _ h1
    have e2 := h2 _ hm
    obtain rfl : m = xs.foldl min x := by omega
    exact q _ G H (Le.refl _) w rfl
/-! sorted(xs), pairs of ints -/
def leQ (x y : Int × Int) : Prop := x.1 < y.1 ∨ (x.1 = y.1 ∧ x.2 ≤ y.2)
instance (x y : Int × Int) : Decidable (leQ x y) := inferInstanceAs (Decidable (_ ∨ _))
def insP (x : Int × Int) : List (Int × Int) → List (Int × Int)
  | [] => [x]
  | y :: ys => if leQ x y then x :: y :: ys else y :: insP x ys
def sortP (l : List (Int × Int)) : List (Int × Int) := l.foldr insP []
theorem insP_perm (x : Int × Int) : ∀ l : List (Int × Int), (insP x l).Perm (x :: l)
  | [] => .refl _
  | y :: ys => by
    unfold insP
    split
    · exact .refl _
    · exact ((insP_perm x ys).cons y).trans (.swap x y ys)
theorem insP_inc (x : Int × Int) : ∀ {l : List (Int × Int)}, l.Pairwise leQ → (insP x l).Pairwise leQ
  | [], _ => by simp [insP]
  | y :: ys, h => by
    have h1 := (List.pairwise_cons.mp h).1
    have h2 := (List.pairwise_cons.mp h).2
    unfold insP
    split
    · rename_i c
      refine List.pairwise_cons.mpr ⟨fun z hz => ?_, h⟩
      rcases List.mem_cons.mp hz with e | e
      · rw [e]
        exact c
      · have := h1 z e
        unfold leQ at *
        omega
    · rename_i c
      refine List.pairwise_cons.mpr ⟨fun z hz => ?_, insP_inc x h2⟩
      rcases List.mem_cons.mp ((insP_perm x ys).mem_iff.mp hz) with e | e
      · rw [e]
        unfold leQ at *
        omega
      · exact h1 z e
theorem sortP_perm : ∀ l : List (Int × Int), (sortP l).Perm l
  | [] => .refl _
  | x :: l => (insP_perm x _).trans ((sortP_perm l).cons x)
theorem sortP_inc : ∀ l : List (Int × Int), (sortP l).Pairwise leQ
  | [] => .nil
  | x :: l => insP_inc x (sortP_inc l)
theorem leQ_eq {xs ys : List (Int × Int)} (h1 : xs.Pairwise leQ) (h2 : ys.Pairwise leQ) (p : xs.Perm ys) : xs = ys := List.Perm.eq_of_pairwise (fun a b _ _ x y => by
  unfold leQ at x y
  exact Prod.ext (by omega) (by omega)) h1 h2 p
/-- the pair at a place -/
def pairAt (H : Hp) : V → Int × Int
  | .ref t => match H t with
    | some (.tup [.int i, .int j]) => (i, j)
    | _ => (0, 0)
  | _ => (0, 0)
theorem pairAt_of {G H : Hp} {v : V} {x : Int × Int} (w : At G ω H) (h : Rp.rep K G v x) : (∃ t, v = .ref t ∧ H t = some (.tup [.int (pairAt H v).1, .int (pairAt H v).2])) ∧ pairAt H v = x := by
  obtain ⟨t, i, j, rfl, e, h1, h2⟩ := h
  cases h1
  cases h2
  have e2 := w.get e
  have q : pairAt H (.ref t) = x := by
    unfold pairAt
    dsimp only
    rw [e2]
  rw [q]
  exact ⟨⟨t, rfl, e2⟩, rfl⟩
theorem CaF.sortP {xs : List (Int × Int)} : CaF (rSortedPO K) ω ω [is K xs] (olst K (Lf.sortP xs)) := fun G H vs Q wA pa q => by
  obtain ⟨v, rfl, a, us, rfl, e, ha, l⟩ := PArgs.one pa
  have each : ∀ u ∈ us, ∃ x, Rp.rep K G u x ∧ pairAt H u = x := fun u hu => by
    obtain ⟨i, hi⟩ := List.mem_iff_getElem?.mp hu
    have li : i < xs.length := by
      rw [← Paired.len ha]
      exact (List.getElem?_eq_some_iff.mp hi).1
    obtain ⟨v', ev, pv⟩ := Paired.at_ ha (List.getElem?_eq_getElem li)
    obtain rfl : v' = u := Option.some.inj (ev.symm.trans hi)
    exact ⟨_, pv, (pairAt_of wA pv).2⟩
  have keys : ∀ {vs : List V} {ys : List (Int × Int)}, All K G vs ys → vs.map (pairAt H) = ys := fun h => by
    induction h with
    | nil => rfl
    | cons r t ih => rw [List.map_cons, ih, (pairAt_of wA r).2]
  refine ⟨a, us, pairAt H, rfl, RC.sq_of (wA.lst e), fun u hu => ?_, fun ys b srt stb free => ?_⟩
  · obtain ⟨x, px, _⟩ := each u hu
    exact (pairAt_of wA px).1
  · have al : All K G ys (ys.map (pairAt H)) := by
      have : ∀ zs : List V, (∀ z ∈ zs, z ∈ us) → All K G zs (zs.map (pairAt H)) := fun zs => by
        induction zs with
        | nil => exact fun _ => .nil
        | cons z zs ih =>
          intro h
          obtain ⟨x, px, ex⟩ := each z (h z List.mem_cons_self)
          exact .cons (by rw [ex]; exact px) (ih fun y hy => h y (List.mem_cons_of_mem _ hy))
      exact this ys fun z hz => stb.perm.mem_iff.mp hz
    have en : ys.map (pairAt H) = Lf.sortP xs := by
      refine leQ_eq ?_ (sortP_inc _) (((stb.perm.map _).trans (List.Perm.of_eq (keys ha))).trans (sortP_perm xs).symm)
      rw [List.pairwise_map]
      refine List.Pairwise.imp (fun {x y} h => ?_) srt
      have := SrtO.lexB_no.mp h
      unfold leQ
      omega
    rw [en] at al
    exact q b G _ (Le.refl _) (newL wA free al (by rw [(sortP_perm xs).length_eq]; exact l))
/-! None in a list; x == 1 of what may be None -/
theorem flat_opt {G : Hp} {vs : List V} {xs : List (Option Int)} (h : All K G vs xs) : inV .non vs = decide (none ∈ xs) ∧ vs.all flatV = true := by
  induction h with
  | nil => exact ⟨rfl, rfl⟩
  | @cons v x vs xs r t ih =>
    obtain ⟨h1, h2⟩ := ih
    cases x with
    | none =>
      cases (show v = .non from r)
      refine ⟨by simp [inV, eqV], ?_⟩
      rw [List.all_cons, h2]
      rfl
    | some i =>
      cases (show v = .int i from r.1)
      refine ⟨?_, by rw [List.all_cons, h2]; rfl⟩
      unfold inV at h1 ⊢
      rw [List.any_cons, h1]
      simp [eqV]
theorem OpX.inN {xs : List (Option Int)} : OpX (rIn K false) ω ω (is K ()) (is K xs) (is K (decide (none ∈ xs))) := fun G H u v Q w p1 p2 q => by
  cases (show u = .non from p1)
  obtain ⟨a, us, rfl, ea, ha, _⟩ := p2
  obtain ⟨h1, h2⟩ := flat_opt ha
  exact ⟨a, us, rfl, .inl (RC.sq_of (w.lst ea)), rfl, h2, by rw [if_neg (by decide), h1]; exact q _ G H (Le.refl _) w rfl⟩
/-! {k: x} -/
theorem EvF.done {κ : Type} [KpV κ] {k : κ} {x : α} {tk tv : TE} (h1 : ∀ p, EvX tk Γ (.own p (odic K (Dic.mk [] : Dic κ α)) :: ω) (.own p (odic K (Dic.mk [] : Dic κ α)) :: ω) (is K k)) (h2 : ∀ p, EvX tv Γ (.own p (odic K (Dic.mk [] : Dic κ α)) :: ω) (.own p (odic K (Dic.mk [] : Dic κ α)) :: ω) (is K x)) :
    EvF (tDisp [(tk, tv)]) Γ ω ω (odic K (Dic.mk [(k, x)])) := fun σ G H Q r w q p hp => by
  have w1 : At G (.own p (odic K (Dic.mk [] : Dic κ α)) :: ω) (upd H p (.dK [])) := w.newOwn hp ⟨[], rfl, .nil, Nat.zero_le _⟩
  refine h1 p σ G _ _ r w1 fun v1 G1 H1 s1 w2 p1 => h2 p σ G1 H1 _ (r.mono s1) w2 fun v2 G2 H2 s2 w3 p2 => ?_
  obtain ⟨o, ho, kvs, rfl, ha, _⟩ := w3.ownAt (k := 0) rfl
  cases ha
  have ek : v1 = kV (Kp.key k) := KpV.kv p1
  refine ⟨ho, [(Kp.key k, v2)], by rw [ek]; rfl, by show 1 ≤ 15; decide, q p G2 _ (s1.trans s2) ?_⟩
  exact w3.put (k := 0) (φ' := odic K (Dic.mk [(k, x)])) rfl ⟨_, rfl, .cons ⟨rfl, p2⟩ .nil, by show 1 ≤ sizeLine; decide⟩
/-! a, b, c = .. -/
theorem Go.par3 {i j l : Nat} {tA : TA} {c : MP} {x : Res X} (h : EvA tA Γ ω ω1 [a, b, c]) (k : Go u (((Γ.set i (some a)).set j (some b)).set l (some c)) ω1 Z x) :
    Go (tSeq (tAsg (tTup tA) (gTup K 3 (gCons (gName i) (gCons (gName j) (gCons (gName l) gNil))))) u) Γ ω Z x := fun σ G H D rp w z => h σ G H _ rp w fun vs G2 H2 s w2 p => by
  cases p with
  | @cons v1 _ _ _ p1 t => cases t with
    | @cons v2 _ _ _ p2 t => cases t with
      | @cons v3 _ _ _ p3 t =>
        cases t
        refine ⟨by show 3 ≤ sizeLine; decide, fun e he => ?_⟩
        obtain ⟨w3, s3⟩ := w2.new (o := .tup [v1, v2, v3]) he
        refine ⟨e, [v1, v2, v3], rfl, RC.st_of upd_same, rfl, v1, [v2, v3], rfl, v2, [v3], rfl, v3, [], rfl, rfl, ?_⟩
        exact k _ _ _ D (((((rp.mono s).mono s3).set (a.mono s3 p1)).set (b.mono s3 p2)).set (c.mono s3 p3)) w3 (Z.mono (s.trans s3) z)
/-! [a, .., *xs] -/
theorem EvF.starR {xs zs : List α} {tl : TE} {t0 : TE} {y : α} (h0 : EvX t0 Γ ω ω1 (is K y)) (h : EvX tl Γ ω1 ω2 (is K xs)) (ec : cat [y] xs = some zs) : EvF (tLst (tCons t0 (StX.tStar K tl tNil))) Γ ω ω2 (olst K zs) := fun σ G H Q r w q => h0 σ G H _ r w fun v0 G0 H0 s0 w0 p0 => h σ G0 H0 _ (r.mono s0) w0 fun v G1 H1 s1 w1 p1 => by
  obtain ⟨a, us, rfl, ea, ha, l⟩ := p1
  refine ⟨a, us, rfl, .inr (RC.sq_of (w1.lst ea)), ?_⟩
  unfold cat at ec
  split at ec
  · rename_i c
    cases ec
    have al : All K G1 (v0 :: (us ++ [])) ([y] ++ xs) := by
      rw [List.append_nil]
      exact .cons (Rp.mono s1 p0) ha
    have hl : (v0 :: (us ++ [])).length ≤ sizeLine := by rw [Paired.len al, List.length_append]; exact c
    exact ⟨hl, fun p hp => q p G1 _ (s0.trans s1) (newL w1 hp al (by rw [List.length_append]; exact c))⟩
  · cases ec
end
end Lf
/-! ## The end of a law's walk -/
namespace Lf
open PySem PySem.Spec PyProof.Rows L2 RC
open PySem.W (Frag)
section
variable {P : Program} {w : World} {K : Frag} {mg : Str → Option Value} {base : Heap} {k : Nat} {f : Addr} {fd : FuncData} {ps : List Str} {sp : Sp}
/-- where no error is promised: one cannot come -/
def quiet (sp : Sp) : Sp := fun vs H Q _ => sp vs H Q fun _ _ _ => False
theorem quiet_cr {outer : List Env} {H : Hp} {s : Shared} {Q : VK} {E : XK} {r : Result} {s' : Shared} (h : CR (L2.CX P w) outer P w H s Q (fun _ _ _ => False) r s') : CR CX0 outer P w H s Q E r s' := by
  match r, h with
  | .error e, h =>
    obtain ⟨_, _, _, _, _, _, _, _, _, _, _, _, no⟩ := h
    exact no.elim
  | .ok (.ret u), h => exact h
theorem quietG (F : FnOkG P w K mg base (L2.CX P w) k f fd ps sp) : FnOkG P w K mg base CX0 k f fd ps (quiet sp) :=
  ⟨fun vs H Q _ h => F.len vs H Q _ h, fun A outer s H args us vs Q E hg hr e0 hb r h => codeAny_mono (F.run A outer s H args us vs Q _ hg hr e0 hb r h) fun _ _ h => quiet_cr h⟩
theorem quiet1 (F : FnOk P w K mg base (L2.CX P w) k f fd ps sp) : FnOk P w K mg base CX0 k f fd ps (quiet sp) :=
  ⟨fun vs H Q _ h => F.len vs H Q _ h, fun A outer s H args us vs Q E hr e0 hb r h => codeAny_mono (F.run A outer s H args us vs Q _ hr e0 hb r h) fun _ _ h => quiet_cr h⟩
theorem At.nil {H : Hp} (h : Only H) : At H [] H := ⟨fun b o e => by
    rcases h b with z | ⟨u, xs, z⟩
    · rw [z] at e
      cases e
    · rw [z] at e
      cases e
      exact z, fun _ _ _ e => (nomatch e), fun _ _ _ _ e => (nomatch e)⟩
theorem Says.yes {H : Hp} {m : Res Bool} {E : XK} (e : m = .ok true) : Says K H [] m (fun (r : Bool) => RS.val (is K r) []) (fun v _ => v = .bl true) E := Says.ok' e fun _ _ _ _ _ p => p
theorem PArgs.sc {H : Hp} {a : Addr} {ns : List Int} (h : SqL K H a (ns.map V.int)) : PArgs H [.ref a] [is K (Sc.mk ns)] := .cons ⟨a, rfl, h⟩ .nil
end
end Lf
/-! ## Readings told by plain data: errors raised, caught and kept -/
namespace Lf
open PySem PySem.Spec PyProof.Rows L2
open PySem.W (Frag)
open He (ga)
/-- a kept error -/
instance : Rp Exn := ⟨fun K G v x => ∃ a d u, v = .ref a ∧ G a = some (RC.ErrO (.ref (ga K x.cls)) (some d) a) ∧ G d = some (.xd [(("value" : Str), u)]) ∧ Rp.rep K G u x.val, fun s ⟨a, d, u, e, h1, h2, h3⟩ => ⟨a, d, u, e, s.at h1, s.at h2, Rp.mono s h3⟩⟩
/-- what a try keeps: the error, if it is one of these -/
def Res.caught {R : Type} (L : List Str) : Res R → Res (Option Exn)
  | .ok _ => .ok none
  | .err e => if e.cls ∈ L then .ok (some e) else .bad
  | .bad => .bad
theorem Reps.off {G : Hp} {σ : L2.St} {Γ : Gm} {i : Nat} {o : Option V} (h : Reps G σ Γ) : Reps G (σ.set i o) (Γ.set i none) := by
  refine ⟨by rw [List.length_set, List.length_set, h.1], fun j m e => ?_⟩
  by_cases z : i = j
  · subst z
    by_cases l : i < Γ.length
    · rw [List.getElem?_set_self l] at e
      cases e
    · rw [List.getElem?_eq_none (by rw [List.length_set]; omega)] at e
      cases e
  · rw [List.getElem?_set_ne z] at e ⊢
    exact h.2 j m e
section
variable {K : Frag} {W : WX} {ωe : List Ent} {X R : Type} {Γ : Gm} {ω ω1 : List Ent} {Z : ZF K W ωe X} {u : TS} {ta : TA} {ms : List MP} {sp : Sp} {fo : R → RS}
theorem Go.raise {c : Str} {x : PV} (h : EvA ta Γ ω ω1 [is K x]) (hd : Dr ω1 ωe) : Go (RC.tRaiseE (ga K c) W ta) Γ ω Z (.err ⟨c, x⟩ : Res X) := fun σ G H D rp w z => h σ G H _ rp w fun vs G2 H2 s2 w2 p2 => by
  obtain ⟨v, rfl, pv⟩ := PArgs.one p2
  refine ⟨v, rfl, fun d free => ?_⟩
  obtain ⟨w3, s3⟩ := w2.new (o := .xd [(("value" : Str), v)]) free
  exact Z.err z σ d v _ _ (s2.trans s3) (hd.at w3) upd_same (Rp.mono s3 pv)
theorem Go.tryC {mr : Res R} {x : Option Exn → Res X} {L : List Str} {c : Value} {i j : Nat} (h : EvA ta Γ ω ω1 ms) (hs : ∀ E, SpR K sp E ms ω1 ω1 mr fo) (hf : ∀ r, mr = .ok r → (fo r).om = ω1) (hL : ∀ cls ∈ L, PySem.W.exmOne K (.ref (ga K cls)) c = some true)
    (hij : i ≠ j) (hn : Sub Γ ((Γ.set j (some (is K (none : Option Exn)))).set i none)) (k : ∀ y, Res.caught L mr = .ok y → Go u ((Γ.set j (some (is K y))).set i none) ω1 Z (x y)) :
    Go (tSeq (fun D σ H => tSeq (tDrop (tCallS sp (WE (RC.wKeep K c i j D)) ta)) tNext D σ H) u) Γ ω Z (Res.bind (Res.caught L mr) x) := fun σ G H D rp w z => h σ G H _ rp w fun vs G2 H2 s2 w2 p2 => by
  refine hs _ G2 H2 vs _ p2 w2 ⟨fun e => ?_, fun r e => RetQ.lose fun v G3 H3 s3 w3 => ?_, fun e ee σ' d v G3 H3 s3 w3 hd hv => ?_⟩
  · rw [e] at z
    exact Z.nobad z
  · rw [hf r e] at w3
    have ec : Res.caught L mr = .ok none := by rw [e]; rfl
    refine k none ec σ G3 H3 D ((rp.mono (s2.trans s3)).sub hn) w3 (Z.mono (s2.trans s3) ?_)
    rw [ec] at z
    exact z
  · have inL : e.cls ∈ L := by
      by_cases q : e.cls ∈ L
      · exact q
      · have : Res.caught L mr = .bad := by rw [ee]; exact if_neg q
        rw [this] at z
        exact absurd z Z.nobad
    have ec : Res.caught L mr = .ok (some e) := by rw [ee]; exact if_pos inL
    refine ⟨hL _ inL, fun a ha => ?_⟩
    obtain ⟨w4, s4⟩ := w3.new (o := RC.ErrO (.ref (ga K e.cls)) (some d) a) ha
    have pe : (is K (some e)).p (upd G3 a (RC.ErrO (.ref (ga K e.cls)) (some d) a)) (.ref a) := ⟨⟨a, d, v, rfl, upd_same, s4.at hd, Rp.mono s4 hv⟩, fun z => by cases z⟩
    have rp4 := rp.mono (s2.trans (s3.trans s4))
    refine k (some e) ec _ _ _ D ?_ w4 (Z.mono (s2.trans (s3.trans s4)) ?_)
    · have r3 := ((rp4.off (i := i) (o := some (.ref a))).set (i := j) pe).off (i := i) (o := none)
      have eg : ((Γ.set i none).set j (some (is K (some e)))).set i none = (Γ.set j (some (is K (some e)))).set i none := by rw [List.set_comm _ _ hij, List.set_set]
      exact eg ▸ r3
    · rw [ec] at z
      exact z
end
end Lf
/-! ## Readings told by plain data: any values; kept errors asked -/
namespace Lf
open PySem PySem.Spec PyProof.Rows L2
open PySem.W (Frag)
open He (ga)
/-- what is a value of any kind too -/
class ToPV (α : Type) extends Rp α where
  of : α → PV
  conv : ∀ {K : Frag} {G : Hp} {v : V} {x : α}, Rp.rep K G v x → AnyV K G v (of x)
def PV.of {α : Type} [t : ToPV α] (x : α) : PV := t.of x
instance : ToPV PV := { of := fun x => x, conv := fun h => h }
instance : ToPV Int := { of := .int, conv := fun h => by cases h; exact .int _ }
instance : ToPV Bool := { of := .bl, conv := fun h => by cases h; exact .bl _ }
instance : ToPV Str := { of := .str, conv := fun h => by cases h; exact .str _ }
instance : ToPV Unit := { of := fun _ => .non, conv := fun h => by cases h; exact .non }
theorem anyL {α : Type} [t : ToPV α] {K : Frag} {G : Hp} : ∀ {vs : List V} {xs : List α}, All K G vs xs → AnyL K G vs (xs.map t.of)
  | _, _, .nil => .nil
  | _, _, .cons r l => .cons (t.conv r) (anyL l)
instance {α : Type} [t : ToPV α] : ToPV (List α) := { of := fun xs => .lst (xs.map t.of), conv := fun ⟨_, _, e, h, p, _⟩ => e ▸ .lst h (anyL p) }
def PV.isRoll : PV → Bool
  | .roll _ _ => true
  | _ => false
def PV.ty : PV → String
  | .non => "NoneType"
  | .bl _ => "bool"
  | .int _ => "int"
  | .str _ => "str"
  | .lst _ => "list"
  | .tup _ => "tuple"
  | .edict => "dict"
  | .roll _ _ => ""
section
variable {K : Frag} {Γ : Gm} {ω ω1 : List Ent} {te : TE} {α : Type} {a : MP}
theorem EvX.any [t : ToPV α] {x : α} (h : EvX te Γ ω ω1 (is K x)) : EvX te Γ ω ω1 (is K (PV.of x)) := h.as fun _ _ p => t.conv p
theorem EvX.edict (h : EvX te Γ ω ω1 (is K (Dic.mk [] : Dic Int Int))) : EvX te Γ ω ω1 (is K PV.edict) := h.as fun G v p => by
  obtain ⟨a, kvs, rfl, rd, al, _⟩ := p
  cases al
  exact AnyV.edict rd
theorem any_ty {G H : Hp} {v : V} {x : PV} (w : At G ω H) (h : AnyV K G v x) (n : x.isRoll = false) : TyX K H v (.type x.ty) := by
  cases h with
  | non => exact .base .non
  | bl b => exact .base (.bl b)
  | int i => exact .base (.int i)
  | str s => exact .base (.str s)
  | lst h p => exact .base (.lst (w.get h))
  | tup h p => exact .base (.tup (w.get h))
  | edict h =>
    rcases h with e | ⟨o, e⟩
    · exact .base (.dK (w.get e))
    · exact .fDict (w.get e)
  | roll h h1 h2 l1 l2 => cases n
/-! kept errors -/
def rIsE (P : Program) (K : Frag) (mg : Str → Option Value) : List V → Hp → VK → Prop := fun xs H Q => rIsi K xs H Q ∨ RC.rIsErr P K mg xs H Q
theorem call_isE {X : Cx} : CallR X (.builtin "isinstance") (rIsE X.prog X.K X.mg) := fun pins s σ H xs us Q I r h => by
  rcases h with h | h
  · exact call_isi pins s σ H xs us Q I r h
  · exact RC.call_isErr pins s σ H xs us Q I r h
def isE (L : List Str) (o : Option Exn) (c : Str) : Option Bool := match o with
  | none => some false
  | some e => if e.cls ∈ L then some (decide (e.cls = c)) else none
/-- what is asked of the classes of kept errors -/
structure ErrsOk (P : Program) (K : Frag) (mg : Str → Option Value) (L : List Str) (c : Str) : Prop where
  non : PySem.W.kitOne K (.type "NoneType") (.ref (ga K c)) = some false
  err : ∀ e ∈ L, ∃ fI, RC.ErrC P K mg (ga K e) fI ∧ RC.ClsX K (ga K e) ∧ PySem.W.kitOne K (.ref (ga K e)) (.ref (ga K c)) = some (decide (e = c))
theorem CaX.isE {P : Program} {mg : Str → Option Value} {L : List Str} {o : Option Exn} {c : Str} {b : Bool} {u : V} (hu : ClsV u (.ref (ga K c))) (E : ErrsOk P K mg L c) (h : Lf.isE L o c = some b) : CaX (rIsE P K mg) ω ω [is K o, eqv u] (is K b) := fun G H vs Q w pa q => by
  obtain ⟨v, v', rfl, pv, rfl⟩ := PArgs.two pa
  cases o with
  | none =>
    cases h
    cases (show v = .non from pv)
    exact .inl ⟨_, _, _, _, false, rfl, hu, .base .non, E.non, q _ G H (Le.refl _) w rfl⟩
  | some e =>
    unfold Lf.isE at h
    dsimp only at h
    split at h
    · rename_i m
      cases h
      obtain ⟨⟨a, d, y, rfl, ha, hd, _⟩, _⟩ := pv
      obtain ⟨fI, T, X, k⟩ := E.err _ m
      exact .inr ⟨a, ga K e.cls, fI, d, y, _, _, _, rfl, w.get ha, w.get hd, T, X, hu, k, q _ G H (Le.refl _) w rfl⟩
    · cases h
/-- err.value -/
def valE (L : List Str) (o : Option Exn) : Option PV := match o with
  | none => none
  | some e => if e.cls ∈ L then some e.val else none
theorem EvX.valE {P : Program} {mg : Str → Option Value} {L : List Str} {o : Option Exn} {c : Str} {x : PV} (he : EvX te Γ ω ω1 (is K o)) (E : ErrsOk P K mg L c) (h : Lf.valE L o = some x) : EvX (RC.tFldE P K mg te) Γ ω ω1 (is K x) := fun σ G H Q r w q => he σ G H _ r w fun v G1 H1 s1 w1 p1 => by
  cases o with
  | none => cases h
  | some e =>
    unfold Lf.valE at h
    dsimp only at h
    split at h
    · rename_i m
      cases h
      obtain ⟨⟨a, d, y, rfl, ha, hd, hy⟩, _⟩ := p1
      obtain ⟨fI, T, _, _⟩ := E.err _ m
      exact ⟨a, ga K e.cls, fI, d, y, rfl, w1.get ha, T, w1.get hd, q y G1 H1 s1 w1 hy⟩
    · cases h
/-! repr of any value -/
mutual
def PV.d : PV → Option PyData
  | .non => some .none
  | .bl b => some (.bool b)
  | .int i => some (.int i)
  | .str s => some (.str s)
  | .lst xs => (PV.ds xs).map .list
  | .tup xs => (PV.ds xs).map .tuple
  | .edict => none
  | .roll _ _ => none
def PV.ds : List PV → Option (List PyData)
  | [] => some []
  | x :: xs => match x.d, PV.ds xs with
    | some d, some ds => some (d :: ds)
    | _, _ => none
end
mutual
theorem any_dp {G H : Hp} {ω : List Ent} (w : At G ω H) : ∀ {v : V} {x : PV} {d : PyData}, AnyV K G v x → x.d = some d → Dp K H v d
  | _, _, _, .non, e => by
    cases e
    exact .non
  | _, _, _, .bl b, e => by
    cases e
    exact .bl b
  | _, _, _, .int i, e => by
    cases e
    exact .int i
  | _, _, _, .str s, e => by
    cases e
    exact .str s
  | _, _, _, .lst (xs := xs) h p, e => by
    unfold PV.d at e
    cases q : PV.ds xs with
    | none =>
      rw [q] at e
      cases e
    | some ds =>
      rw [q] at e
      cases e
      exact .lst (RC.sq_of (w.lst h)) (any_dps w p q)
  | _, _, _, .tup (xs := xs) h p, e => by
    unfold PV.d at e
    cases q : PV.ds xs with
    | none =>
      rw [q] at e
      cases e
    | some ds =>
      rw [q] at e
      cases e
      exact .tup (RC.st_of (w.tup h)) (any_dps w p q)
  | _, _, _, .edict _, e => by cases e
  | _, _, _, .roll .., e => by cases e
theorem any_dps {G H : Hp} {ω : List Ent} (w : At G ω H) : ∀ {vs : List V} {xs : List PV} {ds : List PyData}, AnyL K G vs xs → PV.ds xs = some ds → DpAll K H vs ds
  | _, _, _, .nil, e => by
    cases e
    exact .nil
  | _, _, _, .cons (x := x) (xs := xs) h t, e => by
    unfold PV.ds at e
    cases q1 : x.d with
    | none =>
      rw [q1] at e
      cases e
    | some d =>
      cases q2 : PV.ds xs with
      | none =>
        rw [q1, q2] at e
        cases e
      | some ds =>
        rw [q1, q2] at e
        cases e
        exact .cons (any_dp w h q1) (any_dps w t q2)
end
def toldP (x : PV) : Option Str := match x with
  | .edict => some (PyData.dict []).shown
  | x => match x.d with
    | none => none
    | some d => if d.showable = true ∧ d.canLay0 = true ∧ d.depth ≤ 40 ∧ d.shown.length ≤ sizeLine then some d.shown else none
theorem show_any {G H : Hp} {ω : List Ent} (w : At G ω H) {v : V} {x : PV} {t : Str} (h : AnyV K G v x) (e : toldP x = some t) : RC.ShowV K H v t := by
  have data : ∀ d, x.d = some d → (if d.showable = true ∧ d.canLay0 = true ∧ d.depth ≤ 40 ∧ d.shown.length ≤ sizeLine then some d.shown else none) = some t → RC.ShowV K H v t := fun d ed e => by
    split at e
    · rename_i c
      cases e
      exact .data (any_dp w h ed) c.1 c.2.1 c.2.2.1 c.2.2.2
    · cases e
  unfold toldP at e
  split at e
  · cases e
    cases h with
    | edict h =>
      rcases h with q | ⟨o, q⟩
      · exact .edict (.inl (w.get q))
      · exact .edict (.inr ⟨o, w.get q⟩)
  · split at e
    · cases e
    · rename_i d ed
      exact data d ed e
theorem CaX.toldP {x : PV} {t : Str} (h : Lf.toldP x = some t) : CaX (RC.rReprX K) ω ω [is K x] (is K t) := fun G H vs Q w p q => by
  obtain ⟨v, rfl, pv⟩ := PArgs.one p
  exact ⟨v, t, rfl, show_any w pv h, q _ G H (Le.refl _) w rfl⟩
end
/-! a slot told otherwise -/
section
variable {K : Frag} {W : WX} {ωe : List Ent} {X : Type} {Γ : Gm} {ω : List Ent} {Z : ZF K W ωe X} {u : TS}
theorem Go.tell {i : Nat} {m m' : MP} {x : Res X} (hi : Γ[i]? = some (some m)) (imp : ∀ G v, m.p G v → m'.p G v) (k : Go u (Γ.set i (some m')) ω Z x) : Go u Γ ω Z x := fun σ G H D rp w z => by
  refine k σ G H D ⟨by rw [List.length_set]; exact rp.1, fun j n e => ?_⟩ w z
  by_cases c : i = j
  · subst c
    rw [List.getElem?_set_self (List.getElem?_eq_some_iff.mp hi).1] at e
    cases e
    obtain ⟨v, a, b⟩ := rp.2 i m hi
    exact ⟨v, a, imp G v b⟩
  · rw [List.getElem?_set_ne c] at e
    exact rp.2 j n e
end
end Lf

namespace Lf
open PySem PySem.Spec PyProof.Rows L2
open PySem.W (Frag)
section
variable {α : Type} [t : Shw α]
theorem shw_all {K : Frag} {G H : Hp} {ω : List Ent} (w : At G ω H) : ∀ {vs : List V} {xs : List (Option α)}, All K G vs xs → DpAll K H vs (xs.map (Shw.d (α := Option α)))
  | _, _, .nil => .nil
  | _, _, .cons r l => .cons (Shw.dp w r) (shw_all w l)
theorem shw_lay : ∀ xs : List (Option α), PyData.canLayAll0 (xs.map (Shw.d (α := Option α))) = true
  | [] => by simp only [List.map_nil, PyData.canLayAll0]
  | x :: xs => by
    have e := shw_lay xs
    simp only [List.map_cons, PyData.canLayAll0, e, Shw.lay x, Bool.and_self]
theorem shw_dep : ∀ xs : List (Option α), PyData.depthAll (xs.map (Shw.d (α := Option α))) ≤ t.deep + 1
  | [] => by simp only [List.map_nil, PyData.depthAll]; omega
  | x :: xs => by
    have e := shw_dep xs
    have d : (Shw.d (α := Option α) x).depth ≤ t.deep := Shw.dep x
    simp only [List.map_cons, PyData.depthAll]
    omega
instance : Shw (List (Option α)) where
  d xs := .list (xs.map (Shw.d (α := Option α)))
  dp w h := by
    obtain ⟨a, vs, rfl, e, ha, _⟩ := h
    exact .lst (RC.sq_of (w.lst e)) (shw_all w ha)
  lay xs := by
    simp only [PyData.canLay0, shw_lay xs]
  deep := t.deep + 2
  dep xs := by
    have := shw_dep xs
    show (PyData.list (xs.map (Shw.d (α := Option α)))).depth ≤ t.deep + 2
    simp only [PyData.depth]
    omega
end
end Lf
/-! ## Readings told by plain data: while -/
namespace Lf
open PySem PySem.Spec PyProof.Rows L2
open PySem.W (Frag)
/-- a while that is left by its test alone: it is asked at most n times -/
def Res.whl {S : Type} (c : S → Option Bool) (f : S → Res S) : Nat → S → Res S
  | 0, _ => .bad
  | n + 1, s => Res.req (c s) fun b => if b then Res.bind (f s) (Res.whl c f n) else .ok s
section
variable {K : Frag} {W : WX} {ωe : List Ent} {S : Type} {Γ : Gm} {ω : List Ent} {fn : S → Gm × List Ent}
theorem Go.whN {tc : TT} {tb : TS} {c : S → Option Bool} {f : S → Res S} {n : Nat} {s0 : S} (h0 : Sub Γ (fn s0).1) (d0 : Dr ω (fn s0).2) (ht : ∀ s b, c s = some b → EvT tc (fn s).1 (fn s).2 (fn s).2 b) (hb : ∀ s, Go tb (fn s).1 (fn s).2 (zN K W ωe fn) (f s)) :
    Go (tWhile tc tb) Γ ω (zN K W ωe fn) (Res.whl c f n s0) := fun σ G H D rp w z => by
  refine ⟨fun m σ' H' => ∃ s G', Le G G' ∧ Reps G' σ' (fn s).1 ∧ At G' (fn s).2 H' ∧ Res.whl c f m s = Res.whl c f n s0, ⟨n, s0, G, Le.refl _, rp.sub h0, d0.at w, rfl⟩, ?_⟩
  rintro m σ' H' ⟨s, G', sG, r', w', ef⟩
  cases m with
  | zero => exact absurd ef.symm z.1
  | succ m =>
    cases hc : c s with
    | none =>
      refine absurd (ef.symm.trans ?_) z.1
      show Res.req (c s) _ = _
      rw [hc]
      rfl
    | some b =>
      have ef2 : (if b then Res.bind (f s) (Res.whl c f m) else .ok s) = Res.whl c f n s0 := by
        rw [← ef]
        show _ = Res.req (c s) _
        rw [hc]
        rfl
      refine ht s b hc σ' G' H' _ r' w' fun G2 H2 s2 w2 => ?_
      cases b with
      | false => exact (if_neg (fun q => Bool.noConfusion q)).mpr (z.2.1 s ef2.symm σ' G2 H2 (sG.trans s2) (r'.mono s2) w2)
      | true =>
        refine (if_pos rfl).mpr ⟨fun σ3 H3 => ∃ s3 G3, Le G G3 ∧ Reps G3 σ3 (fn s3).1 ∧ At G3 (fn s3).2 H3 ∧ Res.whl c f m s3 = Res.whl c f n s0, fun σ3 H3 q => ⟨m, Nat.lt_succ_self m, q⟩, ?_⟩
        have ef3 : Res.bind (f s) (Res.whl c f m) = Res.whl c f n s0 := ef2
        refine hb s σ' G2 H2 _ (r'.mono s2) w2 ⟨fun q => ?_, fun s5 q σ5 G5 H5 s5' r5 w5 => ?_, fun e q => ?_⟩
        · rw [q] at ef3
          exact z.1 ef3.symm
        · rw [q] at ef3
          exact ⟨s5, G5, sG.trans (s2.trans s5'), r5, w5, ef3⟩
        · rw [q] at ef3
          exact PostE.mono (sG.trans s2) (z.2.2 e ef3.symm)
end
end Lf
/-! ## Readings told by plain data: what may be None compared; membership of data -/
namespace Lf
open PySem PySem.Spec PyProof.Rows L2
open PySem.W (Frag)
instance : Fl (Option Int) where
  v := fun o => match o with
    | none => .non
    | some i => .int i
  of {K H u x} h := by
    cases x with
    | none => exact h
    | some i => exact h.1
  dec := inferInstance
  sc x y := by cases x <;> cases y <;> rfl
  eqv x y := by
    cases x with
    | none =>
      cases y with
      | none => exact ⟨fun _ => rfl, fun _ => rfl⟩
      | some j => exact ⟨fun h => V.noConfusion h, fun h => by cases h⟩
    | some i =>
      cases y with
      | none => exact ⟨fun h => V.noConfusion h, fun h => by cases h⟩
      | some j => exact ⟨fun h => congrArg some (V.int.inj h), fun h => by cases h; rfl⟩
instance : Dat Bool where
  d := .bool
  dp _ h := by
    cases h
    exact .bl _
  lay _ := by simp [PyData.canLay0]
  deep := 0
  dep _ := by simp [PyData.depth]
  dec := inferInstance
  eqv x y := by cases x <;> cases y <;> simp [PyData.eqv]
/-- what is never None -/
class Off (α : Type) [t : Dat α] : Prop where
  l : ∀ x : α, PyData.eqv .none (t.d x) = false
  r : ∀ x : α, PyData.eqv (t.d x) .none = false
instance : Off Int := ⟨fun _ => by simp [Dat.d, PyData.eqv], fun _ => by simp [Dat.d, PyData.eqv]⟩
instance : Off Bool := ⟨fun _ => by simp [Dat.d, PyData.eqv], fun _ => by simp [Dat.d, PyData.eqv]⟩
instance {α β : Type} [Dat α] [Dat β] : Off (α × β) := ⟨fun _ => by simp [Dat.d, PyData.eqv], fun _ => by simp [Dat.d, PyData.eqv]⟩
instance {α : Type} [Dat α] : Off (List α) := ⟨fun _ => by simp [Dat.d, PyData.eqv], fun _ => by simp [Dat.d, PyData.eqv]⟩
instance {α : Type} [Dat α] : Off (Tu α) := ⟨fun _ => by simp [Dat.d, PyData.eqv], fun _ => by simp [Dat.d, PyData.eqv]⟩
def datO {α : Type} [t : Dat α] : Option α → PyData
  | none => .none
  | some x => t.d x
instance {α : Type} [t : Dat α] [n : Off α] : Dat (Option α) where
  d := datO
  dp {K G H ω v x} w h := match x, h with
    | none, h => by
      cases h
      exact .non
    | some x, h => t.dp w h.1
  lay x := match x with
    | none => by simp [datO, PyData.canLay0]
    | some x => t.lay x
  deep := t.deep
  dep x := match x with
    | none => by simp [datO, PyData.depth]
    | some x => t.dep x
  dec := letI := t.dec; inferInstance
  eqv x y := by
    letI := t.dec
    cases x with
    | none =>
      cases y with
      | none => simp [datO, PyData.eqv]
      | some y =>
        show PyData.eqv .none (t.d y) = _
        rw [n.l, decide_eq_false (fun h => by cases h)]
    | some x =>
      cases y with
      | none =>
        show PyData.eqv (t.d x) .none = _
        rw [n.r, decide_eq_false (fun h => by cases h)]
      | some y =>
        show PyData.eqv (t.d x) (t.d y) = _
        rw [t.eqv]
        exact decide_eq_decide.mpr ⟨fun h => congrArg some h, Option.some.inj⟩
theorem any_mem {α : Type} [t : Dat α] (x : α) : ∀ xs : List α, ((xs.map t.d).any fun z => PyData.eqv z (t.d x)) = true ↔ x ∈ xs
  | [] => by simp
  | y :: xs => by
    rw [List.map_cons, List.any_cons, Bool.or_eq_true_iff, any_mem x xs, t.eqv, List.mem_cons]
    refine ⟨fun h => ?_, fun h => ?_⟩
    · rcases h with h | h
      · exact .inl (@of_decide_eq_true _ (t.dec y x) h).symm
      · exact .inr h
    · rcases h with h | h
      · exact .inl (@decide_eq_true _ (t.dec y x) h.symm)
      · exact .inr h
section
variable {K : Frag} {ω : List Ent} {a b : MP} {α : Type} [t : Dat α]
theorem OpX.inA {x : α} {xs : List α} [dc : Decidable (x ∈ xs)] (ha : DtAt K ω a x) (hb : DtAt K ω b xs) (h : t.deep ≤ 63) : OpX (rInD K) ω ω a b (is K (decide (x ∈ xs))) := fun G H u v Q w p1 p2 q => by
  have hl : Dat.deep (List α) ≤ 64 := Nat.succ_le_succ h
  refine ⟨t.d x, xs.map t.d, ha G H u w p1, hb G H v w p2, Dat.shaped (Nat.le_succ_of_le h) x, Dat.shaped hl xs, q _ G H (Le.refl _) w ?_⟩
  refine congrArg _ ?_
  have := any_mem x xs
  by_cases c : x ∈ xs
  · rw [this.mpr c, decide_eq_true c]
  · rw [decide_eq_false c]
    cases e : (xs.map t.d).any fun z => PyData.eqv z (t.d x) with
    | true => exact absurd (this.mp e) c
    | false => rfl
theorem OpX.niA {x : α} {xs : List α} [dc : Decidable (x ∈ xs)] (ha : DtAt K ω a x) (hb : DtAt K ω b xs) (h : t.deep ≤ 63) : OpX (rNotInD K) ω ω a b (is K (!decide (x ∈ xs))) := fun G H u v Q w p1 p2 q => by
  have hl : Dat.deep (List α) ≤ 64 := Nat.succ_le_succ h
  refine ⟨t.d x, xs.map t.d, ha G H u w p1, hb G H v w p2, Dat.shaped (Nat.le_succ_of_le h) x, Dat.shaped hl xs, q _ G H (Le.refl _) w ?_⟩
  refine congrArg _ ?_
  have := any_mem x xs
  by_cases c : x ∈ xs
  · rw [this.mpr c, decide_eq_true c]
  · rw [decide_eq_false c]
    cases e : (xs.map t.d).any fun z => PyData.eqv z (t.d x) with
    | true => exact absurd (this.mp e) c
    | false => rfl
end
end Lf
instance : Lf.Ord1 (List Int) where
  alike xs := by
    constructor
    · intro x hx y hy
      obtain ⟨a, _, rfl⟩ := List.mem_map.mp hx
      obtain ⟨b, _, rfl⟩ := List.mem_map.mp hy
      show PySem.W.alike (.list _) (.list _) = true
      rw [PySem.W.alike]
      exact PySem.W.alike_ints a b
    · intro x hx e
      obtain ⟨a, _, rfl⟩ := List.mem_map.mp hx
      cases e
/-- a pair of one kind, walked over -/
theorem Lf.EvX.tuOf {K : PySem.W.Frag} {Γ : Lf.Gm} {ω ω1 : List Lf.Ent} {te : L2.TE} {α : Type} [Lf.Rp α] {x : α × α} (h : Lf.EvX te Γ ω ω1 (Lf.is K x)) : Lf.EvX te Γ ω ω1 (Lf.is K (Lf.Tu.mk [x.1, x.2])) := h.as fun G v p => by
  obtain ⟨a, u, v, rfl, e, h1, h2⟩ := p
  exact ⟨a, _, rfl, e, .cons h1 (.cons h2 .nil), by show 2 ≤ PySem.sizeLine; decide⟩
/-- a, b, c = e1, e2, e3 -/
theorem Lf.Go.parS {K : PySem.W.Frag} {W : L2.WX} {ωe : List Lf.Ent} {X : Type} {Γ : Lf.Gm} {ω ω1 : List Lf.Ent} {Z : Lf.ZF K W ωe X} {u : L2.TS} {i j l : Nat} {tA : L2.TA} {a b c : Lf.MP} {x : Lf.Res X} (h : Lf.EvA tA Γ ω ω1 [a, b, c]) (k : Lf.Go u (((Γ.set i (some a)).set j (some b)).set l (some c)) ω1 Z x) : Lf.Go (L2.tSeq (L2.tPar3 i j l tA) u) Γ ω Z x := fun σ G H D rp w z => h σ G H _ rp w fun vs G2 H2 s w2 p => by
  cases p with
  | cons p1 q =>
    cases q with
    | cons p2 q =>
      cases q with
      | cons p3 q =>
        cases q
        exact ⟨_, _, _, rfl, k _ G2 H2 D ((((rp.mono s).set p1).set p2).set p3) w2 (Z.mono s z)⟩
theorem _root_.L2.Room.units65 {k : Nat} {A : PySem.Around} (r : L2.Room k A) : A.units + 65 < PySem.cLine := by
  have := r.un
  omega
/-! ## Readings told by plain data: a < b < c; list(range(a, b)) -/
namespace Lf
open PySem PySem.Spec PyProof.Rows L2
open PySem.W (Frag)
section
variable {K : Frag} {Γ : Gm} {ω ω1 ω2 ω3 : List Ent} {ta tb tc : TE} {r r' : R2} {a b c : MP} {x y : Bool}
/-- a chain of two comparisons: the second is asked if the first holds -/
theorem EvT.chain (ha : EvX ta Γ ω ω a) (hb : EvX tb Γ ω ω b) (hr : OpX r ω ω a b (is K x)) (hc : EvX tc Γ ω ω c) (hr' : OpX r' ω ω b c (is K y)) : EvT (tTest (tChain r r' ta tb tc)) Γ ω ω (x && y) := fun σ G H Q rp w q => by
  refine ha σ G H _ rp w fun u G1 H1 s1 w1 p1 => hb σ G1 H1 _ (rp.mono s1) w1 fun v G2 H2 s2 w2 p2 => hr G2 H2 u v _ w2 (a.mono s2 p1) p2 fun t G3 H3 s3 w3 p3 => ?_
  cases (show t = .bl x from p3)
  refine ⟨x, rfl, ?_⟩
  cases x with
  | false => exact (if_neg (fun z => Bool.noConfusion z)).mpr ⟨false, rfl, q G3 H3 (s1.trans (s2.trans s3)) w3⟩
  | true =>
    refine (if_pos rfl).mpr (hc σ G3 H3 _ (rp.mono (s1.trans (s2.trans s3))) w3 fun z G4 H4 s4 w4 p4 => hr' G4 H4 v z _ w4 (b.mono (s3.trans s4) p2) p4 fun t' G5 H5 s5 w5 p5 => ?_)
    cases (show t' = .bl y from p5)
    exact ⟨y, rfl, q G5 H5 (s1.trans (s2.trans (s3.trans (s4.trans s5)))) w5⟩
theorem EvF.lrng {i j : Int} {xs : List Int} (hi : EvX ta Γ ω ω1 (is K i)) (hj : EvX tb Γ ω1 ω2 (is K j)) (e : irng i j = some xs) : EvF (tLstRg (tRg2 ta tb)) Γ ω ω2 (olst K xs) := fun σ G H Q rp w q => hi σ G H _ rp w fun u G1 H1 s1 w1 p1 => hj σ G1 H1 _ (rp.mono s1) w1 fun v G2 H2 s2 w2 p2 => by
  cases (show u = .int i from p1)
  cases (show v = .int j from p2)
  unfold irng at e
  split at e
  · rename_i c
    cases e
    have len := c.2.2.2.2
    rw [sizeLine_eq] at len
    have vs : rgV i j = ((List.range (j - i).toNat).map fun (k : Nat) => i + (k : Int)).map V.int := by
      unfold rgV
      rw [List.map_map]
      rfl
    refine ⟨i, j, rfl, rfl, ⟨by omega, by omega, by omega, by omega, by omega⟩, fun p hp => ?_⟩
    rw [vs]
    exact q p G2 _ (s1.trans s2) (newL w2 hp (all_ints _) (by rw [List.length_map, List.length_range]; exact c.2.2.2.2))
  · cases e
end
end Lf
theorem Lf.CaX.lenP {K : PySem.W.Frag} {ω : List Lf.Ent} {α β : Type} [Lf.Rp α] [Lf.Rp β] {x : α × β} : Lf.CaX (Evl.rLenS K) ω ω [Lf.is K x] (Lf.is K (2 : Int)) := fun G H vs Q w pa q => by
  obtain ⟨v, rfl, a, y, z, rfl, e, _, _⟩ := Lf.PArgs.one pa
  exact ⟨a, [y, z], rfl, .inr (RC.st_of (w.tup e)), q _ G H (Lf.Le.refl _) w rfl⟩
instance {α β : Type} [Lf.Rp α] [Lf.Rp β] : Lf.PyT (α × β) := { t := "tuple", ty := fun w ⟨a, x, y, e, h, _⟩ => by subst e; exact .base (.tup (w.tup h)) }
/-! ## Readings told by plain data: any values asked and compared -/
namespace Lf
open PySem PySem.Spec PyProof.Rows L2
open PySem.W (Frag)
open He (ga)
/-- is it of this built-in kind -/
def PV.isTy (c : String) : PV → Bool
  | .non => false
  | .bl _ => c == "bool" || c == "int"
  | .int _ => c == "int"
  | .str _ => c == "str"
  | .lst _ => c == "list"
  | .tup _ => c == "tuple"
  | .edict => c == "dict"
  | .roll _ _ => false
def PV.asI : PV → Option Int
  | .int i => some i
  | _ => none
def PV.asS : PV → Option Str
  | .str s => some s
  | _ => none
def PV.asL : PV → Option (List PV)
  | .lst xs => if xs.length ≤ sizeLine then some xs else none
  | _ => none
instance {α : Type} [t : ToPV α] : ToPV (Option α) where
  of := fun o => match o with
    | none => .non
    | some x => t.of x
  conv {K G v o} h := match o, h with
    | none, h => by
      cases h
      exact .non
    | some x, h => t.conv h.1
instance {α β : Type} [t : ToPV α] [s : ToPV β] : ToPV (α × β) where
  of := fun p => .tup [t.of p.1, s.of p.2]
  conv {K G v p} h := by
    obtain ⟨a, x, y, rfl, e, h1, h2⟩ := h
    exact .tup e (.cons (t.conv h1) (.cons (s.conv h2) .nil))
section
variable {K : Frag} {Γ : Gm} {ω ω1 ω2 : List Ent} {te to : TE} {a b : MP}
theorem allOf {G : Hp} : ∀ {vs : List V} {xs : List PV}, AnyL K G vs xs → All K G vs xs
  | _, _, .nil => .nil
  | _, _, .cons h t => .cons h (allOf t)
theorem asI_imp {x : PV} {i : Int} (e : x.asI = some i) (G : Hp) (v : V) (p : (is K x).p G v) : (is K i).p G v := by
  cases x with
  | int j =>
    cases e
    cases (show AnyV K G v (.int i) from p)
    rfl
  | _ => cases e
theorem asS_imp {x : PV} {i : Str} (e : x.asS = some i) (G : Hp) (v : V) (p : (is K x).p G v) : (is K i).p G v := by
  cases x with
  | str j =>
    cases e
    cases (show AnyV K G v (.str i) from p)
    rfl
  | _ => cases e
theorem asL_imp {x : PV} {xs : List PV} (e : x.asL = some xs) (G : Hp) (v : V) (p : (is K x).p G v) : (is K xs).p G v := by
  cases x with
  | lst ys =>
    unfold PV.asL at e
    dsimp only at e
    split at e
    · rename_i l
      cases e
      cases (show AnyV K G v (.lst xs) from p) with
      | lst hh pp => exact ⟨_, _, rfl, hh, allOf pp, l⟩
    · cases e
  | _ => cases e
theorem EvX.asI {x : PV} {i : Int} (h : EvX te Γ ω ω1 (is K x)) (e : x.asI = some i) : EvX te Γ ω ω1 (is K i) := h.as (asI_imp e)
theorem EvX.asS {x : PV} {i : Str} (h : EvX te Γ ω ω1 (is K x)) (e : x.asS = some i) : EvX te Γ ω ω1 (is K i) := h.as (asS_imp e)
theorem EvX.asL {x : PV} {xs : List PV} (h : EvX te Γ ω ω1 (is K x)) (e : x.asL = some xs) : EvX te Γ ω ω1 (is K xs) := h.as (asL_imp e)
/-! == of any values -/
def eqV (x y : PV) : Option Bool := match x.d, y.d with
  | some a, some b => if SeqAt.shaped a && SeqAt.shaped b then some (PyData.eqv a b) else none
  | _, _ => none
theorem eqV_inv {x y : PV} {r : Bool} (h : eqV x y = some r) : ∃ c d, x.d = some c ∧ y.d = some d ∧ SeqAt.shaped c = true ∧ SeqAt.shaped d = true ∧ PyData.eqv c d = r := by
  unfold eqV at h
  split at h
  · rename_i c d ec ed
    split at h
    · rename_i s
      cases h
      rw [Bool.and_eq_true] at s
      exact ⟨c, d, ec, ed, s.1, s.2, rfl⟩
    · cases h
  · cases h
theorem OpX.eqV {x y : PV} {r : Bool} (h : Lf.eqV x y = some r) : OpX (rEqD K) ω ω (is K x) (is K y) (is K r) := fun G H u v Q w p1 p2 q => by
  obtain ⟨c, d, ec, ed, sc, sd, e⟩ := eqV_inv h
  refine ⟨c, d, any_dp w p1 ec, any_dp w p2 ed, sc, sd, q _ G H (Le.refl _) w ?_⟩
  show V.bl _ = V.bl _
  rw [e]
theorem OpX.neV {x y : PV} {r : Bool} (h : Lf.eqV x y = some r) : OpX (rNeD K) ω ω (is K x) (is K y) (is K (!r)) := fun G H u v Q w p1 p2 q => by
  obtain ⟨c, d, ec, ed, sc, sd, e⟩ := eqV_inv h
  refine ⟨c, d, any_dp w p1 ec, any_dp w p2 ed, sc, sd, q _ G H (Le.refl _) w ?_⟩
  show V.bl _ = V.bl _
  rw [e]
/-! the first place of an item -/
def idxL {α : Type} [DecidableEq α] (xs : List α) (y : α) : Option Int := (xs.findIdx? fun z => decide (z = y)).map fun (j : Nat) => (j : Int)
theorem EvX.index {α : Type} [t : Dat α] [DecidableEq α] {xs : List α} {y : α} {j : Int} (ht : EvX to Γ ω ω1 (is K xs)) (h : EvX te Γ ω1 ω2 (is K y)) (e : idxL xs y = some j) (hd : t.deep ≤ 63) : EvX (tBM K "list" (rIndexD K) to (tCons te tNil)) Γ ω ω2 (is K j) := fun σ G H Q rp w q => ht σ G H _ rp w fun v G1 H1 s1 w1 p1 => by
  obtain ⟨p, us, rfl, ea, ha, l⟩ := p1
  refine ⟨.inl ⟨rfl, _, RC.sq_of (w1.lst ea)⟩, h σ G1 H1 _ (rp.mono s1) w1 fun v G2 H2 s2 w2 p2 => ?_⟩
  unfold idxL at e
  obtain ⟨i, ei, ej⟩ := Option.map_eq_some_iff.mp e
  obtain ⟨li, ci, no⟩ := List.findIdx?_eq_some_iff_getElem.mp ei
  have hl : Dat.deep (List α) ≤ 64 := Nat.succ_le_succ hd
  have px : Rp.rep K G2 (.ref p) xs := Rp.mono s2 ⟨p, us, rfl, ea, ha, l⟩
  refine ⟨p, v, t.d y, xs.map t.d, i, t.d xs[i], rfl, rfl, Dat.dp w2 px, t.dp w2 p2, Dat.shaped hl xs, Dat.shaped (Nat.le_succ_of_le hd) y, ?_, ?_, fun m z' hm hz => ?_, q _ G2 H2 (s1.trans s2) w2 (by show V.int _ = V.int _; rw [← ej])⟩
  · rw [List.getElem?_map, List.getElem?_eq_getElem li]
    rfl
  · rw [t.eqv]
    exact @decide_eq_true _ (t.dec _ _) (of_decide_eq_true ci)
  · rw [List.getElem?_map, List.getElem?_eq_getElem (by omega)] at hz
    cases hz
    rw [t.eqv]
    exact @decide_eq_false _ (t.dec _ _) fun c => no m hm (decide_eq_true c)
end
end Lf
/-! ## Readings told by plain data: keywords, comprehensions that change what is one's own, while True -/
namespace Lf
open PySem PySem.Spec PyProof.Rows L2
open PySem.W (Frag)
section
variable {K : Frag} {Γ : Gm} {ω ω1 : List Ent} {tk : TA}
theorem paired_get {A B : Type} {F : A → B → Prop} : ∀ {xs : List A} {ys : List B}, Paired F xs ys → ∀ i : Nat, (xs[i]? = none ∧ ys[i]? = none) ∨ ∃ x y, xs[i]? = some x ∧ ys[i]? = some y ∧ F x y
  | _, _, .nil, i => .inl ⟨rfl, rfl⟩
  | _, _, .cons r _, 0 => .inr ⟨_, _, rfl, rfl, r⟩
  | _, _, .cons _ t, i + 1 => paired_get t i
theorem paired_pick {A B : Type} {F : A → B → Prop} {xs : List A} {ys : List B} (h : Paired F xs ys) : ∀ p : List Nat, Paired F (RC.pick p xs) (RC.pick p ys)
  | [] => .nil
  | i :: p => by
    have ih := paired_pick h p
    unfold RC.pick at ih ⊢
    rcases paired_get h i with ⟨a, b⟩ | ⟨x, y, a, b, r⟩
    · rw [List.filterMap_cons_none a, List.filterMap_cons_none b]
      exact ih
    · rw [List.filterMap_cons_some a, List.filterMap_cons_some b]
      exact .cons r ih
theorem EvA.pick {p : List Nat} {m : Nat} {mk ms : List MP} (h : EvA tk Γ ω ω1 mk) (hl : mk.length = m) (e : RC.pick p mk = ms) : EvA (RC.tPick p m tk) Γ ω ω1 ms := fun σ G H Q r w q => h σ G H _ r w fun vs G2 H2 s2 w2 p2 => ⟨(Paired.len p2).trans hl, q _ G2 H2 s2 w2 (e ▸ paired_pick p2 p)⟩
end
/-! comprehensions that draw -/
def mapT {α β S : Type} (f : S → α → Option (S × β)) : List α → S → Option (S × List β)
  | [], s => some (s, [])
  | x :: xs, s => match f s x with
    | none => none
    | some a => match mapT f xs a.1 with
      | none => none
      | some b => some (b.1, a.2 :: b.2)
section
variable {K : Frag} {Γ : Gm} {ω : List Ent} {tt : TT} {te : TE} {α β S : Type} [Rp α] [Rp β]
theorem mapT_drop {f : S → α → Option (S × β)} {xs : List α} {i : Nat} {a : α} (h : xs[i]? = some a) (s : S) : mapT f (xs.drop i) s = match f s a with
    | none => none
    | some c => match mapT f (xs.drop (i + 1)) c.1 with
      | none => none
      | some b => some (b.1, c.2 :: b.2) := by
  rw [List.drop_eq_getElem_cons (List.getElem?_eq_some_iff.mp h).1, (List.getElem?_eq_some_iff.mp h).2]
  rfl
theorem EvX.pairS {f : S → List Ent} {ω1 : List Ent} {a : S} {y : β} {r : S × β} (h : EvX te Γ ω1 (f a) (is K y)) (e : (a, y) = r) : EvX te Γ ω1 (f r.1) (is K r.2) := by
  subst e
  exact h
theorem EvF.lcS {wi : TI} {g : TG} {vs : List Nat} {P : List Ent → Prop} {xs : List α} {s0 : S} {r : S × List β} {fb : S → α → Option (S × β)} {fo : S → List Ent} {Γb : α → Gm} (hi : IterX K wi Γ ω (fo s0) P xs) (hP : ∀ s p φ, P (.own p φ :: fo s)) (ht : TgW K g vs (wipeG Γ vs) Γb) (htt : ∀ Γ ω, EvT tt Γ ω ω true) (h : mapT fb xs s0 = some r)
    (hb : ∀ s a b p φ, fb s a = some b → EvX te (Γb a) (.own p φ :: fo s) (.own p φ :: fo b.1) (is K b.2)) : EvF (tLc wi g tt te vs) Γ ω (fo r.1) (olst K r.2) := fun σ G H Q rp w q => hi σ G H _ rp w fun J G2 H2 s2 w2 wk D hD => by
  have hl := wk.len
  refine ⟨fun i m H' => m = xs.length - i ∧ i ≤ xs.length ∧ ∃ s acc G' r', Le G2 G' ∧ At G' (.own D (olst K acc) :: fo s) H' ∧ acc.length ≤ i ∧ mapT fb (xs.drop i) s = some r' ∧ r'.1 = r.1 ∧ acc ++ r'.2 = r.2, ⟨xs.length, by simp, Nat.zero_le _, s0, [], G2, r, Le.refl _, newL w2 hD .nil (Nat.zero_le _), Nat.le_refl _, h, rfl, rfl⟩, ?_⟩
  rintro i m H' ⟨rfl, hle, s, acc, G', r', sG, w', la, ef, e1, ea⟩
  by_cases hlt : i < xs.length
  · have hx : xs[i]? = some xs[i] := List.getElem?_eq_getElem hlt
    rw [mapT_drop hx] at ef
    refine .inr ⟨wk.go G' _ H' i sG w' (hP _ _ _) hlt, fun H3 => ∃ s acc G3 r', Le G2 G3 ∧ At G3 (.own D (olst K acc) :: fo s) H3 ∧ acc.length ≤ i + 1 ∧ mapT fb (xs.drop (i + 1)) s = some r' ∧ r'.1 = r.1 ∧ acc ++ r'.2 = r.2, fun H3 q => ⟨xs.length - (i + 1), by omega, rfl, hlt, q⟩, fun x H3 y => ?_⟩
    obtain ⟨G3, s3, w3, px⟩ := wk.yld G' _ H' i x H3 _ sG w' (hP _ _ _) hx y
    have rw0 := (rp.mono (s2.trans (sG.trans s3))).wipe vs
    refine ht _ _ G3 H3 _ x _ rw0 w3 px fun σ4 l4 k4 r4 => ⟨?_, ?_⟩
    · refine (wipe_eq l4 k4).trans (wipe_eq (by rw [wipe_length]) fun i hi => ?_)
      rw [wipe_get, if_neg hi]
    · cases ho : fb s xs[i] with
      | none =>
        rw [ho] at ef
        cases ef
      | some b =>
        rw [ho] at ef
        refine htt _ _ σ4 G3 H3 _ r4 w3 fun G4 H4 s4 w4 => RC.if_t rfl ?_
        have ef' : (match mapT fb (xs.drop (i + 1)) b.1 with | none => none | some c => some (c.1, b.2 :: c.2)) = some r' := ef
        split at ef'
        · cases ef'
        · rename_i r2 e2
          cases ef'
          refine hb s _ b D (olst K acc) ho σ4 G4 H4 _ (r4.mono s4) w4 fun v G5 H5 s5 w5 p5 => ?_
          obtain ⟨o, eo, us, rfl, hu, _⟩ := w5.ownAt (k := 0) rfl
          have lu := Paired.len hu
          refine ⟨us, eo, by rw [lu]; omega, b.1, acc ++ [b.2], G5, r2, sG.trans (s3.trans (s4.trans s5)), ?_, by rw [List.length_append]; show acc.length + 1 ≤ _; omega, e2, e1, by rw [List.append_assoc]; exact ea⟩
          exact w5.put (k := 0) (φ' := olst K (acc ++ [b.2])) rfl ⟨_, rfl, Paired.app' hu (.cons p5 .nil), by rw [List.length_append]; show acc.length + 1 ≤ _; omega⟩
  · have e : i = xs.length := by omega
    subst e
    rw [List.drop_length] at ef
    cases ef
    rw [List.append_nil] at ea
    subst ea
    refine .inl ⟨wk.stop G' _ H' sG w' (hP _ _ _), q D G' H' (s2.trans sG) ?_⟩
    rw [← e1]
    exact w'
end
/-! while True, left by a return -/
def Res.whr {S R : Type} (f : S → Res (Ctl S R)) : Nat → S → Res R
  | 0, _ => .bad
  | n + 1, s => Res.bind (f s) fun c => match c with
    | .nx s' => Res.whr f n s'
    | .rt r => .ok r
section
variable {K : Frag} {W : WX} {ωe : List Ent} {S R : Type} {Γ : Gm} {ω : List Ent} {fn : S → Gm × List Ent} {fr : R → RS}
theorem Go.whr {e : Bool} {tc : TT} {tb : TS} {f : S → Res (Ctl S R)} {n : Nat} {s0 : S} (h0 : Sub Γ (fn s0).1) (d0 : Dr ω (fn s0).2) (ht : ∀ Γ ω, EvT tc Γ ω ω true) (hb : ∀ s, Go tb (fn s).1 (fn s).2 (zC K W ωe fn fr) (f s)) :
    Go (tWhile tc tb) Γ ω (zR K W ωe e fr) (Res.whr f n s0) := fun σ G H D rp w z => by
  refine ⟨fun m σ' H' => ∃ s G', Le G G' ∧ Reps G' σ' (fn s).1 ∧ At G' (fn s).2 H' ∧ Res.whr f m s = Res.whr f n s0, ⟨n, s0, G, Le.refl _, rp.sub h0, d0.at w, rfl⟩, ?_⟩
  rintro m σ' H' ⟨s, G', sG, r', w', ef⟩
  cases m with
  | zero => exact absurd ef.symm z.1
  | succ m =>
    refine ht _ _ σ' G' H' _ r' w' fun G2 H2 s2 w2 => (if_pos rfl).mpr ⟨fun σ3 H3 => ∃ s3 G3, Le G G3 ∧ Reps G3 σ3 (fn s3).1 ∧ At G3 (fn s3).2 H3 ∧ Res.whr f m s3 = Res.whr f n s0, fun σ3 H3 q => ⟨m, Nat.lt_succ_self m, q⟩, ?_⟩
    have ef3 : (Res.bind (f s) fun c => match c with
      | .nx s' => Res.whr f m s'
      | .rt r => .ok r) = Res.whr f n s0 := ef
    refine hb s σ' G2 H2 _ (r'.mono s2) w2 ⟨fun q => ?_, fun s5 q σ5 G5 H5 s5' r5 w5 => ?_, fun r5 q => ?_, fun x q => ?_⟩
    · rw [q] at ef3
      exact z.1 ef3.symm
    · rw [q] at ef3
      exact ⟨s5, G5, sG.trans (s2.trans s5'), r5, w5, ef3⟩
    · rw [q] at ef3
      exact RetPost.mono (sG.trans s2) (z.2.1 r5 ef3.symm)
    · rw [q] at ef3
      exact PostE.mono (sG.trans s2) (z.2.2.1 x ef3.symm)
end
end Lf
/-! ## repr of lists and tuples with {} in them -/
namespace RC
open PySem PySem.Spec PyProof.Rows L2
open PySem.W (Frag)
mutual
/-- what is told: data, {}, lists and tuples of such -/
inductive Te (K : Frag) (H : Hp) : V → PyData → Prop
  | data {v : V} {d : PyData} (h : Dp K H v d) (c : d.canLay0 = true) : Te K H v d
  | ed {a : Addr} (h : Rd H a (.dK [])) : Te K H (.ref a) (.dict [])
  | dic {a : Addr} {kvs : List (Key × V)} {ks ds : List PyData} (h : Rd H a (.dK kvs)) (tk : TeA K H (kvs.map fun p => kV p.1) ks) (tv : TeA K H (kvs.map (·.2)) ds) : Te K H (.ref a) (.dict (ks.zip ds))
  | lst {a : Addr} {x : V} {xs : List V} {ds : List PyData} (h : SqL K H a (x :: xs)) (t : TeA K H (x :: xs) ds) : Te K H (.ref a) (.list ds)
  | tup {a : Addr} {xs : List V} {ds : List PyData} (h : SqT K H a xs) (t : TeA K H xs ds) : Te K H (.ref a) (.tuple ds)
inductive TeA (K : Frag) (H : Hp) : List V → List PyData → Prop
  | nil : TeA K H [] []
  | cons {v : V} {vs : List V} {d : PyData} {ds : List PyData} (h : Te K H v d) (t : TeA K H vs ds) : TeA K H (v :: vs) (d :: ds)
end
section
variable {X : Cx} {pins : List (Addr × Obj)} {σ : L2.St} {H : Hp} {s : Shared}
def Tell (P : Program) (w : World) (h : Heap) (u : Value) (d : PyData) : Prop := ∃ as bs, Reads h u d as ∧ ReadAtMost h d.depth bs ∧ ReprK P w bs h d.depth u d.shown
def TellA (P : Program) (w : World) (h : Heap) (us : List Value) (ds : List PyData) : Prop := ∃ as bs, ReadsAll h us ds as ∧ ReadAtMost h (PyData.depthAll ds) bs ∧ ReprAllK P w bs h (PyData.depthAll ds) us (PyData.shownAll ds)
theorem edict_at {a : Addr} (I : Inv X pins σ H s) (h : Rd H a (.dK [])) : ∃ ob n, s.heap.get? a = some ob ∧ ob.cls = .type "dict" ∧ ob.data = .dict #[] n ∧ (a == sysModules) = false := by
  obtain ⟨_, ns, vs, kv, ob, es, ep, e1, e2, e3, _, e5, _⟩ := (show ObjOk X.prog X.w H s.heap a (.dK []) from h.elim (fun q => I.hok a _ q) fun ⟨o, q⟩ => (I.hok a _ q).2)
  have z : vs = [] := by
    cases kv
    rfl
  subst z
  have ez : es = #[] := by
    obtain ⟨l⟩ := es
    have e5 := e5
    cases l with
    | nil => rfl
    | cons x l => cases e5
  exact ⟨ob, ep, e1, e2.1, by rw [e3, ez], ns⟩
theorem TeA.len {K : Frag} {H : Hp} : ∀ {vs : List V} {ds : List PyData}, TeA K H vs ds → vs.length = ds.length
  | _, _, .nil => rfl
  | _, _, .cons _ t => by
    rw [List.length_cons, List.length_cons, TeA.len t]
theorem keys_vals {P : Program} {w : World} : ∀ {kvs : List (Key × V)} {vs : List (Key × Value)} {es : List DictEntry}, KV kvs vs → Pairs (mixKind P w) es vs → Vals (kvs.map fun p => kV p.1) (es.map (·.key)) ∧ Vals (kvs.map (·.2)) (es.map (·.val))
  | [], [], [], .nil, .nil => ⟨.nil, .nil⟩
  | (k, v) :: kvs, (k', u) :: vs, e :: es, .cons r rs, .cons h1 h2 ps => by
    obtain ⟨ek, rv⟩ := r
    have ek : k = k' := ek
    subst ek
    obtain ⟨q1, q2⟩ := keys_vals rs ps
    refine ⟨.cons ?_ q1, .cons ?_ q2⟩
    · have h1 : keyIs k e.key = true := h1
      show RelV (kV k) e.key
      rcases keyIs_shape h1 with ⟨i, t, e1, e2⟩ | ⟨x, t, e1, e2⟩
      · rw [e1, e2]
        exact ⟨t, rfl⟩
      · rw [e1, e2]
        exact ⟨t, rfl⟩
    · have h2 : e.val = u := h2
      show RelV v e.val
      rw [h2]
      exact rv
theorem dict_at {a : Addr} {kvs : List (Key × V)} (I : Inv X pins σ H s) (h : Rd H a (.dK kvs)) : ∃ ob es n, s.heap.get? a = some ob ∧ ob.cls = .type "dict" ∧ ob.data = .dict es n ∧ (a == sysModules) = false ∧ Vals (kvs.map fun p => kV p.1) (es.toList.map (·.key)) ∧ Vals (kvs.map (·.2)) (es.toList.map (·.val)) := by
  obtain ⟨_, ns, vs, kv, ob, es, ep, e1, e2, e3, _, e5, _⟩ := (show ObjOk X.prog X.w H s.heap a (.dK kvs) from h.elim (fun q => I.hok a _ q) fun ⟨o, q⟩ => (I.hok a _ q).2)
  obtain ⟨q1, q2⟩ := keys_vals kv e5
  exact ⟨ob, es, ep, e1, e2.1, e3, ns, q1, q2⟩
theorem zip_fst {α β : Type} : ∀ {xs : List α} {ys : List β}, xs.length = ys.length → (xs.zip ys).map (·.1) = xs ∧ (xs.zip ys).map (·.2) = ys
  | [], [], _ => ⟨rfl, rfl⟩
  | x :: xs, y :: ys, h => by
    obtain ⟨a, b⟩ := zip_fst (xs := xs) (ys := ys) (Nat.succ.inj h)
    rw [List.zip_cons_cons, List.map_cons, List.map_cons, a, b]
    exact ⟨rfl, rfl⟩
  | [], _ :: _, h => by cases h
  | _ :: _, [], h => by cases h
/-- an entry's texts are no longer than the dict's -/
theorem dict_fits {kvs : List (PyData × PyData)} (hz : (PyData.dict kvs).shown.length ≤ sizeLine) : (∀ t ∈ PyData.shownAll (kvs.map (·.1)), t.length ≤ sizeLine) ∧ ∀ t ∈ PyData.shownAll (kvs.map (·.2)), t.length ≤ sizeLine := by
  have hz2 : (dictText (PyData.shownKv kvs)).length ≤ sizeLine := by simpa only [PyData.shown] using hz
  refine ⟨fun t ht => ?_, fun t ht => ?_⟩
  · obtain ⟨p, hp, hl⟩ := PyData.shownKv_key_le kvs t ht
    exact Nat.le_trans hl (Nat.le_trans (dictText_mem_le hp) hz2)
  · obtain ⟨p, hp, hl⟩ := PyData.shownKv_val_le kvs t ht
    exact Nat.le_trans hl (Nat.le_trans (dictText_mem_le hp) hz2)
mutual
theorem Te.tell (I : Inv X pins σ H s) : ∀ {v : V} {d : PyData} {u : Value}, Te X.K H v d → RelV v u → d.showable = true → d.shown.length ≤ sizeLine → Tell X.prog X.w s.heap u d
  | _, _, _, .data h c, r, hs, hz => by
    obtain ⟨as, rd⟩ := Dp.reads I _ _ _ h r
    obtain ⟨bs, b1, b2⟩ := ReprK.of_reads (prog := X.prog) (w := X.w) rd hs (PyData.noDict_hsm (PyData.hasDict_of_canLay _ c)) hz
    exact ⟨as, bs, rd, b1, b2⟩
  | _, _, _, .ed (a := a) h, r, _, _ => by
    cases r
    obtain ⟨ob, n, e1, e2, e3, ns⟩ := edict_at I h
    have rd : Reads s.heap (.ref a) (.dict []) ((a :: []) ++ []) := Reads.dict e1 e2 e3 .nil .nil
    refine ⟨_, [a], rd, ReadAtMost.cons rd (Nat.zero_le _) fun b hb => absurd hb List.not_mem_nil, ?_⟩
    have := ReprK.dict (prog := X.prog) (w := X.w) (as := []) (d := 0) e1 e2 e3 ns List.not_mem_nil .nil
    simpa only [PyData.depth, PyData.depthKv, PyData.shown, PyData.shownKv] using this
  | _, _, _, .dic (a := a) (ks := ks) (ds := ds) h tk tv, r, hs, hz => by
    cases r
    obtain ⟨ob, es, n, e1, e2, e3, ns, rk, rv⟩ := dict_at I h
    obtain ⟨z1, z2⟩ := zip_fst (xs := ks) (ys := ds) (by rw [← tk.len, ← tv.len, List.length_map, List.length_map])
    obtain ⟨s1, s2⟩ := PyData.showableKv_split (ks.zip ds) (by simpa [PyData.showable] using hs)
    obtain ⟨f1, f2⟩ := dict_fits hz
    rw [z1] at s1 f1
    rw [z2] at s2 f2
    obtain ⟨as1, bs1, p1, p2, p3⟩ := TeA.tell I tk rk s1 f1
    obtain ⟨as2, bs2, q1, q2, q3⟩ := TeA.tell I tv rv s2 f2
    have rd : Reads s.heap (.ref a) (.dict (ks.zip ds)) _ := Reads.dict e1 e2 e3 (by rw [z1]; exact p1) (by rw [z2]; exact q1)
    have d1 : PyData.depthAll ks ≤ PyData.depthKv (ks.zip ds) := by
      have := PyData.depthAll_keys_le (ks.zip ds)
      rw [z1] at this
      exact this
    have d2 : PyData.depthAll ds ≤ PyData.depthKv (ks.zip ds) := by
      have := PyData.depthAll_vals_le (ks.zip ds)
      rw [z2] at this
      exact this
    have hb : ReadAtMost s.heap (PyData.depthKv (ks.zip ds)) (bs1 ++ bs2) := (p2.mono d1).append (q2.mono d2)
    refine ⟨_, a :: (bs1 ++ bs2), rd, ReadAtMost.cons rd (by simp only [PyData.depth]; omega) hb, ?_⟩
    simp only [PyData.depth, PyData.shown, PyData.shownKv_eq]
    rw [z1, z2]
    exact ReprK.dict e1 e2 e3 ns (not_mem_of_deeper rd (by simp only [PyData.depth]; omega) hb) (ReprEntriesK.of_two es.toList _ _ (p3.more_le (fun b hb => List.mem_append_left bs2 hb) d1) (q3.more_le (fun b hb => List.mem_append_right bs1 hb) d2))
  | _, _, _, .lst (a := a) (ds := ds) h t, r, hs, hz => by
    cases r
    obtain ⟨its, rv, ⟨o, n, ho, hc, _, hd⟩, _⟩ := I.list h
    have hz2 : (listText (PyData.shownAll ds)).length ≤ sizeLine := by simpa only [PyData.shown] using hz
    obtain ⟨as, bs, q1, q2, q3⟩ := TeA.tell I t rv (by simpa [PyData.showable] using hs) fun t ht => Nat.le_trans (listText_mem_le ht) hz2
    have rd : Reads s.heap (.ref a) (.list ds) _ := Reads.list ho hc hd q1
    refine ⟨_, a :: bs, rd, ReadAtMost.cons rd (by simp only [PyData.depth]; omega) q2, ?_⟩
    simp only [PyData.depth, PyData.shown]
    cases rv with
    | cons r1 r2 => exact ReprK.list ho hc hd (not_mem_of_deeper rd (by simp only [PyData.depth]; omega) q2) (by simpa using q3.length_eq) fun i y e => q3.item i y (by simpa using e)
  | _, _, _, .tup (a := a) (ds := ds) h t, r, hs, hz => by
    cases r
    obtain ⟨its, rv, ⟨o, ho, hc, n, hd⟩, _⟩ := I.tuple h
    have hz2 : (tupleText (PyData.shownAll ds)).length ≤ sizeLine := by simpa only [PyData.shown] using hz
    obtain ⟨as, bs, q1, q2, q3⟩ := TeA.tell I t rv (by simpa [PyData.showable] using hs) fun t ht => Nat.le_trans (tupleText_mem_le ht) hz2
    have rd : Reads s.heap (.ref a) (.tuple ds) _ := Reads.tuple ho hc hd q1
    refine ⟨_, a :: bs, rd, ReadAtMost.cons rd (by simp only [PyData.depth]; omega) q2, ?_⟩
    simp only [PyData.depth, PyData.shown]
    exact ReprK.tuple ho hc hd (not_mem_of_deeper rd (by simp only [PyData.depth]; omega) q2) (by simpa using q3)
theorem TeA.tell (I : Inv X pins σ H s) : ∀ {vs : List V} {ds : List PyData} {us : List Value}, TeA X.K H vs ds → Vals vs us → PyData.showableAll ds = true → (∀ t ∈ PyData.shownAll ds, t.length ≤ sizeLine) → TellA X.prog X.w s.heap us ds
  | _, _, _, .nil, r, _, _ => by
    cases r
    refine ⟨[], [], .nil, fun b hb => absurd hb List.not_mem_nil, ?_⟩
    simp only [PyData.shownAll]
    exact .nil
  | _, _, _, .cons (d := d) (ds := ds) h t, r, hs, hz => by
    cases r with
    | cons r1 r2 =>
      have hs2 : d.showable = true ∧ PyData.showableAll ds = true := by simpa [PyData.showableAll] using hs
      have hz2 : ∀ t ∈ d.shown :: PyData.shownAll ds, t.length ≤ sizeLine := by simpa only [PyData.shownAll] using hz
      obtain ⟨as, bs, q1, q2, q3⟩ := Te.tell I h r1 hs2.1 (hz2 _ List.mem_cons_self)
      obtain ⟨cs, es, p1, p2, p3⟩ := TeA.tell I t r2 hs2.2 fun t ht => hz2 t (List.mem_cons_of_mem _ ht)
      refine ⟨_, bs ++ es, .cons q1 p1, ?_, ?_⟩
      · simp only [PyData.depthAll]
        exact (q2.mono (Nat.le_max_left _ _)).append (p2.mono (Nat.le_max_right _ _))
      · simp only [PyData.depthAll, PyData.shownAll]
        exact .cons ((q3.more fun b hb => List.mem_append_left es hb).level_le (Nat.le_max_left _ _)) (p3.more_le (fun b hb => List.mem_append_right bs hb) (Nat.le_max_right _ _))
end
def rReprE (K : Frag) : List V → Hp → VK → Prop := fun xs H Q => ∃ v d, xs = [v] ∧ Te K H v d ∧ d.showable = true ∧ d.depth ≤ 40 ∧ d.shown.length ≤ sizeLine ∧ Q (.str d.shown) H
theorem call_reprE (hg : X.A.guards = some []) (hr : Room 0 X.A) : CallR X (.builtin "repr") (rReprE X.K) := by
  intro pins s σ H xs us Q I r h
  obtain ⟨v, d, rfl, hd, hs, hdep, hlen, q⟩ := h
  have hu := hr.units
  cases hd with
  | data h c => exact call_reprD hg hr pins s σ H [v] us Q I r ⟨v, _, rfl, h, hs, c, hdep, hlen, q⟩
  | ed h => exact call_reprX hg hr pins s σ H _ us Q I r ⟨_, _, rfl, .edict h, q⟩
  | @dic a kvs ks ds h tk tv =>
    obtain ⟨u, rfl, ru⟩ := vals1 r
    cases ru
    obtain ⟨ob, es, n, e1, e2, e3, ns, rk, rv⟩ := dict_at I h
    obtain ⟨z1, z2⟩ := zip_fst (xs := ks) (ys := ds) (by rw [← tk.len, ← tv.len, List.length_map, List.length_map])
    obtain ⟨s1, s2⟩ := PyData.showableKv_split (ks.zip ds) (by simpa [PyData.showable] using hs)
    obtain ⟨f1, f2⟩ := dict_fits hlen
    have hz2 : (dictText (PyData.shownKv (ks.zip ds))).length ≤ sizeLine := by simpa only [PyData.shown] using hlen
    rw [z1] at s1 f1
    rw [z2] at s2 f2
    obtain ⟨as1, bs1, p1, p2, p3⟩ := TeA.tell I tk rk s1 f1
    obtain ⟨as2, bs2, q1, q2, q3⟩ := TeA.tell I tv rv s2 f2
    have rd : Reads s.heap (.ref a) (.dict (ks.zip ds)) _ := Reads.dict e1 e2 e3 (by rw [z1]; exact p1) (by rw [z2]; exact q1)
    have d1 : PyData.depthAll ks ≤ PyData.depthKv (ks.zip ds) := by
      have := PyData.depthAll_keys_le (ks.zip ds)
      rw [z1] at this
      exact this
    have d2 : PyData.depthAll ds ≤ PyData.depthKv (ks.zip ds) := by
      have := PyData.depthAll_vals_le (ks.zip ds)
      rw [z2] at this
      exact this
    have hb : ReadAtMost s.heap (PyData.depthKv (ks.zip ds)) (bs1 ++ bs2) := (p2.mono d1).append (q2.mono d2)
    have na : a ∉ bs1 ++ bs2 := not_mem_of_deeper rd (by simp only [PyData.depth]; omega) hb
    simp only [PyData.depth] at hdep
    simp only [PyData.shown, PyData.shownKv_eq] at q hz2
    rw [z1, z2] at q hz2
    exact call_repr_slot (by omega) ⟨ob, e1, e2⟩ PySem.F.slot_dict_repr (call_dict_reprK e1 e2 e3 ns na (ReprEntriesK.of_two es.toList _ _ (p3.more_le (fun b hb => List.mem_append_left bs2 hb) d1) (q3.more_le (fun b hb => List.mem_append_right bs1 hb) d2)) (g := []) hg (fun b _ => Clear.nil b) (by show X.A.units + 1 + _ < cLine; omega) (fun _ _ z => z) (fun h' t tk k => ⟨_, _, rfl, .str _, H, I.kept k, ⟨_, rfl⟩, q⟩) hz2)
  | @lst a x xs ds h t =>
    obtain ⟨u, rfl, ru⟩ := vals1 r
    cases ru
    obtain ⟨its, rv, ⟨o, n, ho, hc, _, hd⟩, _⟩ := I.list h
    have hz2 : (listText (PyData.shownAll ds)).length ≤ sizeLine := by simpa only [PyData.shown] using hlen
    obtain ⟨as, bs, q1, q2, q3⟩ := TeA.tell I t rv (by simpa [PyData.showable] using hs) fun t ht => Nat.le_trans (listText_mem_le ht) hz2
    have rd : Reads s.heap (.ref a) (.list ds) _ := Reads.list ho hc hd q1
    have na : a ∉ bs := not_mem_of_deeper rd (by simp only [PyData.depth]; omega) q2
    simp only [PyData.depth] at hdep
    simp only [PyData.shown] at q
    cases rv with
    | cons r1 r2 =>
      exact call_repr_slot (by omega) ⟨o, ho, hc⟩ PySem.F.slot_list_repr.toG (call_list_reprK ho hc hd na (by simpa using q3.length_eq) (fun i y e => q3.item i y (by simpa using e)) (g := []) hg (fun b _ => Clear.nil b) (by show X.A.units + 1 + _ < cLine; omega) (fun _ _ z => z) (fun h' t tk k => ⟨_, _, rfl, .str _, H, I.kept k, ⟨_, rfl⟩, q⟩) hz2)
  | @tup a xs ds h t =>
    obtain ⟨u, rfl, ru⟩ := vals1 r
    cases ru
    obtain ⟨its, rv, ⟨o, ho, hc, n, hd⟩, _⟩ := I.tuple h
    have hz2 : (tupleText (PyData.shownAll ds)).length ≤ sizeLine := by simpa only [PyData.shown] using hlen
    obtain ⟨as, bs, q1, q2, q3⟩ := TeA.tell I t rv (by simpa [PyData.showable] using hs) fun t ht => Nat.le_trans (tupleText_mem_le ht) hz2
    have rd : Reads s.heap (.ref a) (.tuple ds) _ := Reads.tuple ho hc hd q1
    have na : a ∉ bs := not_mem_of_deeper rd (by simp only [PyData.depth]; omega) q2
    simp only [PyData.depth] at hdep
    simp only [PyData.shown] at q
    exact call_repr_slot (by omega) ⟨o, ho, hc⟩ PySem.F.slot_tuple_repr (call_tuple_reprK ho hc hd na (by simpa using q3) (g := []) hg (fun b _ => Clear.nil b) (by show X.A.units + 1 + _ < cLine; omega) (fun _ _ z => z) (fun h' t tk k => ⟨_, _, rfl, .str _, H, I.kept k, ⟨_, rfl⟩, q⟩) hz2)
end
end RC
namespace Lf
open PySem PySem.Spec PyProof.Rows L2
open PySem.W (Frag)
mutual
def PV.dE : PV → Option PyData
  | .non => some .none
  | .bl b => some (.bool b)
  | .int i => some (.int i)
  | .str s => if PyData.strOk s = true then some (.str s) else none
  | .lst xs => (PV.dEs xs).map .list
  | .tup xs => (PV.dEs xs).map .tuple
  | .edict => some (.dict [])
  | .roll _ _ => none
def PV.dEs : List PV → Option (List PyData)
  | [] => some []
  | x :: xs => match x.dE, PV.dEs xs with
    | some d, some ds => some (d :: ds)
    | _, _ => none
end
theorem dEs_cons {x : PV} {xs : List PV} {ds : List PyData} (e : PV.dEs (x :: xs) = some ds) : ∃ d es, x.dE = some d ∧ PV.dEs xs = some es ∧ ds = d :: es := by
  unfold PV.dEs at e
  cases q1 : x.dE with
  | none =>
    rw [q1] at e
    cases e
  | some d =>
    cases q2 : PV.dEs xs with
    | none =>
      rw [q1, q2] at e
      cases e
    | some es =>
      rw [q1, q2] at e
      cases e
      exact ⟨d, es, rfl, rfl, rfl⟩
section
variable {K : Frag}
mutual
theorem any_te {G H : Hp} {ω : List Ent} (w : At G ω H) : ∀ {v : V} {x : PV} {d : PyData}, AnyV K G v x → x.dE = some d → RC.Te K H v d
  | _, _, _, .non, e => by
    cases e
    exact .data .non (by simp only [PyData.canLay0])
  | _, _, _, .bl b, e => by
    cases e
    exact .data (.bl b) (by simp only [PyData.canLay0])
  | _, _, _, .int i, e => by
    cases e
    exact .data (.int i) (by simp only [PyData.canLay0])
  | _, _, _, .str s, e => by
    unfold PV.dE at e
    split at e
    · rename_i c
      cases e
      exact .data (.str s) (by rw [PyData.canLay0]; exact c)
    · cases e
  | _, _, _, .lst (xs := xs) h p, e => by
    unfold PV.dE at e
    cases q : PV.dEs xs with
    | none =>
      rw [q] at e
      cases e
    | some ds =>
      rw [q] at e
      cases e
      have t := any_tes w p q
      have sq := RC.sq_of (K := K) (w.lst h)
      cases t with
      | nil => exact .data (.lst sq .nil) (by simp only [PyData.canLay0, PyData.canLayAll0])
      | cons a b => exact .lst sq (.cons a b)
  | _, _, _, .tup (xs := xs) h p, e => by
    unfold PV.dE at e
    cases q : PV.dEs xs with
    | none =>
      rw [q] at e
      cases e
    | some ds =>
      rw [q] at e
      cases e
      exact .tup (RC.st_of (w.tup h)) (any_tes w p q)
  | _, _, _, .edict h, e => by
    cases e
    rcases h with z | ⟨o, z⟩
    · exact .ed (.inl (w.get z))
    · exact .ed (.inr ⟨o, w.get z⟩)
  | _, _, _, .roll .., e => by cases e
theorem any_tes {G H : Hp} {ω : List Ent} (w : At G ω H) : ∀ {vs : List V} {xs : List PV} {ds : List PyData}, AnyL K G vs xs → PV.dEs xs = some ds → RC.TeA K H vs ds
  | _, _, _, .nil, e => by
    cases e
    exact .nil
  | _, _, _, .cons h t, e => by
    obtain ⟨d, es, q1, q2, rfl⟩ := dEs_cons e
    exact .cons (any_te w h q1) (any_tes w t q2)
end
def toldE (x : PV) : Option Str := match x.dE with
  | none => none
  | some d => if d.showable = true ∧ d.depth ≤ 40 ∧ d.shown.length ≤ sizeLine then some d.shown else none
theorem CaX.toldE {ω : List Ent} {x : PV} {t : Str} (h : Lf.toldE x = some t) : CaX (RC.rReprE K) ω ω [is K x] (is K t) := fun G H vs Q w p q => by
  obtain ⟨v, rfl, pv⟩ := PArgs.one p
  unfold Lf.toldE at h
  split at h
  · cases h
  · rename_i d ed
    split at h
    · rename_i c
      cases h
      exact ⟨v, d, rfl, any_te w pv ed, c.1, c.2.1, c.2.2, q _ G H (Le.refl _) w rfl⟩
    · cases h
end
end Lf
/-! ## Values as they are; errors that hold them -/
namespace Lf
open PySem PySem.Spec PyProof.Rows L2
open PySem.W (Frag)
open He (ga)
/-- the very value -/
structure VV where
  v : V
instance : Rp VV := ⟨fun _ _ v x => v = x.v, fun _ h => h⟩
/-- an error: its class, its field (if there is one), what it holds -/
structure Er where
  cls : Str
  fld : Option Str
  val : V
instance : Rp Er := ⟨fun K G v e => ∃ a d, v = .ref a ∧ G a = some (RC.ErrO (.ref (ga K e.cls)) d a) ∧ (match e.fld with | some f => ∃ d', d = some d' ∧ G d' = some (.xd [(f, e.val)]) | none => d = none), fun {K H H' v e} s h => by
  obtain ⟨a, d, e1, e2, e3⟩ := h
  refine ⟨a, d, e1, s.at e2, ?_⟩
  cases q : e.fld with
  | none =>
    rw [q] at e3
    exact e3
  | some f =>
    rw [q] at e3
    obtain ⟨d', e4, e5⟩ := e3
    exact ⟨d', e4, s.at e5⟩⟩
section
variable {K : Frag} {Γ : Gm} {ω ω1 : List Ent} {te : TE} {tA : TA}
theorem EvX.vI {i : Int} (h : EvX te Γ ω ω1 (is K i)) : EvX te Γ ω ω1 (is K (VV.mk (.int i))) := h.as fun _ _ p => p
theorem EvX.vS {s : Str} (h : EvX te Γ ω ω1 (is K s)) : EvX te Γ ω ω1 (is K (VV.mk (.str s))) := h.as fun _ _ p => p
theorem EvX.vN {u : Unit} (h : EvX te Γ ω ω1 (is K u)) : EvX te Γ ω ω1 (is K (VV.mk .non)) := h.as fun _ _ p => p
theorem EvX.mkP {x : VV} {c f : Str} (h : EvA tA Γ ω ω1 [is K x]) : EvX (RC.tMkP (ga K c) f tA) Γ ω ω1 (is K (Er.mk c (some f) x.v)) := fun σ G H Q r w q => h σ G H _ r w fun vs G1 H1 s1 w1 p1 => by
  obtain ⟨v, rfl, pv⟩ := PArgs.one p1
  cases (show v = x.v from pv)
  refine ⟨x.v, rfl, fun d e hd he ne => ?_⟩
  obtain ⟨w2, s2⟩ := w1.new (o := .xd [(f, x.v)]) hd
  have he2 : upd H1 d (.xd [(f, x.v)]) e = none := by
    rw [upd_ne (Ne.symm ne)]
    exact he
  obtain ⟨w3, s3⟩ := w2.new (o := RC.ErrO (.ref (ga K c)) (some d) e) he2
  exact q _ _ _ (s1.trans (s2.trans s3)) w3 ⟨e, some d, rfl, upd_same, d, rfl, s3.at upd_same⟩
theorem EvX.mk0 {c f : Str} : EvX (RC.tMk0 (ga K c) f) Γ ω ω (is K (Er.mk c (some f) .non)) := fun σ G H Q r w q => fun d e hd he ne => by
  obtain ⟨w2, s2⟩ := w.new (o := .xd [(f, .non)]) hd
  have he2 : upd H d (.xd [(f, .non)]) e = none := by
    rw [upd_ne (Ne.symm ne)]
    exact he
  obtain ⟨w3, s3⟩ := w2.new (o := RC.ErrO (.ref (ga K c)) (some d) e) he2
  exact q _ _ _ (s2.trans s3) w3 ⟨e, some d, rfl, upd_same, d, rfl, s3.at upd_same⟩
theorem EvX.mkU {c : Str} : EvX (RC.tMkU (ga K c)) Γ ω ω (is K (Er.mk c none .non)) := fun σ G H Q r w q => fun e he => by
  obtain ⟨w3, s3⟩ := w.new (o := RC.ErrO (.ref (ga K c)) none e) he
  exact q _ _ _ s3 w3 ⟨e, none, rfl, upd_same, rfl⟩
/-! isinstance -/
def isB (L : List Str) (e : Er) (c : Str) : Option Bool := if e.cls ∈ L ∧ c ∈ L then some (decide (e.cls = c)) else none
def isUp (L : List Str) (e : Er) : Option Bool := if e.cls ∈ L then some true else none
theorem dict_there {G H : Hp} {e : Er} {d : Option Addr} (w : At G ω H) (h : match e.fld with | some f => ∃ d', d = some d' ∧ G d' = some (.xd [(f, e.val)]) | none => d = none) : ∀ d', d = some d' → ∃ fs, H d' = some (.xd fs) := fun d' ed => by
  cases q : e.fld with
  | none =>
    rw [q] at h
    rw [h] at ed
    cases ed
  | some f =>
    rw [q] at h
    obtain ⟨d2, e1, e2⟩ := h
    rw [e1] at ed
    cases ed
    exact ⟨_, w.get e2⟩
theorem CaX.isB {L : List Str} {ce : Str} {e : Er} {c : Str} {b : Bool} {u : V} (hu : ClsV u (.ref (ga K c))) (E : RC.Kits K L ce) (h : Lf.isB L e c = some b) : CaX (RC.rIsB K) ω ω [is K e, eqv u] (is K b) := fun G H vs Q w pa q => by
  obtain ⟨v, v', rfl, pv, rfl⟩ := PArgs.two pa
  unfold Lf.isB at h
  split at h
  · rename_i m
    cases h
    obtain ⟨a, d, rfl, ha, hd⟩ := pv
    exact ⟨a, _, d, _, _, _, rfl, w.get ha, dict_there w hd, (E.cls _ m.1).1, (E.cls _ m.1).2.1, hu, E.own _ m.1 _ m.2, q _ G H (Le.refl _) w rfl⟩
  · cases h
theorem CaX.isUp {L : List Str} {ce : Str} {e : Er} {b : Bool} {u : V} (hu : ClsV u (.ref (ga K ce))) (E : RC.Kits K L ce) (h : Lf.isUp L e = some b) : CaX (RC.rIsB K) ω ω [is K e, eqv u] (is K b) := fun G H vs Q w pa q => by
  obtain ⟨v, v', rfl, pv, rfl⟩ := PArgs.two pa
  unfold Lf.isUp at h
  split at h
  · rename_i m
    cases h
    obtain ⟨a, d, rfl, ha, hd⟩ := pv
    exact ⟨a, _, d, _, _, _, rfl, w.get ha, dict_there w hd, (E.cls _ m).1, (E.cls _ m).2.1, hu, E.up _ m, q _ G H (Le.refl _) w rfl⟩
  · cases h
theorem CaX.isVE {L : List Str} {ce : Str} {e : Er} {b : Bool} {u : V} (hu : ClsV u (.type "ValueError")) (E : RC.Kits K L ce) (h : Lf.isUp L e = some b) : CaX (RC.rIsB K) ω ω [is K e, eqv u] (is K b) := fun G H vs Q w pa q => by
  obtain ⟨v, v', rfl, pv, rfl⟩ := PArgs.two pa
  unfold Lf.isUp at h
  split at h
  · rename_i m
    cases h
    obtain ⟨a, d, rfl, ha, hd⟩ := pv
    exact ⟨a, _, d, _, _, _, rfl, w.get ha, dict_there w hd, (E.cls _ m).1, (E.cls _ m).2.1, hu, E.ve _ m, q _ G H (Le.refl _) w rfl⟩
  · cases h
/-! err.f -/
def fldB (L : List Str) (f : Str) (e : Er) : Option V := if e.cls ∈ L ∧ e.fld = some f then some e.val else none
theorem EvX.fldB {L : List Str} {ce f : Str} {e : Er} {x : V} (he : EvX te Γ ω ω1 (is K e)) (E : RC.Kits K L ce) (hf : f = "value" ∨ f = "name") (h : Lf.fldB L f e = some x) : EvX (RC.tFldB K f te) Γ ω ω1 (is K (VV.mk x)) := fun σ G H Q r w q => he σ G H _ r w fun v G1 H1 s1 w1 p1 => by
  unfold Lf.fldB at h
  split at h
  · rename_i m
    cases h
    have no : PySem.W.findIn K (.ref (ga K e.cls)) f = some none := by
      rcases hf with q2 | q2
      · rw [q2]
        exact (E.cls _ m.1).2.2.1
      · rw [q2]
        exact (E.cls _ m.1).2.2.2
    obtain ⟨a, d, rfl, ha, hd⟩ := p1
    rw [m.2] at hd
    obtain ⟨d', rfl, ed⟩ := hd
    exact ⟨a, _, d', _, rfl, w1.get ha, (E.cls _ m.1).1, no, w1.get ed, q _ G1 H1 s1 w1 rfl⟩
  · cases h
/-! repr of the very value, so many times -/
/-- the very value, and what it reads as while these are one's own -/
def tel (K : Frag) (ω : List Ent) (g : VV) (d : PyData) (ty : String) : MP := ⟨fun G v => v = g.v ∧ ∀ G' H', Le G G' → At G' ω H' → RC.Te K H' g.v d ∧ TyX K H' g.v (.type ty), fun s h => ⟨h.1, fun G' H' s' => h.2 G' H' (s.trans s')⟩⟩
/-- a list, where this is known of the value -/
def telL (K : Frag) (ω : List Ent) (xs : List VV) (g : VV) (d : PyData) : MP := ⟨fun G v => (is K xs).p G v ∧ ∀ G' H', Le G G' → At G' ω H' → RC.Te K H' g.v d, fun s h => ⟨(is K xs).mono s h.1, fun G' H' s' => h.2 G' H' (s.trans s')⟩⟩
structure TellD (d : PyData) : Prop where
  sh : d.showable = true
  dp : d.depth ≤ 30
  sz : (PyData.list (List.replicate 14 d)).shown.length ≤ sizeLine
theorem EvX.givT {i : Nat} {g : VV} {d : PyData} {ty : String} {ω0 : List Ent} (h : Γ[i]? = some (some (tel K ω0 g d ty))) : EvX (tVar i) Γ ω ω (is K g) := (EvX.var h).as fun _ _ p => p.1
theorem EvX.withT {i : Nat} {g : VV} {d : PyData} {ty : String} {ω0 : List Ent} {xs : List VV} (hi : Γ[i]? = some (some (tel K ω0 g d ty))) (h : EvX te Γ ω ω1 (is K xs)) : EvX te Γ ω ω1 (telL K ω0 xs g d) := fun σ G H Q r w q => h σ G H Q r w fun v G1 H1 s1 w1 p1 => by
  obtain ⟨u, _, pu⟩ := r.2 i _ hi
  exact q v G1 H1 s1 w1 ⟨p1, fun G' H' s' w' => (pu.2 G' H' (s1.trans s') w').1⟩
open Classical in
noncomputable def toldV (g : VV) (d : PyData) (xs : List VV) : Option Str := if (∀ x ∈ xs, x = g) ∧ (PyData.list (List.replicate xs.length d)).shown.length ≤ sizeLine then some (PyData.list (List.replicate xs.length d)).shown else none
theorem te_all {H : Hp} {g : VV} {d : PyData} {G : Hp} (te : RC.Te K H g.v d) : ∀ {vs : List V} {xs : List VV}, All K G vs xs → (∀ x ∈ xs, x = g) → RC.TeA K H vs (List.replicate xs.length d)
  | _, _, .nil, _ => .nil
  | _, _, .cons (a := v) (b := x) r t, h => by
    rw [List.length_cons, List.replicate_succ]
    have e := h x List.mem_cons_self
    subst e
    refine .cons ?_ (te_all te t fun y hy => h y (List.mem_cons_of_mem _ hy))
    have r : v = x.v := r
    rw [r]
    exact te
theorem show_reps {d : PyData} (h : d.showable = true) : ∀ n : Nat, PyData.showableAll (List.replicate n d) = true
  | 0 => by
    show PyData.showableAll [] = true
    simp only [PyData.showableAll]
  | n + 1 => by
    rw [List.replicate_succ]
    simp only [PyData.showableAll, h, show_reps h n, Bool.and_self]
theorem depth_reps {d : PyData} : ∀ n : Nat, PyData.depthAll (List.replicate n d) ≤ d.depth
  | 0 => by
    show PyData.depthAll [] ≤ _
    simp only [PyData.depthAll]
    omega
  | n + 1 => by
    rw [List.replicate_succ]
    have := depth_reps (d := d) n
    simp only [PyData.depthAll]
    omega
theorem CaX.toldV {g : VV} {d : PyData} {xs : List VV} {t : Str} (td : TellD d) (h : Lf.toldV g d xs = some t) : CaX (RC.rReprE K) ω ω [telL K ω xs g d] (is K t) := fun G H vs Q w pa q => by
  obtain ⟨v, rfl, ⟨a, us, rfl, ea, ha, _⟩, tf⟩ := PArgs.one pa
  unfold Lf.toldV at h
  split at h
  · rename_i c
    cases h
    have ta := te_all (tf G H (Le.refl _) w) ha c.1
    have sq : SqL K H a us := RC.sq_of (w.lst ea)
    refine ⟨.ref a, .list (List.replicate xs.length d), rfl, ?_, by simp only [PyData.showable]; exact show_reps td.sh _, ?_, c.2, q _ G H (Le.refl _) w rfl⟩
    · revert ta
      generalize List.replicate xs.length d = ds
      intro ta
      cases ta with
      | nil => exact .data (.lst sq .nil) (by simp only [PyData.canLay0, PyData.canLayAll0])
      | cons x y => exact .lst sq (.cons x y)
    · have := depth_reps (d := d) xs.length
      have := td.dp
      simp only [PyData.depth]
      omega
  · cases h
end
end Lf
/-! ## A loop over values of all kinds that are changed as it goes -/
namespace Lf
open PySem PySem.Spec PyProof.Rows L2
open PySem.W (Frag)
open He (ga)
section
variable {K : Frag} {Γ : Gm} {ω ω1 ω2 : List Ent} {te ta tb : TE} {tA tr : TA}
theorem OpX.ixS {xs : Sc} {i : Int} {x : Int} (e : atI xs.l i = some x) : OpX (rIxL K) ω ω (is K xs) (is K i) (is K x) := fun G H u v Q w p1 p2 q => by
  obtain ⟨a, rfl, ea⟩ := p1
  cases p2
  have e' : SqL K H a (xs.l.map V.int) := by
    rcases ea with (z | ⟨o, z⟩) | z
    · exact .inl (.inl (w.lst z))
    · exact .inl (.inr ⟨o, w.get z⟩)
    · exact .inr z
  have ev : L2.atI (xs.l.map V.int) i = some (.int x) := by
    unfold L2.atI at e ⊢
    rw [List.length_map]
    cases z : ixN xs.l.length i with
    | none =>
      rw [z] at e
      cases e
    | some j =>
      rw [z] at e
      show (xs.l.map V.int)[j]? = _
      rw [List.getElem?_map, show xs.l[j]? = some x from e]
      rfl
  exact ⟨a, _, i, .int x, rfl, rfl, e', ev, q _ G H (Le.refl _) w rfl⟩
/-! ### xs.pop(0) -/
/-- a new thing, one's own, as the first argument -/
theorem EvX.first {sp : Sp} {E : XK} {dv : List V} {φ : OC} {m : MP} (h1 : EvF ta Γ ω ω1 φ) (h2 : ∀ p, EvX (tCall sp dv E (tCons (tC (.ref p)) tr)) Γ (.own p φ :: ω1) ω2 m) : EvX (tCall sp dv E (tCons ta tr)) Γ ω ω2 m := fun σ G H Q r w q => h1 σ G H _ r w fun p G1 H1 s1 w1 => h2 p σ G1 H1 Q (r.mono s1) w1 fun v G2 H2 s2 w2 pm => q v G2 H2 (s1.trans s2) w2 pm
theorem EvX.cA {p : Addr} : EvX (tC (.ref p)) Γ ω ω (adr p) := fun σ G H Q r w q => q _ G H (Le.refl _) w rfl
theorem EvX.dr {m : MP} (h : EvX te Γ ω ω1 m) (d : Dr ω1 ω2) : EvX te Γ ω ω2 m := fun σ G H Q r w q => h σ G H Q r w fun v G2 H2 s w2 p => q v G2 H2 s (d.at w2) p
/-! ### what a value reads as -/
structure TV where
  g : VV
  d : Option (PyData × String)
instance : Rp TV := ⟨fun K G v x => v = x.g.v ∧ ∀ d t, x.d = some (d, t) → ∀ G' ω H', Le G G' → At G' ω H' → RC.Te K H' x.g.v d ∧ TyX K H' x.g.v (.type t), fun s h => ⟨h.1, fun d t e G' ω H' s' => h.2 d t e G' ω H' (s.trans s')⟩⟩
def Tells (K : Frag) {α : Type} [Rp α] (x : α) (d : PyData) (t : String) : Prop := ∀ (G H : Hp) (ω : List Ent) (v : V), At G ω H → Rp.rep K G v x → RC.Te K H v d ∧ TyX K H v (.type t)
theorem tells_int (i : Int) : Tells K i (.int i) "int" := fun G H ω v w p => by
  cases (show v = .int i from p)
  exact ⟨.data (.int i) (by simp only [PyData.canLay0]), .base (.int i)⟩
theorem tells_str (s : Str) (h : PyData.strOk s = true) : Tells K s (.str s) "str" := fun G H ω v w p => by
  cases (show v = .str s from p)
  exact ⟨.data (.str s) (by rw [PyData.canLay0]; exact h), .base (.str s)⟩
theorem tells_bool (b : Bool) : Tells K b (.bool b) "bool" := fun G H ω v w p => by
  cases (show v = .bl b from p)
  exact ⟨.data (.bl b) (by simp only [PyData.canLay0]), .base (.bl b)⟩
theorem tells_non (u : Unit) : Tells K u .none "NoneType" := fun G H ω v w p => by
  cases (show v = .non from p)
  exact ⟨.data .non (by simp only [PyData.canLay0]), .base .non⟩
theorem tells_tu (t : Tu Int) : Tells K t (.tuple (t.l.map .int)) "tuple" := fun G H ω v w p => by
  obtain ⟨a, vs, rfl, e, ha, _⟩ := p
  refine ⟨.tup (RC.st_of (w.tup e)) ?_, .base (.tup (w.tup e))⟩
  generalize t.l = l at ha
  clear e
  induction ha with
  | nil => exact .nil
  | cons r _ ih => exact .cons (tells_int _ G H ω _ w r).1 ih
theorem tells_p2 {α β : Type} [Rp α] [Rp β] {x : α} {y : β} {d1 d2 : PyData} {t1 t2 : String} (h1 : Tells K x d1 t1) (h2 : Tells K y d2 t2) : Tells K (x, y) (.tuple [d1, d2]) "tuple" := fun G H ω v w p => by
  obtain ⟨a, u1, u2, rfl, e, p1, p2⟩ := p
  exact ⟨.tup (RC.st_of (w.tup e)) (.cons (h1 G H ω _ w p1).1 (.cons (h2 G H ω _ w p2).1 .nil)), .base (.tup (w.tup e))⟩
/-! ### a display of values of all kinds -/
def EvM (K : Frag) (tA : TA) (Γ : Gm) (ω : List Ent) (C : List TV → List Ent → Prop) : Prop := ∀ (σ : L2.St) (G H : Hp) (Q : List V → Hp → Prop), Reps G σ Γ → At G ω H → (∀ us xs ω1 G2 H2, Le G G2 → At G2 ω1 H2 → All K G2 us xs → C xs ω1 → Q us H2) → tA σ H Q
theorem EvM.nil : EvM K tNil Γ ω fun xs ω1 => xs = [] ∧ ω1 = ω := fun σ G H Q r w q => q [] [] ω G H (Le.refl _) w .nil ⟨rfl, rfl⟩
theorem EvM.pl {α : Type} [Rp α] {x : α} {d : PyData} {t : String} {C : List TV → List Ent → Prop} (tl : Tells K x d t) (h : EvX te Γ ω ω (is K x)) (hr : EvM K tr Γ ω C) : EvM K (tCons te tr) Γ ω fun xs ω1 => ∃ v rest, xs = ⟨⟨v⟩, some (d, t)⟩ :: rest ∧ C rest ω1 := fun σ G H Q r w q =>
  h σ G H _ r w fun v G1 H1 s1 w1 p1 => hr σ G1 H1 _ (r.mono s1) w1 fun us xs ω1 G2 H2 s2 w2 a c => q (v :: us) _ ω1 G2 H2 (s1.trans s2) w2 (.cons (show Rp.rep K G2 v (TV.mk ⟨v⟩ (some (d, t))) from ⟨rfl, fun d' t' e G' ω' H' s' w' => by
    cases e
    exact tl G' H' ω' v w' (Rp.mono (s2.trans s') p1)⟩) a) ⟨v, xs, rfl, c⟩
theorem EvM.ow {φ : OC} {C : Addr → List TV → List Ent → Prop} (h : EvF te Γ ω ω φ) (hr : ∀ p, EvM K tr Γ (.own p φ :: ω) (C p)) : EvM K (tCons te tr) Γ ω fun xs ω1 => ∃ p rest, xs = ⟨⟨.ref p⟩, none⟩ :: rest ∧ C p rest ω1 := fun σ G H Q r w q =>
  h σ G H _ r w fun p G1 H1 s1 w1 => hr p σ G1 H1 _ (r.mono s1) w1 fun us xs ω1 G2 H2 s2 w2 a c => q (.ref p :: us) _ ω1 G2 H2 (s1.trans s2) w2 (.cons (show Rp.rep K G2 (.ref p) (TV.mk ⟨.ref p⟩ none) from ⟨rfl, fun d' t' e => by cases e⟩) a) ⟨p, xs, rfl, c⟩
/-! ### what one turn does -/
theorem tel_plain {g : VV} {d : PyData} {t : String} (ω : List Ent) {G : Hp} {v : V} (p : (is K (TV.mk g (some (d, t)))).p G v) : (tel K ω g d t).p G v := ⟨p.1, fun G' H' s w => p.2 d t rfl G' ω H' s w⟩
theorem tel_ownL {p : Addr} {k : Nat} {xs : List PV} {d : PyData} (ho : ω[k]? = some (Ent.own p (olst K xs))) (e : (PV.lst xs).dE = some d) {G : Hp} {v : V} (h : v = .ref p) : (tel K ω ⟨.ref p⟩ d "list").p G v := ⟨h, fun G' H' s w => by
  obtain ⟨o, eo, us, rfl, z, l⟩ := w.ownAt ho
  have sq : SqL K H' p us := RC.sq_of eo
  refine ⟨?_, .base (.lst eo)⟩
  unfold PV.dE at e
  cases q : PV.dEs xs with
  | none =>
    rw [q] at e
    cases e
  | some ds =>
    rw [q] at e
    cases e
    have ta : RC.TeA K H' us ds := by
      clear eo l sq ho
      induction z generalizing ds with
      | nil =>
        cases q
        exact .nil
      | cons r _ ih =>
        obtain ⟨d1, es, q1, q2, rfl⟩ := dEs_cons q
        exact .cons (any_te w r q1) (ih _ q2)
    cases ta with
    | nil => exact .data (.lst sq .nil) (by simp only [PyData.canLay0, PyData.canLayAll0])
    | cons a b => exact .lst sq (.cons a b)⟩
theorem ints_te {G H : Hp} (w : At G ω H) {v : V} {l : List Int} (h : Rp.rep K G v l) : RC.Te K H v (.list (l.map .int)) := by
  obtain ⟨a, us, rfl, e, ha, hl⟩ := h
  have sq : SqL K H a us := RC.sq_of (w.lst e)
  have ta : RC.TeA K H us (l.map .int) := by
    clear e sq hl
    induction ha with
    | nil => exact .nil
    | cons r _ ih => exact .cons (tells_int _ G H ω _ w r).1 ih
  revert ta
  generalize l.map PyData.int = ds
  intro ta
  cases ta with
  | nil => exact .data (.lst sq .nil) (by simp only [PyData.canLay0, PyData.canLayAll0])
  | cons a b => exact .lst sq (.cons a b)
def dicD (d : Dic Str (List Int)) : PyData := .dict ((d.l.map fun p => PyData.str p.1).zip (d.l.map fun p => PyData.list (p.2.map .int)))
theorem tel_ownD {p : Addr} {k : Nat} {d : Dic Str (List Int)} (ho : ω[k]? = some (Ent.own p (odic K d))) (ok : ∀ q ∈ d.l, PyData.strOk q.1 = true) {G : Hp} {v : V} (h : v = .ref p) : (tel K ω ⟨.ref p⟩ (dicD d) "dict").p G v := ⟨h, fun G' H' s w => by
  obtain ⟨o, eo, kvs, rfl, z, l⟩ := w.ownAt ho
  refine ⟨.dic (.inl eo) ?_ ?_, .base (.dK eo)⟩
  · clear eo l ho
    generalize d.l = l at z ok
    induction z with
    | nil => exact .nil
    | @cons kv q _ _ r _ ih =>
      refine .cons ?_ (ih fun x hx => ok x (List.mem_cons_of_mem _ hx))
      have e : kv.1 = .inr q.1 := r.1
      show RC.Te K H' (kV kv.1) _
      rw [e]
      exact .data (.str q.1) (by rw [PyData.canLay0]; exact ok q List.mem_cons_self)
  · clear eo l ho
    generalize d.l = l at z ok
    induction z with
    | nil => exact .nil
    | @cons kv q _ _ r _ ih => exact .cons (ints_te w r.2) (ih fun x hx => ok x (List.mem_cons_of_mem _ hx))⟩
theorem EvM.mono {C C' : List TV → List Ent → Prop} (h : EvM K tA Γ ω C) (f : ∀ xs ω1, C xs ω1 → C' xs ω1) : EvM K tA Γ ω C' := fun σ G H Q r w q => h σ G H Q r w fun us xs ω1 G2 H2 s w2 a c => q us xs ω1 G2 H2 s w2 a (f _ _ c)
theorem EvX.telOf {α : Type} [Rp α] {x : α} {g : VV} {d : PyData} {t : String} (tl : Tells K x d t) (hv : ∀ G v, Rp.rep K G v x → v = g.v) (h : EvX te Γ ω ω1 (is K x)) : EvX te Γ ω ω1 (tel K ω1 g d t) := h.as fun G v p => ⟨hv G v p, fun G' H' s w => by
  have := tl G' H' ω1 v w (Rp.mono s p)
  rw [hv G v p] at this
  exact this⟩
theorem CaX.isiT {g : VV} {d : PyData} {t : String} {c : V} {u : Value} {b : Bool} (hc : ClsV c u) (e : PySem.W.kitOne K (.type t) u = some b) : CaX (rIsi K) ω ω [tel K ω g d t, eqv c] (is K b) := fun G H vs Q w pa q => by
  obtain ⟨v, v', rfl, h, rfl⟩ := PArgs.two pa
  have ty := (h.2 G H (Le.refl _) w).2
  rw [← h.1] at ty
  exact ⟨v, _, _, _, b, rfl, hc, ty, e, q _ G H (Le.refl _) w rfl⟩
inductive Step (K : Frag) : TV → List Ent → List Ent → Prop
  | plain (g : VV) (d : PyData) (t : String) {ω : List Ent} (td : TellD d) (n1 : PySem.W.kitOne K (.type t) (.type "list") = some false) (n2 : PySem.W.kitOne K (.type t) (.type "dict") = some false) : Step K ⟨g, some (d, t)⟩ ω ω
  | list (p : Addr) (k : Nat) (xs : List PV) (d d' : PyData) {ω : List Ent} (ho : ω[k]? = some (Ent.own p (olst K xs))) (e : (PV.lst xs).dE = some d) (e' : (PV.lst (xs ++ [.str "more"])).dE = some d') (td : TellD d) (td' : TellD d') (l : xs.length ≤ 10) : Step K ⟨⟨.ref p⟩, none⟩ ω (ω.set k (.own p (olst K (xs ++ [.str "more"]))))
  | dict (p : Addr) (k : Nat) (d d' : Dic Str (List Int)) {ω : List Ent} (ho : ω[k]? = some (Ent.own p (odic K d))) (e : d.put "more" [1] = some d') (ok : ∀ q ∈ d.l, PyData.strOk q.1 = true) (ok' : ∀ q ∈ d'.l, PyData.strOk q.1 = true) (td : TellD (dicD d)) (td' : TellD (dicD d')) : Step K ⟨⟨.ref p⟩, none⟩ ω (ω.set k (.own p (odic K d')))
inductive Steps (K : Frag) : List TV → List Ent → List Ent → Prop
  | nil {ω : List Ent} : Steps K [] ω ω
  | cons {a : TV} {xs : List TV} {ω ω1 ω2 : List Ent} (h : Step K a ω ω1) (t : Steps K xs ω1 ω2) : Steps K (a :: xs) ω ω2
section
variable {W : WX} {ωe : List Ent} {X : Type} {Z : ZF K W ωe X} {m : Res X} {Γ0 : Gm} {Γb : TV → Gm} {g : TG} {t u tbs : TS} {tt : TT}
theorem Go.ifNo (h : EvT tt Γ ω ω1 false) (hk : Go u Γ ω1 Z m) : Go (tSeq (tIfS tt t tNext) u) Γ ω Z m := fun σ G H D rp w z => h σ G H _ rp w fun G2 H2 s w2 => RC.if_f rfl (hk σ G2 H2 D (rp.mono s) w2 (Z.mono s z))
theorem Go.ifYes (h : EvT tt Γ ω ω1 true) (hk : Go (tSeq t u) Γ ω1 Z m) : Go (tSeq (tIfS tt t tNext) u) Γ ω Z m := fun σ G H D rp w z => h σ G H _ rp w fun G2 H2 s w2 => RC.if_t rfl (hk σ G2 H2 D (rp.mono s) w2 (Z.mono s z))
theorem Go.forE (hi : EvM K tA Γ ω fun xs ω1 => xs.length ≤ 1000 ∧ ∃ ωz, Steps K xs ω1 ωz ∧ Dr ωz ω) (hs : Sub Γ Γ0) (ht : TgX (α := TV) K g Γ0 Γb)
    (hb : ∀ a ω1 ω2, Step K a ω1 ω2 → Go tbs (Γb a) ω1 (zN K W ωe fun (_ : Unit) => (Γ0, ω2)) (.ok ())) (hk : Go u Γ0 ω Z m) : Go (tSeq (tFor (iList K (tLst tA)) g tbs) u) Γ ω Z m := fun σ G H D rp w z => hi σ G H _ rp w fun us xs ω1 G1 H1 s1 w1 ha ⟨l, ωz, st, dz⟩ => by
  have lz : (1000 : Nat) ≤ sizeLine := by decide
  refine ⟨by rw [Paired.len ha]; omega, fun a hp => ?_⟩
  obtain ⟨w2, s2⟩ := w1.new (o := .lst us) hp
  have ea : (upd G1 a (.lst us)) a = some (.lst us) := upd_same
  generalize upd G1 a (.lst us) = G0 at w2 s2 ea
  refine ⟨a, rfl, ⟨us, RC.sq_of (w2.lst ea)⟩, ?_⟩
  have wk : WalkX K G0 Any (Itl K a) xs := walk_list ea (All.mono s2 ha) (by omega)
  refine ⟨fun i m σ' H' => m = xs.length - i ∧ i ≤ xs.length ∧ ∃ ω' G', Steps K (xs.drop i) ω' ωz ∧ Le G0 G' ∧ Reps G' σ' Γ0 ∧ At G' ω' H', ⟨xs.length, by simp, Nat.zero_le _, ω1, G0, st, Le.refl _, (rp.mono (s1.trans s2)).sub hs, w2⟩, ?_⟩
  rintro i m' σ' H' ⟨rfl, hle, ω', G', st', sG, r', w'⟩
  by_cases hlt : i < xs.length
  · have hx : xs[i]? = some xs[i] := List.getElem?_eq_getElem hlt
    rw [List.drop_eq_getElem_cons hlt] at st'
    cases st' with
    | @cons _ _ _ ω3 _ h1 h2 =>
      refine .inr ⟨wk.go G' _ H' i sG w' trivial hlt, fun σ3 H3 => ∃ G3, Le G0 G3 ∧ Reps G3 σ3 Γ0 ∧ At G3 ω3 H3, fun σ3 H3 ⟨G3, a1, a2, a3⟩ => ⟨xs.length - (i + 1), by omega, rfl, hlt, _, G3, h2, a1, a2, a3⟩, fun x H3 y => ?_⟩
      obtain ⟨G3, s3, w3, px⟩ := wk.yld G' _ H' i x H3 _ sG w' trivial hx y
      refine ht _ σ' G3 H3 _ x _ (r'.mono s3) w3 px fun σ4 r4 => ?_
      exact hb _ _ _ h1 σ4 G3 H3 _ r4 w3 ⟨fun q => (nomatch q), fun s5 q σ5 G5 H5 s5' r5 w5 => ⟨G5, sG.trans (s3.trans s5'), r5, w5⟩, fun e q => (nomatch q)⟩
  · have e : i = xs.length := by omega
    subst e
    rw [List.drop_length] at st'
    cases st' with
    | nil => exact .inl ⟨wk.stop G' _ H' sG w' trivial, hk σ' G' H' D r' (dz.at w') (Z.mono (s1.trans (s2.trans sG)) z)⟩
end
end
end Lf
set_option pp.maxSteps 600
namespace Mi
open PySem PySem.Spec PyProof.Rows L2 He Lf RC
open PySem.W (Frag)
section
variable {w : World} {K : Frag} {mg : Str → Option Value} {base : Heap}
abbrev errL : List Str := ["InvalidNumber", "InvalidAmount", "InvalidList", "InvalidWorth", "InvalidRoll", "InvalidCounter", "InvalidStanding", "InvalidMenu", "InvalidText", "InvalidPayment", "NoPayment", "InvalidName", "TakenName", "UnknownName", "NothingToUndo"]

def m_l_cell (_law_script : Sc) (_law_index : Int) : Res Int :=
  (if (decide (_law_index < (_law_script.l.length : Int))) then Res.req (atI _law_script.l _law_index) fun y3 =>
  .ok y3 else
  .ok (0 : Int))
def sp_l_cell (K : Frag) : Sp := fun vs H Q E => ∃ (_law_script : Sc) (_law_index : Int) (ω : List Ent) (G : Hp), _law_script.l.length ≤ 63 ∧ PArgs G vs [is K _law_script, is K _law_index] ∧ At G (ω) H ∧ Says K G (ω) (m_l_cell _law_script _law_index) (fun (r : Int) => RS.val (is K r) (ω)) Q E
theorem use_l_cell {E : XK} {ω : List Ent} {_law_script : Sc} {_law_index : Int} (hsc : _law_script.l.length ≤ 63) : SpR K (sp_l_cell K) E [is K _law_script, is K _law_index] ω ω (m_l_cell _law_script _law_index) (fun (r : Int) => RS.val (is K r) (ω)) := fun G H vs Q pa w s => ⟨_law_script, _law_index, ω, G, hsc, pa, w, s⟩
theorem ok_l_cell (T : Txt K mg) : FnOk PR w K mg base (L2.CX PR w) 1 (He.fAd K ("_law_cell", none)) T.fd_l_cell ["_law_script", "_law_index"] (sp_l_cell K) := by
  refine T.F_l_cell.ok sc_l_cell (fun vs H Q E h => ?_) (fun cdv A outer s H vs Q E hr h => ⟨_, PSs.nox ((pss_cons (ps_if (pt_cmpR op_lt (pv 1) (pe_callB RC.call_lenS rfl T.fr_len (by decide +kernel) (pa_cons (pv 0) pa_nil)) (nomark _)) (pss_one (ps_ret (pe_ix ix_list (pv 0) (pv 1) (fun _ _ => rfl)))) pss_nil)
      (pss_one (ps_ret pe_int)))), ?_⟩)
  · obtain ⟨_, _, _, _, _, pa, _, _⟩ := h
    exact pa.len
  · obtain ⟨_law_script, _law_index, ω, G, hsc, pa, wA, sy⟩ := h
    try dsimp only [L2.cxOf, L2.Cx.nox, L2.Cx.wish]
    refine Go.fin (Γ := [some (is K _law_script), some (is K _law_index)]) (fo := (fun (r : Int) => RS.val (is K r) (ω))) (ω := ω) (ωe := ω) (?_) pa rfl wA sy
    unfold m_l_cell
    exact Go.ifE (EvT.test (EvX.op (EvX.var (i := 1) rfl) (EvX.ca (EvA.cons (EvX.var (i := 0) rfl) EvA.nil) CaX.lenS) OpX.lt)) (fun h1 =>
  Go.req fun y3 h4 =>
  Go.ret (EvX.op (EvX.var (i := 0) rfl) (EvX.var (i := 1) rfl) (OpX.ixS h4)) rfl (Dr.refl _)) (fun h2 =>
  Go.ret EvX.int rfl (Dr.refl _))
def m_l_hash (_law_seed : Int) (_law_index : Int) : Res Int :=
  Res.req (imul ((7919 : Int) * _law_index) _law_index) fun y5 =>
  Res.req (some (((((_law_seed * (1103515245 : Int)) + y5) + _law_index) + (1 : Int)) % (2147483647 : Int))) fun y7 =>
  Res.req (imul y7 y7) fun y9 =>
  Res.req (some ((y9 + (69621 : Int)) % (2147483629 : Int))) fun y11 =>
  .ok ((y11 * (48271 : Int)) % (2147483587 : Int))
def sp_l_hash (K : Frag) : Sp := fun vs H Q E => ∃ (_law_seed : Int) (_law_index : Int) (ω : List Ent) (G : Hp), PArgs G vs [is K _law_seed, is K _law_index] ∧ At G (ω) H ∧ Says K G (ω) (m_l_hash _law_seed _law_index) (fun (r : Int) => RS.val (is K r) (ω)) Q E
theorem use_l_hash {E : XK} {ω : List Ent} {_law_seed : Int} {_law_index : Int} : SpR K (sp_l_hash K) E [is K _law_seed, is K _law_index] ω ω (m_l_hash _law_seed _law_index) (fun (r : Int) => RS.val (is K r) (ω)) := fun G H vs Q pa w s => ⟨_law_seed, _law_index, ω, G, pa, w, s⟩
theorem ok_l_hash (T : Txt K mg) : FnOk PR w K mg base (L2.CX PR w) 1 (He.fAd K ("_law_hash", none)) T.fd_l_hash ["_law_seed", "_law_index"] (sp_l_hash K) := by
  refine T.F_l_hash.ok sc_l_hash (fun vs H Q E h => ?_) (fun cdv A outer s H vs Q E hr h => ⟨_, PSs.nox ((pss_cons (ps_set (i := 2) sc_l_hash.nd rfl (by first | exact .inl rfl | exact .inr rfl) (pe_op op_mod (pe_callTy RC.call_intS rfl T.fr_int (by decide +kernel) (pa_cons (pe_op op_add (pe_op op_add (pe_op op_add (pe_op op_mul (pv 0) pe_int) (pe_op op_mulW (pe_op op_mul pe_int (pv 1)) (pv 1))) (pv 1)) pe_int) pa_nil)) pe_int))
      (pss_cons (ps_set (i := 2) sc_l_hash.nd rfl (by first | exact .inl rfl | exact .inr rfl) (pe_op op_mod (pe_callTy RC.call_intS rfl T.fr_int (by decide +kernel) (pa_cons (pe_op op_add (pe_op op_mulW (pv 2) (pv 2)) pe_int) pa_nil)) pe_int))
      (pss_one (ps_ret (pe_op op_mod (pe_callTy RC.call_intS rfl T.fr_int (by decide +kernel) (pa_cons (pe_op op_mul (pv 2) pe_int) pa_nil)) pe_int)))))), ?_⟩)
  · obtain ⟨_, _, _, _, pa, _, _⟩ := h
    exact pa.len
  · obtain ⟨_law_seed, _law_index, ω, G, pa, wA, sy⟩ := h
    try dsimp only [L2.cxOf, L2.Cx.nox, L2.Cx.wish]
    refine Go.fin (Γ := [some (is K _law_seed), some (is K _law_index), none]) (fo := (fun (r : Int) => RS.val (is K r) (ω))) (ω := ω) (ωe := ω) (?_) pa rfl wA sy
    unfold m_l_hash
    exact Go.req fun y5 h6 =>
  Go.req fun y7 h8 =>
  Go.asg (i := 2) (EvX.eq (EvX.op (EvX.ca (EvA.cons (EvX.op (EvX.op (EvX.op (EvX.op (EvX.var (i := 0) rfl) EvX.int (OpX.mulK (.inr (by decide)))) (EvX.op (EvX.op EvX.int (EvX.var (i := 1) rfl) (OpX.mulK (.inl (by decide)))) (EvX.var (i := 1) rfl) (OpX.mul h6)) OpX.add) (EvX.var (i := 1) rfl) OpX.add) EvX.int OpX.add) EvA.nil) CaX.int1) EvX.int (OpX.modK (by decide))) (Option.some.inj h8)) (
  Go.req fun y9 h10 =>
  Go.req fun y11 h12 =>
  Go.asg (i := 2) (EvX.eq (EvX.op (EvX.ca (EvA.cons (EvX.op (EvX.op (EvX.var (i := 2) rfl) (EvX.var (i := 2) rfl) (OpX.mul h10)) EvX.int OpX.add) EvA.nil) CaX.int1) EvX.int (OpX.modK (by decide))) (Option.some.inj h12)) (
  Go.ret (EvX.op (EvX.ca (EvA.cons (EvX.op (EvX.var (i := 2) rfl) EvX.int (OpX.mulK (.inr (by decide)))) EvA.nil) CaX.int1) EvX.int (OpX.modK (by decide))) rfl (Dr.refl _)))
def m_l_generator (_law_script : Sc) (_law_index : Int) : Res (List Int) :=
  Res.req (Res.val (m_l_cell _law_script _law_index)) fun y13 =>
  Res.req (ipow ((10 : Int) ^ 60) (10 : Int)) fun y15 =>
  Res.req (imod (max2 (y13 - ((10 : Int) ^ 18)) (0 : Int)) y15) fun y17 =>
  .ok [y17, (y13 % (2147483647 : Int)), ((1000 : Int) * _law_index)]
def sp_l_generator (K : Frag) : Sp := fun vs H Q E => ∃ (_law_script : Sc) (_law_index : Int) (ω : List Ent) (G : Hp), _law_script.l.length ≤ 63 ∧ PArgs G vs [is K _law_script, is K _law_index] ∧ At G (ω) H ∧ Says K G (ω) (m_l_generator _law_script _law_index) (fun (r : (List Int)) => RS.own (olst K (r : (List Int))) (ω)) Q E
theorem use_l_generator {E : XK} {ω : List Ent} {_law_script : Sc} {_law_index : Int} (hsc : _law_script.l.length ≤ 63) : SpR K (sp_l_generator K) E [is K _law_script, is K _law_index] ω ω (m_l_generator _law_script _law_index) (fun (r : (List Int)) => RS.own (olst K (r : (List Int))) (ω)) := fun G H vs Q pa w s => ⟨_law_script, _law_index, ω, G, hsc, pa, w, s⟩
theorem ok_l_generator (T : Txt K mg) : FnOk PR w K mg base (L2.CX PR w) 2 (He.fAd K ("_law_generator", none)) T.fd_l_generator ["_law_script", "_law_index"] (sp_l_generator K) := by
  refine T.F_l_generator.ok sc_l_generator (fun vs H Q E h => ?_) (fun cdv A outer s H vs Q E hr h => ⟨_, PSs.nox ((pss_cons (ps_set (i := 2) sc_l_generator.nd rfl (by first | exact .inl rfl | exact .inr rfl) (pe_call (ok_l_cell T) (hr.mono (by decide)) rfl T.g_l_cell T.F_l_cell.kp (b_l_cell T) .nil passF (pa_cons (pv 0) (pa_cons (pv 1) pa_nil))))
      (pss_one (ps_ret (pe_lst (pa_cons (pe_op op_mod (pe_callTy RC.call_intS rfl T.fr_int (by decide +kernel) (pa_cons (pe_callB (RC.call_max2S rfl) rfl T.fr_max (by decide +kernel) (pa_cons (pe_op op_sub (pv 2) (pe_op op_pow pe_int pe_int)) (pa_cons pe_int pa_nil))) pa_nil)) (pe_op RC.op_powW (pe_op op_pow pe_int pe_int) pe_int)) (pa_cons (pe_op op_mod (pe_callTy RC.call_intS rfl T.fr_int (by decide +kernel) (pa_cons (pv 2) pa_nil)) pe_int) (pa_cons (pe_op op_mul pe_int (pv 1)) pa_nil)))))))), ?_⟩)
  · obtain ⟨_, _, _, _, _, pa, _, _⟩ := h
    exact pa.len
  · obtain ⟨_law_script, _law_index, ω, G, hsc, pa, wA, sy⟩ := h
    try dsimp only [L2.cxOf, L2.Cx.nox, L2.Cx.wish]
    refine Go.fin (Γ := [some (is K _law_script), some (is K _law_index), none]) (fo := (fun (r : (List Int)) => RS.own (olst K (r : (List Int))) (ω))) (ω := ω) (ωe := ω) (?_) pa rfl wA sy
    unfold m_l_generator
    exact Go.req fun y13 h14 =>
  Go.asg (i := 2) (EvX.call (EvA.cons (EvX.var (i := 0) rfl) (EvA.cons (EvX.var (i := 1) rfl) EvA.nil)) (use_l_cell hsc) (val_ok h14) rfl) (
  Go.req fun y15 h16 =>
  Go.req fun y17 h18 =>
  Go.retF (EvF.lst (EvA.cons (EvX.op (EvX.ca (EvA.cons (EvX.ca (EvA.cons (EvX.op (EvX.var (i := 2) rfl) (EvX.op EvX.int EvX.int (OpX.powK ⟨by decide, by decide, by decide⟩)) OpX.sub) (EvA.cons EvX.int EvA.nil)) CaX.max2) EvA.nil) CaX.int1) (EvX.op (EvX.op EvX.int EvX.int (OpX.powK ⟨by decide, by decide, by decide⟩)) EvX.int (OpX.pow h16)) (OpX.mod h18)) (EvA.cons (EvX.op (EvX.ca (EvA.cons (EvX.var (i := 2) rfl) EvA.nil) CaX.int1) EvX.int (OpX.modK (by decide))) (EvA.cons (EvX.op EvX.int (EvX.var (i := 1) rfl) (OpX.mulK (.inl (by decide)))) EvA.nil))) rfl (by show 3 ≤ sizeLine; decide)) rfl (Dr.refl _))
def m_l_random (_law_generator_here : (List Int)) (_law_bound : Int) : Res (Int × (List Int)) :=
  Res.req (atI _law_generator_here (0 : Int)) fun y19 =>
  (if (decide ((0 : Int) < y19)) then Res.req (atI _law_generator_here (0 : Int)) fun y23 =>
  Res.req (imod y23 _law_bound) fun y25 =>
  Res.req (atI _law_generator_here (0 : Int)) fun y27 =>
  Res.req (ifdiv y27 _law_bound) fun y29 =>
  Res.req (setAt _law_generator_here (0 : Int) y29) fun y31 =>
  .ok (y25, y31) else
  Res.req (irng (0 : Int) ((1 : Int) + ((Builtin.Int.intBits _law_bound : Int) / (30 : Int)))) fun y33 =>
  Res.bind (Res.fold (fun (s35 : Int × (List Int)) (x36 : Int) =>
  Res.req (atI s35.2 (2 : Int)) fun y37 =>
  Res.req (setAt s35.2 (2 : Int) (y37 + (1 : Int))) fun y39 =>
  Res.req (atI y39 (1 : Int)) fun y41 =>
  Res.req (atI y39 (2 : Int)) fun y43 =>
  Res.req (Res.val (m_l_hash y41 y43)) fun y45 =>
  Res.req (some ((s35.1 * (2147483587 : Int)) + y45)) fun y47 =>
  .ok (y47, y39)) y33 ((0 : Int), _law_generator_here)) fun (s49 : Int × (List Int)) =>
  Res.req (imod s49.1 _law_bound) fun y51 =>
  .ok (y51, s49.2))
def sp_l_random (K : Frag) : Sp := fun vs H Q E => ∃ (_law_generator_here : (List Int)) (_law_bound : Int) (p__law_generator_here : Addr) (ω : List Ent) (G : Hp), PArgs G vs [adr p__law_generator_here, is K _law_bound] ∧ At G (.own p__law_generator_here (olst K _law_generator_here) :: ω) H ∧ Says K G (.own p__law_generator_here (olst K _law_generator_here) :: ω) (m_l_random _law_generator_here _law_bound) (fun (r : (Int × (List Int))) => RS.val (is K r.1) (.own p__law_generator_here (olst K r.2) :: ω)) Q E
theorem use_l_random {E : XK} {ω : List Ent} {_law_generator_here : (List Int)} {_law_bound : Int} {p__law_generator_here : Addr} {k : Nat} (ho : ω[k]? = some (Ent.own p__law_generator_here (olst K _law_generator_here))) : SpR K (sp_l_random K) E [adr p__law_generator_here, is K _law_bound] ω ω (m_l_random _law_generator_here _law_bound) (fun (r : (Int × (List Int))) => RS.val (is K r.1) (ω.set k (.own p__law_generator_here (olst K r.2)))) := fun G H vs Q pa w s => ⟨_law_generator_here, _law_bound, p__law_generator_here, ω.eraseIdx k, G, pa, w.front ho, Says.front (φ := olst K _law_generator_here) (φ' := fun (r : (Int × (List Int))) => olst K r.2) (f1 := fun (r : (Int × (List Int))) => is K r.1) ho s⟩
theorem ok_l_random (T : Txt K mg) : FnOk PR w K mg base (L2.CX PR w) 2 (He.fAd K ("_law_random", none)) T.fd_l_random ["_law_generator_here", "_law_bound"] (sp_l_random K) := by
  refine T.F_l_random.ok sc_l_random (fun vs H Q E h => ?_) (fun cdv A outer s H vs Q E hr h => ⟨_, PSs.nox ((pss_cons (ps_if (pt_cmpR op_gt (pe_ix ix_list (pv 0) pe_int (fun _ _ => rfl)) pe_int (nomark _)) (pss_cons (ps_set (i := 2) sc_l_random.nd rfl (by first | exact .inl rfl | exact .inr rfl) (pe_op op_mod (pe_callTy RC.call_intS rfl T.fr_int (by decide +kernel) (pa_cons (pe_ix ix_list (pv 0) pe_int (fun _ _ => rfl)) pa_nil)) (pv 1)))
      (pss_cons (ps_asg (pe_op op_fdivW (pe_ix ix_list (pv 0) pe_int (fun _ _ => rfl)) (pv 1)) (pg_sub (pv 0) pe_int set_list))
      (pss_one (ps_ret (pv 2))))) pss_nil)
      (pss_cons (ps_set (i := 2) sc_l_random.nd rfl (by first | exact .inl rfl | exact .inr rfl) pe_int)
      (pss_cons (ps_for PassesOwn.never rfl (pi_range1 rfl T.fr_range (pa_cons (pe_op op_add pe_int (pe_op op_fdiv (pe_bits (pv 1)) pe_int)) pa_nil)) (pg_name (i := 3) sc_l_random.nd rfl (by first | exact .inl rfl | exact .inr rfl))
      (pss_cons (ps_asg (pe_op op_add (pe_ix ix_list (pv 0) pe_int (fun _ _ => rfl)) pe_int) (pg_sub (pv 0) pe_int set_list))
      (pss_one (ps_set (i := 2) sc_l_random.nd rfl (by first | exact .inl rfl | exact .inr rfl) (pe_op op_add (pe_op op_mul (pv 2) pe_int) (pe_call (ok_l_hash T) (hr.mono (by decide)) rfl T.g_l_hash T.F_l_hash.kp (b_l_hash T) .nil passF (pa_cons (pe_ix ix_list (pv 0) pe_int (fun _ _ => rfl)) (pa_cons (pe_ix ix_list (pv 0) pe_int (fun _ _ => rfl)) pa_nil))))))))
      (pss_one (ps_ret (pe_op op_mod (pe_callTy RC.call_intS rfl T.fr_int (by decide +kernel) (pa_cons (pv 2) pa_nil)) (pv 1)))))))), ?_⟩)
  · obtain ⟨_, _, _, _, _, pa, _, _⟩ := h
    exact pa.len
  · obtain ⟨_law_generator_here, _law_bound, p__law_generator_here, ω, G, pa, wA, sy⟩ := h
    try dsimp only [L2.cxOf, L2.Cx.nox, L2.Cx.wish]
    refine Go.fin (Γ := [some (adr p__law_generator_here), some (is K _law_bound), none, none]) (fo := (fun (r : (Int × (List Int))) => RS.val (is K r.1) (.own p__law_generator_here (olst K r.2) :: ω))) (ω := .own p__law_generator_here (olst K _law_generator_here) :: ω) (ωe := .own p__law_generator_here (olst K _law_generator_here) :: ω) (?_) pa rfl wA sy
    unfold m_l_random
    exact Go.req fun y19 h20 =>
  Go.ifE (EvT.test (EvX.op (EvX.op (EvX.var (i := 0) rfl) EvX.int (OpX.ixO (k := 0) rfl h20)) EvX.int OpX.gt)) (fun h21 =>
  Go.req fun y23 h24 =>
  Go.req fun y25 h26 =>
  Go.asg (i := 2) (EvX.op (EvX.ca (EvA.cons (EvX.op (EvX.var (i := 0) rfl) EvX.int (OpX.ixO (k := 0) rfl h24)) EvA.nil) CaX.int1) (EvX.var (i := 1) rfl) (OpX.mod h26)) (
  Go.req fun y27 h28 =>
  Go.req fun y29 h30 =>
  Go.req fun y31 h32 =>
  Go.setL (k := 0) (EvX.op (EvX.op (EvX.var (i := 0) rfl) EvX.int (OpX.ixO (k := 0) rfl h28)) (EvX.var (i := 1) rfl) (OpX.fdiv h30)) (EvX.var (i := 0) rfl) EvX.int rfl h32 (
  Go.ret (EvX.var (i := 2) rfl) rfl (Dr.refl _)))) (fun h22 =>
  Go.asg (i := 2) EvX.int (
  Go.req fun y33 h34 =>
  Go.seqN (fn := (fun (s35 : Int × (List Int)) => ([some (adr p__law_generator_here), some (is K (_law_bound : Int)), some (is K (s35.1 : Int)), none], (.own p__law_generator_here (olst K (s35.2 : (List Int))) :: ω)))) (Go.forN (IterX.rng1 (EvA.cons (EvX.op EvX.int (EvX.op (EvX.bits (EvX.var (i := 1) rfl)) EvX.int (OpX.fdivK ⟨by decide, by decide⟩)) OpX.add) EvA.nil) h34) (Sub.keep (Sub.keep (Sub.keep (Sub.keep Sub.nil)))) (Dr.refl _) (fun _ => trivial) (fun s35 => TgX.name) fun s35 x36 =>
  Go.req fun y37 h38 =>
  Go.req fun y39 h40 =>
  Go.setL (k := 0) (EvX.op (EvX.op (EvX.var (i := 0) rfl) EvX.int (OpX.ixO (k := 0) rfl h38)) EvX.int OpX.add) (EvX.var (i := 0) rfl) EvX.int rfl h40 (
  Go.req fun y41 h42 =>
  Go.req fun y43 h44 =>
  Go.req fun y45 h46 =>
  Go.req fun y47 h48 =>
  Go.last (Go.asg (i := 2) (EvX.eq (EvX.op (EvX.op (EvX.var (i := 2) rfl) EvX.int (OpX.mulK (.inr (by decide)))) (EvX.call (EvA.cons (EvX.op (EvX.var (i := 0) rfl) EvX.int (OpX.ixO (k := 0) rfl h42)) (EvA.cons (EvX.op (EvX.var (i := 0) rfl) EvX.int (OpX.ixO (k := 0) rfl h44)) EvA.nil)) (use_l_hash) (val_ok h46) rfl) OpX.add) (Option.some.inj h48)) (
  Go.next (Sub.keep (Sub.keep (Sub.keep (Sub.lose Sub.nil)))) (Dr.refl _))))) fun s49 h50 =>
  Go.req fun y51 h52 =>
  Go.ret (EvX.op (EvX.ca (EvA.cons (EvX.var (i := 2) rfl) EvA.nil) CaX.int1) (EvX.var (i := 1) rfl) (OpX.mod h52)) rfl (Dr.refl _)))
def m_l_kinds (_law_error : Er) : Res (List Int) :=
  Res.req (isB errL _law_error "InvalidNumber") fun y53 =>
  Res.req (isB errL _law_error "InvalidAmount") fun y55 =>
  Res.req (isB errL _law_error "InvalidList") fun y57 =>
  Res.req (isB errL _law_error "InvalidWorth") fun y59 =>
  Res.req (isB errL _law_error "InvalidRoll") fun y61 =>
  Res.req (cat [y53, y55, y57] [y59, y61]) fun y63 =>
  Res.req (isB errL _law_error "InvalidCounter") fun y65 =>
  Res.req (isB errL _law_error "InvalidStanding") fun y67 =>
  Res.req (cat y63 [y65, y67]) fun y69 =>
  Res.req (isB errL _law_error "InvalidMenu") fun y71 =>
  Res.req (isB errL _law_error "InvalidText") fun y73 =>
  Res.req (cat y69 [y71, y73]) fun y75 =>
  Res.req (isB errL _law_error "InvalidPayment") fun y77 =>
  Res.req (isB errL _law_error "NoPayment") fun y79 =>
  Res.req (cat y75 [y77, y79]) fun y81 =>
  Res.req (isB errL _law_error "InvalidName") fun y83 =>
  Res.req (isB errL _law_error "TakenName") fun y85 =>
  Res.req (isB errL _law_error "UnknownName") fun y87 =>
  Res.req (cat y81 [y83, y85, y87]) fun y89 =>
  Res.req (isUp errL _law_error) fun y91 =>
  Res.req (if (!y91) then some true else (Option.bind (isUp errL _law_error) fun y93 => (some (!y93)))) fun y95 =>
  (if y95 then .ok [] else
  Res.req (irng (0 : Int) (15 : Int)) fun y100 =>
  Res.req (mapO (fun (x102 : Int) => (Option.bind (isB errL _law_error "NothingToUndo") fun y107 => (Option.bind (cat y89 [y107]) fun y109 => (Option.bind (atI y109 x102) fun y111 => (if y111 then (some (some x102)) else some none))))) y100) fun y113 =>
  .ok y113)
def sp_l_kinds (K : Frag) : Sp := fun vs H Q E => ∃ (_law_error : Er) (ω : List Ent) (G : Hp), PArgs G vs [is K _law_error] ∧ At G (ω) H ∧ Says K G (ω) (m_l_kinds _law_error) (fun (r : (List Int)) => RS.val (is K r) (ω)) Q E
theorem use_l_kinds {E : XK} {ω : List Ent} {_law_error : Er} : SpR K (sp_l_kinds K) E [is K _law_error] ω ω (m_l_kinds _law_error) (fun (r : (List Int)) => RS.val (is K r) (ω)) := fun G H vs Q pa w s => ⟨_law_error, ω, G, pa, w, s⟩
theorem ok_l_kinds (T : Txt K mg) : FnOk PR w K mg base (L2.CX PR w) 1 (He.fAd K ("_law_kinds", none)) T.fd_l_kinds ["_law_error"] (sp_l_kinds K) := by
  refine T.F_l_kinds.ok sc_l_kinds (fun vs H Q E h => ?_) (fun cdv A outer s H vs Q E hr h => ⟨_, PSs.nox ((pss_cons (ps_set (i := 1) sc_l_kinds.nd rfl (by first | exact .inl rfl | exact .inr rfl) (pe_lst (pa_cons (pe_callB RC.call_isB rfl T.fr_isinstance (by decide +kernel) (pa_cons (pv 0) (pa_cons (pe_glob (v := .ref (He.ga K "InvalidNumber")) rfl T.g_InvalidNumber rfl) pa_nil))) (pa_cons (pe_callB RC.call_isB rfl T.fr_isinstance (by decide +kernel) (pa_cons (pv 0) (pa_cons (pe_glob (v := .ref (He.ga K "InvalidAmount")) rfl T.g_InvalidAmount rfl) pa_nil))) (pa_cons (pe_callB RC.call_isB rfl T.fr_isinstance (by decide +kernel) (pa_cons (pv 0) (pa_cons (pe_glob (v := .ref (He.ga K "InvalidList")) rfl T.g_InvalidList rfl) pa_nil))) pa_nil)))))
      (pss_cons (ps_set (i := 1) sc_l_kinds.nd rfl (by first | exact .inl rfl | exact .inr rfl) (pe_op op_cat (pv 1) (pe_lst (pa_cons (pe_callB RC.call_isB rfl T.fr_isinstance (by decide +kernel) (pa_cons (pv 0) (pa_cons (pe_glob (v := .ref (He.ga K "InvalidWorth")) rfl T.g_InvalidWorth rfl) pa_nil))) (pa_cons (pe_callB RC.call_isB rfl T.fr_isinstance (by decide +kernel) (pa_cons (pv 0) (pa_cons (pe_glob (v := .ref (He.ga K "InvalidRoll")) rfl T.g_InvalidRoll rfl) pa_nil))) pa_nil)))))
      (pss_cons (ps_set (i := 1) sc_l_kinds.nd rfl (by first | exact .inl rfl | exact .inr rfl) (pe_op op_cat (pv 1) (pe_lst (pa_cons (pe_callB RC.call_isB rfl T.fr_isinstance (by decide +kernel) (pa_cons (pv 0) (pa_cons (pe_glob (v := .ref (He.ga K "InvalidCounter")) rfl T.g_InvalidCounter rfl) pa_nil))) (pa_cons (pe_callB RC.call_isB rfl T.fr_isinstance (by decide +kernel) (pa_cons (pv 0) (pa_cons (pe_glob (v := .ref (He.ga K "InvalidStanding")) rfl T.g_InvalidStanding rfl) pa_nil))) pa_nil)))))
      (pss_cons (ps_set (i := 1) sc_l_kinds.nd rfl (by first | exact .inl rfl | exact .inr rfl) (pe_op op_cat (pv 1) (pe_lst (pa_cons (pe_callB RC.call_isB rfl T.fr_isinstance (by decide +kernel) (pa_cons (pv 0) (pa_cons (pe_glob (v := .ref (He.ga K "InvalidMenu")) rfl T.g_InvalidMenu rfl) pa_nil))) (pa_cons (pe_callB RC.call_isB rfl T.fr_isinstance (by decide +kernel) (pa_cons (pv 0) (pa_cons (pe_glob (v := .ref (He.ga K "InvalidText")) rfl T.g_InvalidText rfl) pa_nil))) pa_nil)))))
      (pss_cons (ps_set (i := 1) sc_l_kinds.nd rfl (by first | exact .inl rfl | exact .inr rfl) (pe_op op_cat (pv 1) (pe_lst (pa_cons (pe_callB RC.call_isB rfl T.fr_isinstance (by decide +kernel) (pa_cons (pv 0) (pa_cons (pe_glob (v := .ref (He.ga K "InvalidPayment")) rfl T.g_InvalidPayment rfl) pa_nil))) (pa_cons (pe_callB RC.call_isB rfl T.fr_isinstance (by decide +kernel) (pa_cons (pv 0) (pa_cons (pe_glob (v := .ref (He.ga K "NoPayment")) rfl T.g_NoPayment rfl) pa_nil))) pa_nil)))))
      (pss_cons (ps_set (i := 1) sc_l_kinds.nd rfl (by first | exact .inl rfl | exact .inr rfl) (pe_op op_cat (pv 1) (pe_lst (pa_cons (pe_callB RC.call_isB rfl T.fr_isinstance (by decide +kernel) (pa_cons (pv 0) (pa_cons (pe_glob (v := .ref (He.ga K "InvalidName")) rfl T.g_InvalidName rfl) pa_nil))) (pa_cons (pe_callB RC.call_isB rfl T.fr_isinstance (by decide +kernel) (pa_cons (pv 0) (pa_cons (pe_glob (v := .ref (He.ga K "TakenName")) rfl T.g_TakenName rfl) pa_nil))) (pa_cons (pe_callB RC.call_isB rfl T.fr_isinstance (by decide +kernel) (pa_cons (pv 0) (pa_cons (pe_glob (v := .ref (He.ga K "UnknownName")) rfl T.g_UnknownName rfl) pa_nil))) pa_nil))))))
      (pss_cons (ps_if (PW.pt (pw_or (pt_not (pt_val (pe_callB RC.call_isB rfl T.fr_isinstance (by decide +kernel) (pa_cons (pv 0) (pa_cons (pe_glob (v := .ref (He.ga K "ClerkError")) rfl T.g_ClerkError rfl) pa_nil))))) (pw_or1 (pt_not (pt_val (pe_callB RC.call_isB rfl T.fr_isinstance (by decide +kernel) (pa_cons (pv 0) (pa_cons (pe_bltn (v := .ty "ValueError") rfl T.fr_ValueError (by decide +kernel) rfl) pa_nil)))))))) (pss_one (ps_ret (pe_lst pa_nil))) pss_nil)
      (pss_one (ps_ret (pe_lc (own := [("_law_at", 2)]) rfl sc_l_kinds.nd (pi_range1 rfl T.fr_range (pa_cons pe_int pa_nil)) (blkOk_by (N := N_l_kinds) (sc := defScope s_l_kinds) (by decide +kernel)) (fun _ _ _ _ _ => (pg_name (i := 2) sc_l_kinds.nd rfl (by first | exact .inl rfl | exact .inr rfl))) (fun _ _ _ _ _ => (pts_one (pt_val (pe_ix (RC.kOf rIxL (K := K) ix_list rfl) (pe_op op_cat (pv 1) (pe_lst (pa_cons (pe_callB (RC.kOf RC.rIsB (K := K) RC.call_isB rfl) rfl T.fr_isinstance (by decide +kernel) (pa_cons (pv 0) (pa_cons (pe_glob (v := .ref (He.ga K "NothingToUndo")) rfl T.g_NothingToUndo rfl) pa_nil))) pa_nil))) (pv 2) (fun _ _ => rfl))))) (fun _ _ _ _ _ => (pv 2))))))))))))), ?_⟩)
  · obtain ⟨_, _, _, pa, _, _⟩ := h
    exact pa.len
  · obtain ⟨_law_error, ω, G, pa, wA, sy⟩ := h
    try dsimp only [L2.cxOf, L2.Cx.nox, L2.Cx.wish]
    refine Go.fin (Γ := [some (is K _law_error), none, none]) (fo := (fun (r : (List Int)) => RS.val (is K r) (ω))) (ω := ω) (ωe := ω) (?_) pa rfl wA sy
    unfold m_l_kinds
    exact Go.req fun y53 h54 =>
  Go.req fun y55 h56 =>
  Go.req fun y57 h58 =>
  Go.asg (i := 1) (EvX.fr (EvF.lst (EvA.cons (EvX.ca (EvA.cons (EvX.var (i := 0) rfl) (EvA.cons EvX.c EvA.nil)) (CaX.isB (.own _) T.kits h54)) (EvA.cons (EvX.ca (EvA.cons (EvX.var (i := 0) rfl) (EvA.cons EvX.c EvA.nil)) (CaX.isB (.own _) T.kits h56)) (EvA.cons (EvX.ca (EvA.cons (EvX.var (i := 0) rfl) (EvA.cons EvX.c EvA.nil)) (CaX.isB (.own _) T.kits h58)) EvA.nil))) rfl (by show 3 ≤ sizeLine; decide))) (
  Go.req fun y59 h60 =>
  Go.req fun y61 h62 =>
  Go.req fun y63 h64 =>
  Go.asg (i := 1) (EvX.fr (EvF.op (EvX.var (i := 1) rfl) (EvX.fr (EvF.lst (EvA.cons (EvX.ca (EvA.cons (EvX.var (i := 0) rfl) (EvA.cons EvX.c EvA.nil)) (CaX.isB (.own _) T.kits h60)) (EvA.cons (EvX.ca (EvA.cons (EvX.var (i := 0) rfl) (EvA.cons EvX.c EvA.nil)) (CaX.isB (.own _) T.kits h62)) EvA.nil)) rfl (by show 2 ≤ sizeLine; decide))) (OpF.cat h64))) (
  Go.req fun y65 h66 =>
  Go.req fun y67 h68 =>
  Go.req fun y69 h70 =>
  Go.asg (i := 1) (EvX.fr (EvF.op (EvX.var (i := 1) rfl) (EvX.fr (EvF.lst (EvA.cons (EvX.ca (EvA.cons (EvX.var (i := 0) rfl) (EvA.cons EvX.c EvA.nil)) (CaX.isB (.own _) T.kits h66)) (EvA.cons (EvX.ca (EvA.cons (EvX.var (i := 0) rfl) (EvA.cons EvX.c EvA.nil)) (CaX.isB (.own _) T.kits h68)) EvA.nil)) rfl (by show 2 ≤ sizeLine; decide))) (OpF.cat h70))) (
  Go.req fun y71 h72 =>
  Go.req fun y73 h74 =>
  Go.req fun y75 h76 =>
  Go.asg (i := 1) (EvX.fr (EvF.op (EvX.var (i := 1) rfl) (EvX.fr (EvF.lst (EvA.cons (EvX.ca (EvA.cons (EvX.var (i := 0) rfl) (EvA.cons EvX.c EvA.nil)) (CaX.isB (.own _) T.kits h72)) (EvA.cons (EvX.ca (EvA.cons (EvX.var (i := 0) rfl) (EvA.cons EvX.c EvA.nil)) (CaX.isB (.own _) T.kits h74)) EvA.nil)) rfl (by show 2 ≤ sizeLine; decide))) (OpF.cat h76))) (
  Go.req fun y77 h78 =>
  Go.req fun y79 h80 =>
  Go.req fun y81 h82 =>
  Go.asg (i := 1) (EvX.fr (EvF.op (EvX.var (i := 1) rfl) (EvX.fr (EvF.lst (EvA.cons (EvX.ca (EvA.cons (EvX.var (i := 0) rfl) (EvA.cons EvX.c EvA.nil)) (CaX.isB (.own _) T.kits h78)) (EvA.cons (EvX.ca (EvA.cons (EvX.var (i := 0) rfl) (EvA.cons EvX.c EvA.nil)) (CaX.isB (.own _) T.kits h80)) EvA.nil)) rfl (by show 2 ≤ sizeLine; decide))) (OpF.cat h82))) (
  Go.req fun y83 h84 =>
  Go.req fun y85 h86 =>
  Go.req fun y87 h88 =>
  Go.req fun y89 h90 =>
  Go.asg (i := 1) (EvX.fr (EvF.op (EvX.var (i := 1) rfl) (EvX.fr (EvF.lst (EvA.cons (EvX.ca (EvA.cons (EvX.var (i := 0) rfl) (EvA.cons EvX.c EvA.nil)) (CaX.isB (.own _) T.kits h84)) (EvA.cons (EvX.ca (EvA.cons (EvX.var (i := 0) rfl) (EvA.cons EvX.c EvA.nil)) (CaX.isB (.own _) T.kits h86)) (EvA.cons (EvX.ca (EvA.cons (EvX.var (i := 0) rfl) (EvA.cons EvX.c EvA.nil)) (CaX.isB (.own _) T.kits h88)) EvA.nil))) rfl (by show 3 ≤ sizeLine; decide))) (OpF.cat h90))) (
  Go.req fun y91 h92 =>
  Go.req fun y95 h96 =>
  Go.ifE (EvT.orO (EvT.not (EvT.B (EvX.ca (EvA.cons (EvX.var (i := 0) rfl) (EvA.cons EvX.c EvA.nil)) (CaX.isUp (.own _) T.kits h92)))) (fun _ q97 => (bindO q97 fun y93 h94 q97 => (EvT.eq (EvT.not (EvT.B (EvX.ca (EvA.cons (EvX.var (i := 0) rfl) (EvA.cons EvX.c EvA.nil)) (CaX.isVE (.ty _) T.kits h94)))) (Option.some.inj q97)))) h96) (fun h98 =>
  Go.ret (EvX.fr (EvF.lst EvA.nil rfl (by show 0 ≤ sizeLine; decide))) rfl (Dr.refl _)) (fun h99 =>
  Go.req fun y100 h101 =>
  Go.req fun y113 h114 =>
  Go.ret (EvX.fr (EvF.lc (IterX.rng1 (EvA.cons EvX.int EvA.nil) h101) trivial (fun _ _ _ => trivial) (TgW.name (by decide)) h114 fun x102 o105 p103 f104 q106 => (bindO q106 fun y107 h108 q106 => (bindO q106 fun y109 h110 q106 => (bindO q106 fun y111 h112 q106 => (Elt.iteO (EvT.B (EvX.op (EvX.fr (EvF.op (EvX.var (i := 1) rfl) (EvX.fr (EvF.lst (EvA.cons (EvX.ca (EvA.cons (EvX.var (i := 0) rfl) (EvA.cons EvX.c EvA.nil)) (CaX.isB (.own _) T.kits h108)) EvA.nil) rfl (by show 1 ≤ sizeLine; decide))) (OpF.cat h110))) (EvX.var (i := 2) rfl) (OpX.ixL h112))) (fun _ q115 => ⟨_, (Option.some.inj q115).symm, (EvX.var (i := 2) rfl)⟩) q106)))))) rfl (Dr.refl _))))))))
noncomputable def m_l_right (_law_errors : (List Er)) (_law_given : VV) (d__ : PyData) : Res Bool :=
  Res.req (mapO (fun (x116 : Er) => (Option.bind (Res.val (m_l_kinds x116)) fun y121 => (some (some y121)))) _law_errors) fun y123 =>
  Res.req (irng (0 : Int) (14 : Int)) fun y125 =>
  (if (!decide (y123 = (List.map (fun (x127 : Int) => [x127]) y125))) then .ok false else
  Res.req (mapO (fun (x134 : Er) => (Option.bind (fldB errL "value" x134) fun y139 => (some (some (VV.mk y139))))) (cut _law_errors none (some (11 : Int)))) fun y141 =>
  Res.req (mapO (fun (x143 : Er) => (Option.bind (fldB errL "name" x143) fun y148 => (some (some (VV.mk y148))))) (cut _law_errors (some (11 : Int)) none)) fun y150 =>
  Res.req (cat y141 y150) fun y152 =>
  Res.req (toldV _law_given d__ y152) fun y154 =>
  Res.req (rep [_law_given] (14 : Int)) fun y156 =>
  Res.req (toldV _law_given d__ y156) fun y158 =>
  .ok (decide (y154 = y158)))
def sp_l_right (K : Frag) : Sp := fun vs H Q E => ∃ (_law_errors : (List Er)) (_law_given : VV) (d__ : PyData) (ty__ : String) (ω : List Ent) (G : Hp), TellD d__ ∧ PArgs G vs [is K _law_errors, tel K ω _law_given d__ ty__] ∧ At G (ω) H ∧ Says K G (ω) (m_l_right _law_errors _law_given d__) (fun (r : Bool) => RS.val (is K r) (ω)) Q E
theorem use_l_right {E : XK} {ω : List Ent} {_law_errors : (List Er)} {_law_given : VV} {d__ : PyData} {ty__ : String} (td : TellD d__) : SpR K (sp_l_right K) E [is K _law_errors, tel K ω _law_given d__ ty__] ω ω (m_l_right _law_errors _law_given d__) (fun (r : Bool) => RS.val (is K r) (ω)) := fun G H vs Q pa w s => ⟨_law_errors, _law_given, d__, ty__, ω, G, td, pa, w, s⟩
theorem ok_l_right (T : Txt K mg) : RC.FnOkG PR w K mg base (L2.CX PR w) 2 (He.fAd K ("_law_right", none)) T.fd_l_right ["_law_errors", "_law_given"] (sp_l_right K) := by
  refine RC.okG T.F_l_right sc_l_right (fun vs H Q E h => ?_) (fun cdv A outer s H vs Q E hg hr h => ⟨_, PSs.nox ((pss_cons (ps_if (pt_cmpR (op_neD hr.units) (pe_lc (own := [("_law_error", 3)]) rfl sc_l_right.nd (pi_list (pv 0)) (blkOk_by (N := N_l_right) (sc := defScope s_l_right) (by decide +kernel)) (fun _ _ _ _ _ => (pg_name (i := 3) sc_l_right.nd rfl (by first | exact .inl rfl | exact .inr rfl))) (fun _ _ _ _ _ => pts_nil) (fun _ _ _ _ _ => (pe_call (ok_l_kinds T) (hr.mono (by decide)) rfl T.g_l_kinds T.F_l_kinds.kp (b_l_kinds T) .nil passF (pa_cons (pv 3) pa_nil)))) (pe_lc (own := [("_law_at", 4)]) rfl sc_l_right.nd (pi_range1 rfl T.fr_range (pa_cons pe_int pa_nil)) (blkOk_by (N := N_l_right) (sc := defScope s_l_right) (by decide +kernel)) (fun _ _ _ _ _ => (pg_name (i := 4) sc_l_right.nd rfl (by first | exact .inl rfl | exact .inr rfl))) (fun _ _ _ _ _ => pts_nil) (fun _ _ _ _ _ => (pe_lst (pa_cons (pv 4) pa_nil)))) (nomark _)) (pss_one (ps_ret pe_bl)) pss_nil)
      (pss_cons (ps_set (i := 2) sc_l_right.nd rfl (by first | exact .inl rfl | exact .inr rfl) (pe_op op_cat (pe_lc (own := [("_law_error", 3)]) rfl sc_l_right.nd (pi_list (pe_slice sl_list (pv 0) po_none (po_some pe_int))) (blkOk_by (N := N_l_right) (sc := defScope s_l_right) (by decide +kernel)) (fun _ _ _ _ _ => (pg_name (i := 3) sc_l_right.nd rfl (by first | exact .inl rfl | exact .inr rfl))) (fun _ _ _ _ _ => pts_nil) (fun _ _ _ _ _ => (RC.kOf (fun K => RC.tFldB K "value" (tVar 3)) (K := K) (RC.pe_fldB (f := "value") (pv 3)) rfl))) (pe_lc (own := [("_law_error", 3)]) rfl sc_l_right.nd (pi_list (pe_slice sl_list (pv 0) (po_some pe_int) po_none)) (blkOk_by (N := N_l_right) (sc := defScope s_l_right) (by decide +kernel)) (fun _ _ _ _ _ => (pg_name (i := 3) sc_l_right.nd rfl (by first | exact .inl rfl | exact .inr rfl))) (fun _ _ _ _ _ => pts_nil) (fun _ _ _ _ _ => (RC.kOf (fun K => RC.tFldB K "name" (tVar 3)) (K := K) (RC.pe_fldB (f := "name") (pv 3)) rfl)))))
      (pss_one (ps_ret (pe_cmpR op_eq (pe_callB (RC.call_reprE hg (hr.mono (by decide))) rfl T.fr_repr (by decide +kernel) (pa_cons (pv 2) pa_nil)) (pe_callB (RC.call_reprE hg (hr.mono (by decide))) rfl T.fr_repr (by decide +kernel) (pa_cons (pe_op op_rep (pe_lst (pa_cons (pv 1) pa_nil)) pe_int) pa_nil)) (nomark _))))))), ?_⟩)
  · obtain ⟨_, _, _, _, _, _, _, pa, _, _⟩ := h
    exact pa.len
  · obtain ⟨_law_errors, _law_given, d__, ty__, ω, G, td, pa, wA, sy⟩ := h
    try dsimp only [L2.cxOf, L2.Cx.nox, L2.Cx.wish]
    refine Go.fin (Γ := [some (is K _law_errors), some (tel K ω _law_given d__ ty__), none, none, none]) (fo := (fun (r : Bool) => RS.val (is K r) (ω))) (ω := ω) (ωe := ω) (?_) pa rfl wA sy
    unfold m_l_right
    exact Go.req fun y123 h124 =>
  Go.req fun y125 h126 =>
  Go.ifE (EvT.test (EvX.op (EvX.fr (EvF.lc (IterX.list (EvX.var (i := 0) rfl)) trivial (fun _ _ _ => trivial) (TgW.name (by decide)) h124 fun x116 o119 p117 f118 q120 => (bindO q120 fun y121 h122 q120 => (Elt.all (EvX.call (EvA.cons (EvX.var (i := 3) rfl) EvA.nil) (use_l_kinds) (val_ok h122) rfl) q120)))) (EvX.fr (EvF.lc (IterX.rng1 (EvA.cons EvX.int EvA.nil) h126) trivial (fun _ _ _ => trivial) (TgW.name (by decide)) (mapO_map (fun (x127 : Int) => [x127]) y125) fun x127 o130 p128 f129 q131 => Elt.all (EvX.fr (EvF.lst (EvA.cons (EvX.var (i := 4) rfl) EvA.nil) rfl (by show 1 ≤ sizeLine; decide))) q131)) (OpX.neA DtAt.of DtAt.of (by decide)))) (fun h132 =>
  Go.ret EvX.bl rfl (Dr.refl _)) (fun h133 =>
  Go.req fun y141 h142 =>
  Go.req fun y150 h151 =>
  Go.req fun y152 h153 =>
  Go.asg (i := 2) (EvX.fr (EvF.op (EvX.fr (EvF.lc (IterX.list (EvX.fr (EvF.slL (EvX.var (i := 0) rfl) EvO.none (EvO.some (K := K) EvX.int)))) trivial (fun _ _ _ => trivial) (TgW.name (by decide)) h142 fun x134 o137 p135 f136 q138 => (bindO q138 fun y139 h140 q138 => (Elt.all (EvX.fldB (EvX.var (i := 3) rfl) T.kits (.inl rfl) h140) q138)))) (EvX.fr (EvF.lc (IterX.list (EvX.fr (EvF.slL (EvX.var (i := 0) rfl) (EvO.some (K := K) EvX.int) EvO.none))) trivial (fun _ _ _ => trivial) (TgW.name (by decide)) h151 fun x143 o146 p144 f145 q147 => (bindO q147 fun y148 h149 q147 => (Elt.all (EvX.fldB (EvX.var (i := 3) rfl) T.kits (.inr rfl) h149) q147)))) (OpF.cat h153))) (
  Go.req fun y154 h155 =>
  Go.req fun y156 h157 =>
  Go.req fun y158 h159 =>
  Go.ret (EvX.op (EvX.ca (EvA.cons (EvX.withT (i := 1) rfl (EvX.var (i := 2) rfl)) EvA.nil) (CaX.toldV td h155)) (EvX.ca (EvA.cons (EvX.withT (i := 1) rfl (EvX.fr (EvF.op (EvX.fr (EvF.lst (EvA.cons (EvX.givT (i := 1) rfl) EvA.nil) rfl (by show 1 ≤ sizeLine; decide))) EvX.int (OpF.rep h157)))) EvA.nil) (CaX.toldV td h159)) OpX.eq) rfl (Dr.refl _)))
def m_l_placed (_law_given : VV) : Res (List Er) :=
  Res.req (some [(Er.mk "InvalidNumber" (some "value") _law_given.v), (Er.mk "InvalidAmount" (some "value") _law_given.v), (Er.mk "InvalidList" (some "value") _law_given.v), (Er.mk "InvalidWorth" (some "value") _law_given.v), (Er.mk "InvalidRoll" (some "value") _law_given.v)]) fun y160 =>
  Res.req (cat y160 [(Er.mk "InvalidCounter" (some "value") _law_given.v), (Er.mk "InvalidStanding" (some "value") _law_given.v), (Er.mk "InvalidMenu" (some "value") _law_given.v), (Er.mk "InvalidText" (some "value") _law_given.v)]) fun y162 =>
  Res.req (cat y162 [(Er.mk "InvalidPayment" (some "value") _law_given.v), (Er.mk "NoPayment" (some "value") _law_given.v)]) fun y164 =>
  Res.req (cat y164 [(Er.mk "InvalidName" (some "name") _law_given.v), (Er.mk "TakenName" (some "name") _law_given.v), (Er.mk "UnknownName" (some "name") _law_given.v)]) fun y166 =>
  .ok y166
def sp_l_placed (K : Frag) : Sp := fun vs H Q E => ∃ (_law_given : VV) (ω : List Ent) (G : Hp), PArgs G vs [is K _law_given] ∧ At G (ω) H ∧ Says K G (ω) (m_l_placed _law_given) (fun (r : (List Er)) => RS.val (is K r) (ω)) Q E
theorem use_l_placed {E : XK} {ω : List Ent} {_law_given : VV} : SpR K (sp_l_placed K) E [is K _law_given] ω ω (m_l_placed _law_given) (fun (r : (List Er)) => RS.val (is K r) (ω)) := fun G H vs Q pa w s => ⟨_law_given, ω, G, pa, w, s⟩
theorem ok_l_placed (T : Txt K mg) : FnOk PR w K mg base (L2.CX PR w) 1 (He.fAd K ("_law_placed", none)) T.fd_l_placed ["_law_given"] (sp_l_placed K) := by
  refine T.F_l_placed.ok sc_l_placed (fun vs H Q E h => ?_) (fun cdv A outer s H vs Q E hr h => ⟨_, PSs.nox ((pss_cons (ps_set (i := 1) sc_l_placed.nd rfl (by first | exact .inl rfl | exact .inr rfl) (pe_lst (pa_cons (RC.pe_mkP T.e_InvalidNumber.kC T.g_InvalidNumber hr (fun v => RC.newV T.e_InvalidNumber.v v) (pa_cons (pv 0) pa_nil)) (pa_cons (RC.pe_mkP T.e_InvalidAmount.kC T.g_InvalidAmount hr (fun v => RC.newV T.e_InvalidAmount.v v) (pa_cons (pv 0) pa_nil)) (pa_cons (RC.pe_mkP T.e_InvalidList.kC T.g_InvalidList hr (fun v => RC.newV T.e_InvalidList.v v) (pa_cons (pv 0) pa_nil)) (pa_cons (RC.pe_mkP T.e_InvalidWorth.kC T.g_InvalidWorth hr (fun v => RC.newV T.e_InvalidWorth.v v) (pa_cons (pv 0) pa_nil)) (pa_cons (RC.pe_mkP T.e_InvalidRoll.kC T.g_InvalidRoll hr (fun v => RC.newV T.e_InvalidRoll.v v) (pa_cons (pv 0) pa_nil)) pa_nil)))))))
      (pss_cons (ps_set (i := 1) sc_l_placed.nd rfl (by first | exact .inl rfl | exact .inr rfl) (pe_op op_cat (pv 1) (pe_lst (pa_cons (RC.pe_mkP T.e_InvalidCounter.kC T.g_InvalidCounter hr (fun v => RC.newV T.e_InvalidCounter.v v) (pa_cons (pv 0) pa_nil)) (pa_cons (RC.pe_mkP T.e_InvalidStanding.kC T.g_InvalidStanding hr (fun v => RC.newV T.e_InvalidStanding.v v) (pa_cons (pv 0) pa_nil)) (pa_cons (RC.pe_mkP T.e_InvalidMenu.kC T.g_InvalidMenu hr (fun v => RC.newV T.e_InvalidMenu.v v) (pa_cons (pv 0) pa_nil)) (pa_cons (RC.pe_mkP T.e_InvalidText.kC T.g_InvalidText hr (fun v => RC.newV T.e_InvalidText.v v) (pa_cons (pv 0) pa_nil)) pa_nil)))))))
      (pss_cons (ps_set (i := 1) sc_l_placed.nd rfl (by first | exact .inl rfl | exact .inr rfl) (pe_op op_cat (pv 1) (pe_lst (pa_cons (RC.pe_mkP T.e_InvalidPayment.kC T.g_InvalidPayment hr (fun v => RC.newV T.e_InvalidPayment.v v) (pa_cons (pv 0) pa_nil)) (pa_cons (RC.pe_mkP T.e_NoPayment.kC T.g_NoPayment hr (fun v => RC.newV T.e_NoPayment.v v) (pa_cons (pv 0) pa_nil)) pa_nil)))))
      (pss_one (ps_ret (pe_op op_cat (pv 1) (pe_lst (pa_cons (RC.pe_mkP T.e_InvalidName.kC T.g_InvalidName hr (fun v => RC.newN T.e_InvalidName v) (pa_cons (pv 0) pa_nil)) (pa_cons (RC.pe_mkP T.e_TakenName.kC T.g_TakenName hr (fun v => RC.newN T.e_TakenName v) (pa_cons (pv 0) pa_nil)) (pa_cons (RC.pe_mkP T.e_UnknownName.kC T.g_UnknownName hr (fun v => RC.newN T.e_UnknownName v) (pa_cons (pv 0) pa_nil)) pa_nil))))))))))), ?_⟩)
  · obtain ⟨_, _, _, pa, _, _⟩ := h
    exact pa.len
  · obtain ⟨_law_given, ω, G, pa, wA, sy⟩ := h
    try dsimp only [L2.cxOf, L2.Cx.nox, L2.Cx.wish]
    refine Go.fin (Γ := [some (is K _law_given), none]) (fo := (fun (r : (List Er)) => RS.val (is K r) (ω))) (ω := ω) (ωe := ω) (?_) pa rfl wA sy
    unfold m_l_placed
    exact Go.req fun y160 h161 =>
  Go.asg (i := 1) (EvX.eq (EvX.fr (EvF.lst (EvA.cons (EvX.mkP (EvA.cons (EvX.var (i := 0) rfl) EvA.nil)) (EvA.cons (EvX.mkP (EvA.cons (EvX.var (i := 0) rfl) EvA.nil)) (EvA.cons (EvX.mkP (EvA.cons (EvX.var (i := 0) rfl) EvA.nil)) (EvA.cons (EvX.mkP (EvA.cons (EvX.var (i := 0) rfl) EvA.nil)) (EvA.cons (EvX.mkP (EvA.cons (EvX.var (i := 0) rfl) EvA.nil)) EvA.nil))))) rfl (by show 5 ≤ sizeLine; decide))) (Option.some.inj h161)) (
  Go.req fun y162 h163 =>
  Go.asg (i := 1) (EvX.fr (EvF.op (EvX.var (i := 1) rfl) (EvX.fr (EvF.lst (EvA.cons (EvX.mkP (EvA.cons (EvX.var (i := 0) rfl) EvA.nil)) (EvA.cons (EvX.mkP (EvA.cons (EvX.var (i := 0) rfl) EvA.nil)) (EvA.cons (EvX.mkP (EvA.cons (EvX.var (i := 0) rfl) EvA.nil)) (EvA.cons (EvX.mkP (EvA.cons (EvX.var (i := 0) rfl) EvA.nil)) EvA.nil)))) rfl (by show 4 ≤ sizeLine; decide))) (OpF.cat h163))) (
  Go.req fun y164 h165 =>
  Go.asg (i := 1) (EvX.fr (EvF.op (EvX.var (i := 1) rfl) (EvX.fr (EvF.lst (EvA.cons (EvX.mkP (EvA.cons (EvX.var (i := 0) rfl) EvA.nil)) (EvA.cons (EvX.mkP (EvA.cons (EvX.var (i := 0) rfl) EvA.nil)) EvA.nil)) rfl (by show 2 ≤ sizeLine; decide))) (OpF.cat h165))) (
  Go.req fun y166 h167 =>
  Go.ret (EvX.fr (EvF.op (EvX.var (i := 1) rfl) (EvX.fr (EvF.lst (EvA.cons (EvX.mkP (EvA.cons (EvX.var (i := 0) rfl) EvA.nil)) (EvA.cons (EvX.mkP (EvA.cons (EvX.var (i := 0) rfl) EvA.nil)) (EvA.cons (EvX.mkP (EvA.cons (EvX.var (i := 0) rfl) EvA.nil)) EvA.nil))) rfl (by show 3 ≤ sizeLine; decide))) (OpF.cat h167))) rfl (Dr.refl _))))
def m_l_named (_law_given : VV) : Res (List Er) :=
  Res.req (some [(Er.mk "InvalidNumber" (some "value") _law_given.v), (Er.mk "InvalidAmount" (some "value") _law_given.v), (Er.mk "InvalidList" (some "value") _law_given.v)]) fun y168 =>
  Res.req (cat y168 [(Er.mk "InvalidWorth" (some "value") _law_given.v), (Er.mk "InvalidRoll" (some "value") _law_given.v), (Er.mk "InvalidCounter" (some "value") _law_given.v)]) fun y170 =>
  Res.req (cat y170 [(Er.mk "InvalidStanding" (some "value") _law_given.v), (Er.mk "InvalidMenu" (some "value") _law_given.v), (Er.mk "InvalidText" (some "value") _law_given.v)]) fun y172 =>
  Res.req (cat y172 [(Er.mk "InvalidPayment" (some "value") _law_given.v), (Er.mk "NoPayment" (some "value") _law_given.v)]) fun y174 =>
  Res.req (cat y174 [(Er.mk "InvalidName" (some "name") _law_given.v), (Er.mk "TakenName" (some "name") _law_given.v), (Er.mk "UnknownName" (some "name") _law_given.v)]) fun y176 =>
  .ok y176
def sp_l_named (K : Frag) : Sp := fun vs H Q E => ∃ (_law_given : VV) (ω : List Ent) (G : Hp), PArgs G vs [is K _law_given] ∧ At G (ω) H ∧ Says K G (ω) (m_l_named _law_given) (fun (r : (List Er)) => RS.val (is K r) (ω)) Q E
theorem use_l_named {E : XK} {ω : List Ent} {_law_given : VV} : SpR K (sp_l_named K) E [is K _law_given] ω ω (m_l_named _law_given) (fun (r : (List Er)) => RS.val (is K r) (ω)) := fun G H vs Q pa w s => ⟨_law_given, ω, G, pa, w, s⟩
theorem ok_l_named (T : Txt K mg) : FnOk PR w K mg base (L2.CX PR w) 1 (He.fAd K ("_law_named", none)) T.fd_l_named ["_law_given"] (sp_l_named K) := by
  refine T.F_l_named.ok sc_l_named (fun vs H Q E h => ?_) (fun cdv A outer s H vs Q E hr h => ⟨_, PSs.nox ((pss_cons (ps_set (i := 1) sc_l_named.nd rfl (by first | exact .inl rfl | exact .inr rfl) (pe_lst (pa_cons (RC.pe_mkK T.e_InvalidNumber.kC T.g_InvalidNumber hr (fun v => RC.newVk T.e_InvalidNumber.v v) (pk_cons (pv 0) pk_nil)) (pa_cons (RC.pe_mkK T.e_InvalidAmount.kC T.g_InvalidAmount hr (fun v => RC.newVk T.e_InvalidAmount.v v) (pk_cons (pv 0) pk_nil)) (pa_cons (RC.pe_mkK T.e_InvalidList.kC T.g_InvalidList hr (fun v => RC.newVk T.e_InvalidList.v v) (pk_cons (pv 0) pk_nil)) pa_nil)))))
      (pss_cons (ps_set (i := 1) sc_l_named.nd rfl (by first | exact .inl rfl | exact .inr rfl) (pe_op op_cat (pv 1) (pe_lst (pa_cons (RC.pe_mkK T.e_InvalidWorth.kC T.g_InvalidWorth hr (fun v => RC.newVk T.e_InvalidWorth.v v) (pk_cons (pv 0) pk_nil)) (pa_cons (RC.pe_mkK T.e_InvalidRoll.kC T.g_InvalidRoll hr (fun v => RC.newVk T.e_InvalidRoll.v v) (pk_cons (pv 0) pk_nil)) (pa_cons (RC.pe_mkK T.e_InvalidCounter.kC T.g_InvalidCounter hr (fun v => RC.newVk T.e_InvalidCounter.v v) (pk_cons (pv 0) pk_nil)) pa_nil))))))
      (pss_cons (ps_set (i := 1) sc_l_named.nd rfl (by first | exact .inl rfl | exact .inr rfl) (pe_op op_cat (pv 1) (pe_lst (pa_cons (RC.pe_mkK T.e_InvalidStanding.kC T.g_InvalidStanding hr (fun v => RC.newVk T.e_InvalidStanding.v v) (pk_cons (pv 0) pk_nil)) (pa_cons (RC.pe_mkK T.e_InvalidMenu.kC T.g_InvalidMenu hr (fun v => RC.newVk T.e_InvalidMenu.v v) (pk_cons (pv 0) pk_nil)) (pa_cons (RC.pe_mkK T.e_InvalidText.kC T.g_InvalidText hr (fun v => RC.newVk T.e_InvalidText.v v) (pk_cons (pv 0) pk_nil)) pa_nil))))))
      (pss_cons (ps_set (i := 1) sc_l_named.nd rfl (by first | exact .inl rfl | exact .inr rfl) (pe_op op_cat (pv 1) (pe_lst (pa_cons (RC.pe_mkK T.e_InvalidPayment.kC T.g_InvalidPayment hr (fun v => RC.newVk T.e_InvalidPayment.v v) (pk_cons (pv 0) pk_nil)) (pa_cons (RC.pe_mkK T.e_NoPayment.kC T.g_NoPayment hr (fun v => RC.newVk T.e_NoPayment.v v) (pk_cons (pv 0) pk_nil)) pa_nil)))))
      (pss_one (ps_ret (pe_op op_cat (pv 1) (pe_lst (pa_cons (RC.pe_mkK T.e_InvalidName.kC T.g_InvalidName hr (fun v => RC.newNk T.e_InvalidName v) (pk_cons (pv 0) pk_nil)) (pa_cons (RC.pe_mkK T.e_TakenName.kC T.g_TakenName hr (fun v => RC.newNk T.e_TakenName v) (pk_cons (pv 0) pk_nil)) (pa_cons (RC.pe_mkK T.e_UnknownName.kC T.g_UnknownName hr (fun v => RC.newNk T.e_UnknownName v) (pk_cons (pv 0) pk_nil)) pa_nil)))))))))))), ?_⟩)
  · obtain ⟨_, _, _, pa, _, _⟩ := h
    exact pa.len
  · obtain ⟨_law_given, ω, G, pa, wA, sy⟩ := h
    try dsimp only [L2.cxOf, L2.Cx.nox, L2.Cx.wish]
    refine Go.fin (Γ := [some (is K _law_given), none]) (fo := (fun (r : (List Er)) => RS.val (is K r) (ω))) (ω := ω) (ωe := ω) (?_) pa rfl wA sy
    unfold m_l_named
    exact Go.req fun y168 h169 =>
  Go.asg (i := 1) (EvX.eq (EvX.fr (EvF.lst (EvA.cons (EvX.mkP (EvA.cons (EvX.var (i := 0) rfl) EvA.nil)) (EvA.cons (EvX.mkP (EvA.cons (EvX.var (i := 0) rfl) EvA.nil)) (EvA.cons (EvX.mkP (EvA.cons (EvX.var (i := 0) rfl) EvA.nil)) EvA.nil))) rfl (by show 3 ≤ sizeLine; decide))) (Option.some.inj h169)) (
  Go.req fun y170 h171 =>
  Go.asg (i := 1) (EvX.fr (EvF.op (EvX.var (i := 1) rfl) (EvX.fr (EvF.lst (EvA.cons (EvX.mkP (EvA.cons (EvX.var (i := 0) rfl) EvA.nil)) (EvA.cons (EvX.mkP (EvA.cons (EvX.var (i := 0) rfl) EvA.nil)) (EvA.cons (EvX.mkP (EvA.cons (EvX.var (i := 0) rfl) EvA.nil)) EvA.nil))) rfl (by show 3 ≤ sizeLine; decide))) (OpF.cat h171))) (
  Go.req fun y172 h173 =>
  Go.asg (i := 1) (EvX.fr (EvF.op (EvX.var (i := 1) rfl) (EvX.fr (EvF.lst (EvA.cons (EvX.mkP (EvA.cons (EvX.var (i := 0) rfl) EvA.nil)) (EvA.cons (EvX.mkP (EvA.cons (EvX.var (i := 0) rfl) EvA.nil)) (EvA.cons (EvX.mkP (EvA.cons (EvX.var (i := 0) rfl) EvA.nil)) EvA.nil))) rfl (by show 3 ≤ sizeLine; decide))) (OpF.cat h173))) (
  Go.req fun y174 h175 =>
  Go.asg (i := 1) (EvX.fr (EvF.op (EvX.var (i := 1) rfl) (EvX.fr (EvF.lst (EvA.cons (EvX.mkP (EvA.cons (EvX.var (i := 0) rfl) EvA.nil)) (EvA.cons (EvX.mkP (EvA.cons (EvX.var (i := 0) rfl) EvA.nil)) EvA.nil)) rfl (by show 2 ≤ sizeLine; decide))) (OpF.cat h175))) (
  Go.req fun y176 h177 =>
  Go.ret (EvX.fr (EvF.op (EvX.var (i := 1) rfl) (EvX.fr (EvF.lst (EvA.cons (EvX.mkP (EvA.cons (EvX.var (i := 0) rfl) EvA.nil)) (EvA.cons (EvX.mkP (EvA.cons (EvX.var (i := 0) rfl) EvA.nil)) (EvA.cons (EvX.mkP (EvA.cons (EvX.var (i := 0) rfl) EvA.nil)) EvA.nil))) rfl (by show 3 ≤ sizeLine; decide))) (OpF.cat h177))) rfl (Dr.refl _)))))
def m_l_bare  : Res (List Er) :=
  Res.req (some [(Er.mk "InvalidNumber" (some "value") V.non), (Er.mk "InvalidAmount" (some "value") V.non), (Er.mk "InvalidList" (some "value") V.non), (Er.mk "InvalidWorth" (some "value") V.non), (Er.mk "InvalidRoll" (some "value") V.non), (Er.mk "InvalidCounter" (some "value") V.non)]) fun y178 =>
  Res.req (cat y178 [(Er.mk "InvalidStanding" (some "value") V.non), (Er.mk "InvalidMenu" (some "value") V.non), (Er.mk "InvalidText" (some "value") V.non), (Er.mk "InvalidPayment" (some "value") V.non), (Er.mk "NoPayment" (some "value") V.non)]) fun y180 =>
  Res.req (cat y180 [(Er.mk "InvalidName" (some "name") V.non), (Er.mk "TakenName" (some "name") V.non), (Er.mk "UnknownName" (some "name") V.non)]) fun y182 =>
  .ok y182
def sp_l_bare (K : Frag) : Sp := fun vs H Q E => ∃  (ω : List Ent) (G : Hp), PArgs G vs [] ∧ At G (ω) H ∧ Says K G (ω) (m_l_bare ) (fun (r : (List Er)) => RS.val (is K r) (ω)) Q E
theorem use_l_bare {E : XK} {ω : List Ent}  : SpR K (sp_l_bare K) E [] ω ω (m_l_bare ) (fun (r : (List Er)) => RS.val (is K r) (ω)) := fun G H vs Q pa w s => ⟨ω, G, pa, w, s⟩
theorem ok_l_bare (T : Txt K mg) : FnOk PR w K mg base (L2.CX PR w) 1 (He.fAd K ("_law_bare", none)) T.fd_l_bare [] (sp_l_bare K) := by
  refine T.F_l_bare.ok sc_l_bare (fun vs H Q E h => ?_) (fun cdv A outer s H vs Q E hr h => ⟨_, PSs.nox ((pss_cons (ps_set (i := 0) sc_l_bare.nd rfl (by first | exact .inl rfl | exact .inr rfl) (pe_lst (pa_cons (RC.pe_mk0 T.e_InvalidNumber.kC T.g_InvalidNumber hr (RC.newV0 T.e_InvalidNumber.v)) (pa_cons (RC.pe_mk0 T.e_InvalidAmount.kC T.g_InvalidAmount hr (RC.newV0 T.e_InvalidAmount.v)) (pa_cons (RC.pe_mk0 T.e_InvalidList.kC T.g_InvalidList hr (RC.newV0 T.e_InvalidList.v)) (pa_cons (RC.pe_mk0 T.e_InvalidWorth.kC T.g_InvalidWorth hr (RC.newV0 T.e_InvalidWorth.v)) (pa_cons (RC.pe_mk0 T.e_InvalidRoll.kC T.g_InvalidRoll hr (RC.newV0 T.e_InvalidRoll.v)) (pa_cons (RC.pe_mk0 T.e_InvalidCounter.kC T.g_InvalidCounter hr (RC.newV0 T.e_InvalidCounter.v)) pa_nil))))))))
      (pss_cons (ps_set (i := 0) sc_l_bare.nd rfl (by first | exact .inl rfl | exact .inr rfl) (pe_op op_cat (pv 0) (pe_lst (pa_cons (RC.pe_mk0 T.e_InvalidStanding.kC T.g_InvalidStanding hr (RC.newV0 T.e_InvalidStanding.v)) (pa_cons (RC.pe_mk0 T.e_InvalidMenu.kC T.g_InvalidMenu hr (RC.newV0 T.e_InvalidMenu.v)) (pa_cons (RC.pe_mk0 T.e_InvalidText.kC T.g_InvalidText hr (RC.newV0 T.e_InvalidText.v)) (pa_cons (RC.pe_mk0 T.e_InvalidPayment.kC T.g_InvalidPayment hr (RC.newV0 T.e_InvalidPayment.v)) (pa_cons (RC.pe_mk0 T.e_NoPayment.kC T.g_NoPayment hr (RC.newV0 T.e_NoPayment.v)) pa_nil))))))))
      (pss_one (ps_ret (pe_op op_cat (pv 0) (pe_lst (pa_cons (RC.pe_mk0 T.e_InvalidName.kC T.g_InvalidName hr (RC.newN0 T.e_InvalidName)) (pa_cons (RC.pe_mk0 T.e_TakenName.kC T.g_TakenName hr (RC.newN0 T.e_TakenName)) (pa_cons (RC.pe_mk0 T.e_UnknownName.kC T.g_UnknownName hr (RC.newN0 T.e_UnknownName)) pa_nil)))))))))), ?_⟩)
  · obtain ⟨_, _, pa, _, _⟩ := h
    exact pa.len
  · obtain ⟨ω, G, pa, wA, sy⟩ := h
    try dsimp only [L2.cxOf, L2.Cx.nox, L2.Cx.wish]
    refine Go.fin (Γ := [none]) (fo := (fun (r : (List Er)) => RS.val (is K r) (ω))) (ω := ω) (ωe := ω) (?_) pa rfl wA sy
    unfold m_l_bare
    exact Go.req fun y178 h179 =>
  Go.asg (i := 0) (EvX.eq (EvX.fr (EvF.lst (EvA.cons EvX.mk0 (EvA.cons EvX.mk0 (EvA.cons EvX.mk0 (EvA.cons EvX.mk0 (EvA.cons EvX.mk0 (EvA.cons EvX.mk0 EvA.nil)))))) rfl (by show 6 ≤ sizeLine; decide))) (Option.some.inj h179)) (
  Go.req fun y180 h181 =>
  Go.asg (i := 0) (EvX.fr (EvF.op (EvX.var (i := 0) rfl) (EvX.fr (EvF.lst (EvA.cons EvX.mk0 (EvA.cons EvX.mk0 (EvA.cons EvX.mk0 (EvA.cons EvX.mk0 (EvA.cons EvX.mk0 EvA.nil))))) rfl (by show 5 ≤ sizeLine; decide))) (OpF.cat h181))) (
  Go.req fun y182 h183 =>
  Go.ret (EvX.fr (EvF.op (EvX.var (i := 0) rfl) (EvX.fr (EvF.lst (EvA.cons EvX.mk0 (EvA.cons EvX.mk0 (EvA.cons EvX.mk0 EvA.nil))) rfl (by show 3 ≤ sizeLine; decide))) (OpF.cat h183))) rfl (Dr.refl _)))
end
end Mi
/-! ## Plain data: what the mirrors' words come to -/
namespace Pl
open PySem L2 Lf
theorem fold_inv {α S : Type} {f : S → α → Res S} : ∀ {xs : List α} {s0 : S} (P : Nat → S → Prop), P 0 s0 → (∀ (i : Nat) (x : α) (s : S), xs[i]? = some x → P i s → ∃ s', f s x = .ok s' ∧ P (i + 1) s') → ∃ s', Res.fold f xs s0 = .ok s' ∧ P xs.length s'
  | [], s0, P, h0, _ => ⟨s0, rfl, h0⟩
  | x :: xs, s0, P, h0, hs => by
    obtain ⟨s1, e1, h1⟩ := hs 0 x s0 rfl h0
    obtain ⟨s2, e2, h2⟩ := fold_inv (xs := xs) (s0 := s1) (fun i s => P (i + 1) s) h1 fun i y s hy h => hs (i + 1) y s hy h
    refine ⟨s2, ?_, h2⟩
    show Res.bind (f s0 x) (Res.fold f xs) = _
    rw [e1]
    exact e2
theorem loop_inv {α S R : Type} {f : S → α → Res (Ctl S R)} : ∀ {xs : List α} {s0 : S} (P : Nat → S → Prop), P 0 s0 → (∀ (i : Nat) (x : α) (s : S), xs[i]? = some x → P i s → ∃ s', f s x = .ok (.nx s') ∧ P (i + 1) s') → ∃ s', Res.loop f xs s0 = .ok (.nx s') ∧ P xs.length s'
  | [], s0, P, h0, _ => ⟨s0, rfl, h0⟩
  | x :: xs, s0, P, h0, hs => by
    obtain ⟨s1, e1, h1⟩ := hs 0 x s0 rfl h0
    obtain ⟨s2, e2, h2⟩ := loop_inv (xs := xs) (s0 := s1) (fun i s => P (i + 1) s) h1 fun i y s hy h => hs (i + 1) y s hy h
    refine ⟨s2, ?_, h2⟩
    show Res.bind (f s0 x) _ = _
    rw [e1]
    exact e2
theorem req_some {α β : Type} {o : Option α} {x : α} {k : α → Res β} (h : o = some x) : Res.req o k = k x := by
  rw [h]
  rfl
theorem val_some {α : Type} {m : Res α} {x : α} (h : m = .ok x) : Res.val m = some x := by
  rw [h]
  rfl
theorem bind_ok {α β : Type} {m : Res α} {x : α} {k : α → Res β} (h : m = .ok x) : Res.bind m k = k x := by
  rw [h]
  rfl
theorem after_nx {S R X : Type} {m : Res (Ctl S R)} {s : S} {k : S → Res X} {kr : R → Res X} (h : m = .ok (.nx s)) : Res.after m k kr = k s := by
  rw [h]
  rfl
theorem req_val {α β : Type} {m : Res α} {x : α} {k : α → Res β} (h : m = .ok x) : Res.req (Res.val m) k = k x := by
  rw [h]
  rfl
/-- lo, lo + 1, .. -/
def ups (lo : Int) (n : Nat) : List Int := (List.range n).map fun (i : Nat) => lo + (i : Int)
theorem irng_ups {lo hi : Int} {n : Nat} (e : hi - lo = n) (h1 : -(2 ^ 59) ≤ lo) (h2 : lo ≤ 2 ^ 59) (h3 : n ≤ 10000000) : irng lo hi = some (ups lo n) := by
  unfold irng
  have e2 : (hi - lo).toNat = n := by omega
  rw [if_pos ⟨by omega, by omega, by omega, by omega, by rw [e2, sizeLine_eq]; omega⟩, e2]
  rfl
theorem ups_len (lo : Int) (n : Nat) : (ups lo n).length = n := by simp [ups]
theorem ups_at {lo : Int} {n i : Nat} {x : Int} (h : (ups lo n)[i]? = some x) : i < n ∧ x = lo + i := by
  unfold ups at h
  rw [List.getElem?_map] at h
  cases z : (List.range n)[i]? with
  | none =>
    rw [z] at h
    cases h
  | some j =>
    rw [z] at h
    obtain ⟨l, e⟩ := List.getElem?_eq_some_iff.mp z
    rw [List.getElem_range] at e
    rw [List.length_range] at l
    cases h
    exact ⟨l, by rw [e]⟩
theorem pow_mono {a b : Nat} (h : a ≤ b) : (2 : Nat) ^ a ≤ 2 ^ b := Nat.pow_le_pow_right (by decide) h
theorem imul_ok {i j : Int} (h1 : i.natAbs < 2 ^ 5000) (h2 : j.natAbs < 2 ^ 5000) : imul i j = some (i * j) := by
  unfold imul
  exact if_pos ⟨Nat.lt_of_lt_of_le h1 (pow_mono (by decide)), Nat.lt_of_lt_of_le h2 (pow_mono (by decide))⟩
theorem ifdiv_ok {i j : Int} (h1 : 0 < j) (h2 : j.natAbs < 2 ^ 5000) : ifdiv i j = some (i / j) := by
  unfold ifdiv
  exact if_pos ⟨h1, Nat.lt_of_lt_of_le h2 (pow_mono (by decide))⟩
theorem imod_ok {i j : Int} (h1 : 0 < j) : imod i j = some (i % j) := by
  unfold imod
  exact if_pos h1
theorem app_ok {α : Type} {xs : List α} {x : α} (h : xs.length < 10000000) : app xs x = some (xs ++ [x]) := by
  unfold app
  exact if_pos (by rw [sizeLine_eq]; omega)
theorem cat_ok {α : Type} {xs ys : List α} (h : xs.length + ys.length ≤ 10000000) : cat xs ys = some (xs ++ ys) := by
  unfold cat
  exact if_pos (by rw [sizeLine_eq]; omega)
theorem more_ok {α : Type} {xs : List α} (h : xs.length < 10000000) : more xs = some () := by
  unfold more
  exact if_pos (by rw [sizeLine_eq]; omega)
theorem atI_last {α : Type} {xs : List α} {x : α} (h : xs.getLast? = some x) : atI xs (-(1 : Int)) = some x := by
  unfold L2.atI L2.ixN
  have hne : 0 < xs.length := by
    cases xs with
    | nil => cases h
    | cons a b => exact Nat.succ_pos _
  rw [if_neg (by decide), if_pos (by omega)]
  rw [List.getLast?_eq_getElem?] at h
  show xs[(-(1 : Int) + xs.length).toNat]? = some x
  have e : (-(1 : Int) + xs.length).toNat = xs.length - 1 := by omega
  rw [e]
  exact h
theorem atI_nat' {α : Type} {xs : List α} {i : Nat} {x : α} (h : xs[i]? = some x) : atI xs (i : Int) = some x := by
  unfold L2.atI L2.ixN
  have l := (List.getElem?_eq_some_iff.mp h).1
  rw [if_pos (by omega), if_pos (by omega)]
  show xs[(i : Int).toNat]? = some x
  rw [Int.toNat_natCast]
  exact h
theorem mapO_ok {α β : Type} {f : α → Option (Option β)} {g : α → β} : ∀ {xs : List α}, (∀ x ∈ xs, f x = some (some (g x))) → mapO f xs = some (xs.map g)
  | [], _ => rfl
  | x :: xs, h => by
    unfold mapO
    rw [h x List.mem_cons_self, mapO_ok (g := g) fun y hy => h y (List.mem_cons_of_mem _ hy)]
    rfl
theorem mapO_filter {α β : Type} {f : α → Option (Option β)} {c : α → Bool} {g : α → β} : ∀ {xs : List α}, (∀ x ∈ xs, f x = if c x then some (some (g x)) else some none) → mapO f xs = some ((xs.filter c).map g)
  | [], _ => rfl
  | x :: xs, h => by
    unfold mapO
    rw [h x List.mem_cons_self, mapO_filter (c := c) (g := g) fun y hy => h y (List.mem_cons_of_mem _ hy)]
    cases e : c x with
    | true => rw [List.filter_cons_of_pos e]; rfl
    | false => rw [List.filter_cons_of_neg (by rw [e]; decide)]; rfl
theorem lenOk_ok {m : Res Int} {n : Nat} (h : m = .ok (n : Int)) (hn : n < 2 ^ 62) (f : Res Int → Option Int) (hf : ∀ m : Res Int, ∀ k : Int, m = .ok k → 0 ≤ k → k < 2 ^ 63 → f m = some k) : f m = some (n : Int) := hf m n h (by omega) (by omega)
end Pl
namespace Pl
open PySem L2 Lf
theorem req_go {α β : Type} {o : Option α} {x : α} {k : α → Res β} {r : Res β} (h : o = some x) (e : k x = r) : Res.req o k = r := by
  rw [h]
  exact e
theorem reqv {α β : Type} {m : Res α} {x : α} {k : α → Res β} {r : Res β} (h : m = .ok x) (e : k x = r) : Res.req (Res.val m) k = r := by
  rw [h]
  exact e
theorem bind_go {α β : Type} {m : Res α} {x : α} {k : α → Res β} {r : Res β} (h : m = .ok x) (e : k x = r) : Res.bind m k = r := by
  rw [h]
  exact e
theorem fold_bind {α S X : Type} {f : S → α → Res S} {k : S → Res X} {xs : List α} {s0 : S} {r : Res X} (P : Nat → S → Prop) (h0 : P 0 s0) (hs : ∀ (i : Nat) (x : α) (s : S), xs[i]? = some x → P i s → ∃ s', f s x = .ok s' ∧ P (i + 1) s') (hk : ∀ s, P xs.length s → k s = r) : Res.bind (Res.fold f xs s0) k = r := by
  obtain ⟨s, e, h⟩ := fold_inv P h0 hs
  rw [e]
  exact hk s h
theorem loop_after {α S R X : Type} {f : S → α → Res (Ctl S R)} {k : S → Res X} {kr : R → Res X} {xs : List α} {s0 : S} {r : Res X} (P : Nat → S → Prop) (h0 : P 0 s0) (hs : ∀ (i : Nat) (x : α) (s : S), xs[i]? = some x → P i s → ∃ s', f s x = .ok (.nx s') ∧ P (i + 1) s') (hk : ∀ s, P xs.length s → k s = r) : Res.after (Res.loop f xs s0) k kr = r := by
  obtain ⟨s, e, h⟩ := loop_inv P h0 hs
  rw [e]
  exact hk s h
theorem loop_end {α S R X : Type} {f : S → α → Res (Ctl S R)} {k : S → Res X} {kr : R → Res X} {xs : List α} {s0 : S} {Q : X → Prop} (P : Nat → S → Prop) (h0 : P 0 s0) (hs : ∀ (i : Nat) (x : α) (s : S), xs[i]? = some x → P i s → ∃ s', f s x = .ok (.nx s') ∧ P (i + 1) s') (hk : ∀ s, P xs.length s → ∃ r, k s = .ok r ∧ Q r) : ∃ r, Res.after (Res.loop f xs s0) k kr = .ok r ∧ Q r := by
  obtain ⟨s, e, h⟩ := loop_inv P h0 hs
  rw [e]
  exact hk s h
theorem if_neg' {α : Type} {c : Bool} {x y z : α} (h : c = false) (e : y = z) : (if c = true then x else y) = z := by
  rw [h]
  exact e
theorem if_pos' {α : Type} {c : Bool} {x y z : α} (h : c = true) (e : x = z) : (if c = true then x else y) = z := by
  rw [h]
  exact e
section
variable {κ α : Type} [DecidableEq κ]
theorem find_map {l : List (κ × α)} {f : κ × α → κ × α} (hf : ∀ p, (f p).1 = p.1) (z : κ) : ((l.map f).find? fun p => decide (p.1 = z)) = (l.find? fun p => decide (p.1 = z)).map f := by
  induction l with
  | nil => rfl
  | cons p l ih =>
    rw [List.map_cons, List.find?_cons, List.find?_cons, hf]
    cases decide (p.1 = z) with
    | true => rfl
    | false => exact ih
theorem putL_get (l : List (κ × α)) (k z : κ) (x : α) : ((putL l k x).find? fun p => decide (p.1 = z)).map (·.2) = if z = k then some x else (l.find? fun p => decide (p.1 = z)).map (·.2) := by
  unfold putL
  by_cases h : (l.any fun p => decide (p.1 = k)) = true
  · rw [if_pos h]
    rw [find_map (f := fun p => if p.1 = k then (p.1, x) else p) (fun p => by split <;> rfl)]
    obtain ⟨p, hp, hk⟩ := List.any_eq_true.mp h
    by_cases e : z = k
    · rw [if_pos e]
      subst e
      cases q : l.find? fun p => decide (p.1 = z) with
      | none =>
        have := List.find?_eq_none.mp q p hp
        exact absurd hk this
      | some r =>
        have := List.find?_some q
        show some (if r.1 = z then (r.1, x) else r).2 = _
        rw [if_pos (of_decide_eq_true this)]
    · rw [if_neg e]
      cases q : l.find? fun p => decide (p.1 = z) with
      | none => rfl
      | some r =>
        have q2 := List.find?_some q
        have := of_decide_eq_true q2
        show some (if r.1 = k then (r.1, x) else r).2 = some r.2
        rw [if_neg (fun c => e (this.symm.trans c))]
  · rw [if_neg h, List.find?_append]
    have no : ∀ p ∈ l, p.1 ≠ k := fun p hp c => h (List.any_eq_true.mpr ⟨p, hp, decide_eq_true c⟩)
    by_cases e : z = k
    · rw [if_pos e]
      subst e
      have : l.find? (fun p => decide (p.1 = z)) = none := List.find?_eq_none.mpr fun p hp => by
        simpa using no p hp
      rw [this, List.find?_cons, decide_eq_true rfl]
      rfl
    · rw [if_neg e]
      have : ([(k, x)] : List (κ × α)).find? (fun p => decide (p.1 = z)) = none := by
        rw [List.find?_cons, decide_eq_false (fun c => e c.symm)]
        rfl
      rw [this, Option.or_none]
theorem get_mem {l : List (κ × α)} {z : κ} : z ∈ l.map (·.1) ↔ ((l.find? fun p => decide (p.1 = z)).map (·.2)).isSome = true := by
  rw [Option.isSome_map]
  constructor
  · intro h
    obtain ⟨p, hp, e⟩ := List.mem_map.mp h
    rw [List.find?_isSome]
    exact ⟨p, hp, decide_eq_true e⟩
  · intro h
    rw [List.find?_isSome] at h
    obtain ⟨p, hp, e⟩ := h
    exact List.mem_map.mpr ⟨p, hp, of_decide_eq_true e⟩
end
end Pl

namespace Pl
open PySem L2 Lf
theorem putL_nodup {κ α : Type} [DecidableEq κ] {l : List (κ × α)} {k : κ} {x : α} (u : (l.map (·.1)).Nodup) : ((putL l k x).map (·.1)).Nodup := by
  unfold putL
  by_cases h : (l.any fun p => decide (p.1 = k)) = true
  · rw [if_pos h, List.map_map]
    have : (l.map ((fun x => x.1) ∘ fun p => if p.1 = k then (p.1, x) else p)) = l.map (·.1) := List.map_congr_left fun p _ => by
      show (if p.1 = k then (p.1, x) else p).1 = p.1
      split <;> rfl
    rw [this]
    exact u
  · rw [if_neg h, List.map_append]
    refine List.nodup_append.mpr ⟨u, by simp, fun a ha b hb => ?_⟩
    rw [List.mem_singleton.mp hb]
    rintro rfl
    obtain ⟨p, hp, e⟩ := List.mem_map.mp ha
    exact h (List.any_eq_true.mpr ⟨p, hp, decide_eq_true e⟩)
end Pl
/-! ## Rolls, strips: the mathematics -/
namespace Pm
open PySem
/-- the sum of the first i worths -/
def pre (ws : List Int) (i : Nat) : Int := (ws.take i).sum
/-- what __init__ stores as firsts -/
def firsts (ws : List Int) : List Int := (List.range (ws.length + 1)).map (pre ws)
theorem firsts_len (ws : List Int) : (firsts ws).length = ws.length + 1 := by simp [firsts]
theorem firsts_at {ws : List Int} {i : Nat} (h : i ≤ ws.length) : (firsts ws)[i]? = some (pre ws i) := by
  unfold firsts
  rw [List.getElem?_map, List.getElem?_range (by omega)]
  rfl
theorem firsts_last (ws : List Int) : (firsts ws).getLast? = some ws.sum := by
  rw [List.getLast?_eq_getElem?, firsts_len, Nat.add_sub_cancel, firsts_at (Nat.le_refl _)]
  show some ((ws.take ws.length).sum) = _
  rw [List.take_length]
/-- the sum of the first n stamps of the roll -/
def upto (ws : List Int) (n : Nat) : Int := ((n / ws.length : Nat) : Int) * ws.sum + pre ws (n % ws.length)
/-- the row torn at n -/
def tornL (ws : List Int) (n : Nat) : List Int := ws.drop (n % ws.length) ++ ws.take (n % ws.length)
theorem tornL_len (ws : List Int) (n : Nat) : (tornL ws n).length = ws.length := by
  unfold tornL
  rw [List.length_append, List.length_drop, List.length_take]
  omega
/-- a row that a roll may be made of -/
structure Row (ws : List Int) : Prop where
  ne : ws ≠ []
  pos : ∀ z ∈ ws, 1 ≤ z
  big : ∀ z ∈ ws, z < 2 ^ 200
  len : ws.length ≤ 1000
theorem Row.n0 {ws : List Int} (r : Row ws) : 0 < ws.length := List.length_pos_iff.mpr r.ne
theorem Row.torn {ws : List Int} (r : Row ws) (n : Nat) : Row (tornL ws n) where
  ne := fun e => by
    have := tornL_len ws n
    rw [e] at this
    have := r.n0
    simp at *
    omega
  pos := fun z h => by
    unfold tornL at h
    rcases List.mem_append.mp h with h | h
    · exact r.pos z (List.mem_of_mem_drop h)
    · exact r.pos z (List.mem_of_mem_take h)
  big := fun z h => by
    unfold tornL at h
    rcases List.mem_append.mp h with h | h
    · exact r.big z (List.mem_of_mem_drop h)
    · exact r.big z (List.mem_of_mem_take h)
  len := by rw [tornL_len]; exact r.len
theorem Row.rev {ws : List Int} (r : Row ws) : Row ws.reverse where
  ne := fun e => r.ne (List.reverse_eq_nil_iff.mp e)
  pos := fun z h => r.pos z (List.mem_reverse.mp h)
  big := fun z h => r.big z (List.mem_reverse.mp h)
  len := by rw [List.length_reverse]; exact r.len
theorem sum_lt {b : Int} : ∀ ws : List Int, (∀ z ∈ ws, 1 ≤ z) → (∀ z ∈ ws, z < b) → 0 ≤ ws.sum ∧ ws.sum ≤ ws.length * b
  | [], _, _ => by simp
  | z :: r, h1, h2 => by
    have ⟨a, c⟩ := sum_lt r (fun y hy => h1 y (List.mem_cons_of_mem _ hy)) fun y hy => h2 y (List.mem_cons_of_mem _ hy)
    have e1 := h1 z List.mem_cons_self
    have e2 := h2 z List.mem_cons_self
    rw [List.sum_cons, List.length_cons, Int.natCast_add, Int.add_mul]
    constructor
    · omega
    · show z + r.sum ≤ (r.length : Int) * b + ((1 : Nat) : Int) * b
      omega
theorem Row.sum0 {ws : List Int} (r : Row ws) : 1 ≤ ws.sum := by
  obtain ⟨ne, pos, _, _⟩ := r
  cases ws with
  | nil => exact absurd rfl ne
  | cons z t =>
    have := (sum_lt (b := 1 + (z :: t).foldl max 0) t (fun y hy => pos y (List.mem_cons_of_mem _ hy)))
    rw [List.sum_cons]
    have e1 := pos z List.mem_cons_self
    have e2 : 0 ≤ t.sum := by
      clear this
      have : ∀ l : List Int, (∀ y ∈ l, 1 ≤ y) → 0 ≤ l.sum := by
        intro l
        induction l with
        | nil => intro _; simp
        | cons a l ih =>
          intro h
          rw [List.sum_cons]
          have := h a List.mem_cons_self
          have := ih fun y hy => h y (List.mem_cons_of_mem _ hy)
          omega
      exact this t fun y hy => pos y (List.mem_cons_of_mem _ hy)
    omega
theorem Row.sumB {ws : List Int} (r : Row ws) : ws.sum < 2 ^ 210 := by
  have h := (sum_lt (b := 2 ^ 200) ws r.pos r.big).2
  have l := r.len
  have : (ws.length : Int) * 2 ^ 200 ≤ 1000 * 2 ^ 200 := Int.mul_le_mul_of_nonneg_right (by omega) (by decide)
  have e : (1000 : Int) * 2 ^ 200 < 2 ^ 210 := by decide
  omega
/-! ### a Roll at p -/
theorem pre_next {ws : List Int} {i : Nat} {z : Int} (h : ws[i]? = some z) : pre ws (i + 1) = pre ws i + z := by
  unfold pre
  rw [List.take_add_one, h, List.sum_append]
  simp
theorem upto_b {ws : List Int} (R : Row ws) {n : Nat} (h : n < 2 ^ 200) : (((n : Int) / (ws.length : Int))).natAbs < 2 ^ 200 := by
  have n0 := R.n0
  have e : ((n : Int) / (ws.length : Int)) = ((n / ws.length : Nat) : Int) := rfl
  rw [e, Int.natAbs_natCast]
  exact Nat.lt_of_le_of_lt (Nat.div_le_self _ _) h
theorem mod0 {x L : Nat} (h : x < L) : x % L = x := Nat.mod_eq_of_lt h
theorem mod1 {x L : Nat} (h1 : L ≤ x) (h2 : x < L + L) : x % L = x - L := by
  rw [Nat.mod_eq_sub_mod h1, Nat.mod_eq_of_lt (by omega)]
/-- the n-th stamp of the roll -/
def st (ws : List Int) (n : Nat) : Int := ws[n % ws.length]?.getD 0
/-- the sum of the first n of f -/
def up (f : Nat → Int) : Nat → Int
  | 0 => 0
  | n + 1 => up f n + f n
theorem up_add (f : Nat → Int) (n : Nat) : ∀ m, up f (n + m) = up f n + up (fun k => f (n + k)) m
  | 0 => by simp [up]
  | m + 1 => by
    show up f (n + m) + f (n + m) = up f n + (up (fun k => f (n + k)) m + f (n + m))
    rw [up_add f n m, Int.add_assoc]
theorem up_congr {f g : Nat → Int} : ∀ {n : Nat}, (∀ k, k < n → f k = g k) → up f n = up g n
  | 0, _ => rfl
  | n + 1, h => by
    show up f n + f n = up g n + g n
    rw [up_congr (n := n) (fun k hk => h k (by omega)), h n (by omega)]
theorem up_head (f : Nat → Int) : ∀ n, up f (n + 1) = f 0 + up (fun k => f (k + 1)) n
  | 0 => by simp [up]
  | n + 1 => by
    show up f (n + 1) + f (n + 1) = f 0 + (up (fun k => f (k + 1)) n + f (n + 1))
    rw [up_head f n, Int.add_assoc]
theorem up_rev {f g : Nat → Int} : ∀ {n : Nat}, (∀ k, k < n → f k = g (n - 1 - k)) → up f n = up g n
  | 0, _ => rfl
  | n + 1, h => by
    rw [up_head f n]
    show f 0 + up (fun k => f (k + 1)) n = up g n + g n
    rw [up_rev (f := fun k => f (k + 1)) (g := g) (n := n) (fun k hk => by
      show f (k + 1) = _
      rw [h (k + 1) (by omega)]
      congr 1
      omega), h 0 (by omega), Int.add_comm]
    congr 2
theorem upto_zero (ws : List Int) : upto ws 0 = 0 := by
  unfold upto pre
  simp
theorem sum_take_all {ws : List Int} {i : Nat} (h : i + 1 = ws.length) {z : Int} (hz : ws[i]? = some z) : pre ws i + z = ws.sum := by
  have := pre_next hz
  rw [← this]
  unfold pre
  rw [h, List.take_length]
theorem upto_succ {ws : List Int} (n0 : 0 < ws.length) (n : Nat) : upto ws (n + 1) = upto ws n + st ws n := by
  have lt := Nat.mod_lt n n0
  obtain ⟨z, hz⟩ : ∃ z, ws[n % ws.length]? = some z := ⟨_, List.getElem?_eq_getElem lt⟩
  have es : st ws n = z := by
    unfold st
    rw [hz]
    rfl
  rw [es]
  have dm := Nat.div_add_mod n ws.length
  unfold upto
  by_cases h : n % ws.length + 1 < ws.length
  · have e1 : (n + 1) / ws.length = n / ws.length := by
      rw [Nat.div_eq_of_lt_le]
      · rw [Nat.mul_comm]
        omega
      · rw [Nat.succ_mul, Nat.mul_comm]
        omega
    have e2 : (n + 1) % ws.length = n % ws.length + 1 := by
      have := Nat.div_add_mod (n + 1) ws.length
      rw [e1] at this
      omega
    rw [e1, e2, pre_next hz, Int.add_assoc]
  · have e : n % ws.length + 1 = ws.length := by omega
    have e1 : (n + 1) / ws.length = n / ws.length + 1 := by
      rw [Nat.div_eq_of_lt_le]
      · rw [Nat.succ_mul, Nat.mul_comm]
        omega
      · rw [Nat.succ_mul, Nat.succ_mul, Nat.mul_comm]
        omega
    have e2 : (n + 1) % ws.length = 0 := by
      have := Nat.div_add_mod (n + 1) ws.length
      rw [e1, Nat.mul_add] at this
      omega
    rw [e1, e2, ← sum_take_all e hz]
    unfold pre
    rw [List.take_zero, List.sum_nil, Int.natCast_add, Int.add_mul]
    simp only [Int.natCast_one, Int.one_mul, Int.add_zero]
    omega
theorem upto_up {ws : List Int} (n0 : 0 < ws.length) : ∀ n, upto ws n = up (st ws) n
  | 0 => upto_zero ws
  | n + 1 => by rw [upto_succ n0, upto_up n0 n]; rfl
/-- the sum of m stamps from the n-th -/
def win (ws : List Int) (n m : Nat) : Int := upto ws (n + m) - upto ws n
theorem win_up {ws : List Int} (n0 : 0 < ws.length) (n m : Nat) : win ws n m = up (fun k => st ws (n + k)) m := by
  unfold win
  rw [upto_up n0, upto_up n0, up_add]
  omega
theorem win_add (ws : List Int) (n m k : Nat) : win ws n m + win ws (n + m) k = win ws n (m + k) := by
  unfold win
  rw [Nat.add_assoc]
  omega
theorem win_lap {ws : List Int} (n0 : 0 < ws.length) (n m : Nat) : win ws n (m + ws.length) = win ws n m + ws.sum := by
  have e : upto ws (n + (m + ws.length)) = upto ws (n + m) + ws.sum := by
    rw [← Nat.add_assoc]
    unfold upto
    rw [Nat.add_mod_right, Nat.add_div_right _ n0]
    show (((n + m) / ws.length + 1 : Nat) : Int) * ws.sum + _ = _
    rw [Int.natCast_add, Int.add_mul, Int.natCast_one, Int.one_mul]
    omega
  unfold win
  rw [e]
  omega
theorem torn_at {ws : List Int} (n : Nat) {i : Nat} (h : i < ws.length) : (tornL ws n)[i]? = ws[(n + i) % ws.length]? := by
  have n0 : 0 < ws.length := by omega
  have c := Nat.mod_lt n n0
  have e : (n + i) % ws.length = (n % ws.length + i) % ws.length := by rw [Nat.mod_add_mod]
  rw [e]
  unfold tornL
  generalize n % ws.length = q at c
  by_cases hi : i < ws.length - q
  · rw [List.getElem?_append_left (by rw [List.length_drop]; exact hi), List.getElem?_drop, mod0 (x := q + i) (by omega)]
  · rw [List.getElem?_append_right (by rw [List.length_drop]; omega), List.length_drop, List.getElem?_take_of_lt (by omega), mod1 (x := q + i) (by omega) (by omega)]
    congr 1
    omega
theorem st_torn {ws : List Int} (n0 : 0 < ws.length) (n k : Nat) : st (tornL ws n) k = st ws (n + k) := by
  unfold st
  rw [tornL_len, torn_at n (Nat.mod_lt _ n0), Nat.add_mod_mod]
theorem win_torn {ws : List Int} (n0 : 0 < ws.length) (s n m : Nat) : win (tornL ws s) n m = win ws (s + n) m := by
  rw [win_up (by rw [tornL_len]; exact n0), win_up n0]
  refine up_congr fun k _ => ?_
  show st (tornL ws s) (n + k) = st ws (s + n + k)
  rw [st_torn n0, Nat.add_assoc]
theorem torn_torn {ws : List Int} (s t : Nat) : tornL (tornL ws s) t = tornL ws (s + t) := by
  apply List.ext_getElem?
  intro i
  by_cases h : i < ws.length
  · have n0 : 0 < ws.length := by omega
    rw [torn_at t (by rw [tornL_len]; exact h), tornL_len, torn_at s (Nat.mod_lt _ n0), torn_at _ h, Nat.add_mod_mod, Nat.add_assoc]
  · rw [List.getElem?_eq_none (by rw [tornL_len, tornL_len]; omega), List.getElem?_eq_none (by rw [tornL_len]; omega)]
theorem torn_rev {ws : List Int} (s : Nat) : (tornL ws s).reverse = tornL ws.reverse (ws.length - s % ws.length) := by
  apply List.ext_getElem?
  intro i
  by_cases h : i < ws.length
  · have n0 : 0 < ws.length := by omega
    have c := Nat.mod_lt s n0
    rw [List.getElem?_reverse (by rw [tornL_len]; exact h), tornL_len, torn_at _ (by omega), torn_at _ (by rw [List.length_reverse]; exact h), List.length_reverse, List.getElem?_reverse (Nat.mod_lt _ n0)]
    have e : (s + (ws.length - 1 - i)) % ws.length = (s % ws.length + (ws.length - 1 - i)) % ws.length := by rw [Nat.mod_add_mod]
    rw [e]
    congr 1
    generalize s % ws.length = q at c
    by_cases hi : i < q
    · rw [mod1 (x := q + (ws.length - 1 - i)) (by omega) (by omega), mod0 (x := ws.length - q + i) (by omega)]
      omega
    · rw [mod0 (x := q + (ws.length - 1 - i)) (by omega), mod1 (x := ws.length - q + i) (by omega) (by omega)]
      omega
  · rw [List.getElem?_eq_none (by rw [List.length_reverse, tornL_len]; omega), List.getElem?_eq_none (by rw [tornL_len, List.length_reverse]; omega)]
theorem st_rev {ws : List Int} (n0 : 0 < ws.length) (k : Nat) : st ws.reverse k = st ws (ws.length - 1 - k % ws.length) := by
  have c := Nat.mod_lt k n0
  unfold st
  rw [List.length_reverse, List.getElem?_reverse c, mod0 (x := ws.length - 1 - k % ws.length) (by omega)]
theorem win_back {ws : List Int} (n0 : 0 < ws.length) {low t : Nat} (hl : low < ws.length) (ht : t < 50) : win ws.reverse (ws.length - low) t = win ws ((low + 50 * ws.length - t) % ws.length) t := by
  rw [win_up (by rw [List.length_reverse]; exact n0), win_up n0]
  refine up_rev fun k hk => ?_
  show st ws.reverse (ws.length - low + k) = st ws ((low + 50 * ws.length - t) % ws.length + (t - 1 - k))
  rw [st_rev n0]
  have hb : 50 ≤ 50 * ws.length := by omega
  have e1 : st ws ((low + 50 * ws.length - t) % ws.length + (t - 1 - k)) = st ws (low + 50 * ws.length - 1 - k) := by
    unfold st
    rw [Nat.mod_add_mod]
    congr 3
    omega
  rw [e1]
  have c := Nat.mod_lt (ws.length - low + k) n0
  have dm := Nat.div_add_mod (ws.length - low + k) ws.length
  -- the quotient q: L q + r = L - low + k
  have hq : (ws.length - low + k) / ws.length ≤ 51 := by
    rw [Nat.div_le_iff_le_mul_add_pred n0]
    omega
  unfold st
  congr 2
  have key : low + 50 * ws.length - 1 - k = (ws.length - 1 - (ws.length - low + k) % ws.length) + (50 - (ws.length - low + k) / ws.length) * ws.length ∨ (ws.length - low + k) / ws.length = 51 := by
    by_cases h51 : (ws.length - low + k) / ws.length = 51
    · exact .inr h51
    · left
      have h50 : (ws.length - low + k) / ws.length ≤ 50 := by omega
      generalize (ws.length - low + k) / ws.length = q at dm h50
      generalize (ws.length - low + k) % ws.length = r at dm c ⊢
      rw [Nat.sub_mul]
      have : ws.length * q = q * ws.length := Nat.mul_comm _ _
      have : q * ws.length ≤ 50 * ws.length := Nat.mul_le_mul_right _ h50
      omega
  rcases key with e | e
  · rw [e, Nat.add_mul_mod_self_right]
  · rw [e] at dm
    omega
def Turned (a b : List Int) : Prop := ∃ u v, a = u ++ v ∧ b = v ++ u
theorem Turned.refl (a : List Int) : Turned a a := ⟨[], a, rfl, by simp⟩
theorem Turned.symm {a b : List Int} (h : Turned a b) : Turned b a := by
  obtain ⟨u, v, e1, e2⟩ := h
  exact ⟨v, u, e2, e1⟩
theorem Turned.trans {a b c : List Int} (h1 : Turned a b) (h2 : Turned b c) : Turned a c := by
  obtain ⟨u, v, rfl, rfl⟩ := h1
  obtain ⟨s, t, e, rfl⟩ := h2
  rcases List.append_eq_append_iff.mp e with ⟨w, e1, e2⟩ | ⟨w, e1, e2⟩
  · subst e1 e2
    exact ⟨w, t ++ v, by simp, by simp⟩
  · subst e1 e2
    exact ⟨u ++ s, w, by simp, by simp⟩
theorem Turned.rev {a b : List Int} (h : Turned a b) : Turned a.reverse b.reverse := by
  obtain ⟨u, v, rfl, rfl⟩ := h
  exact ⟨v.reverse, u.reverse, by simp, by simp⟩
theorem Turned.torn (ws : List Int) (n : Nat) : Turned ws (tornL ws n) := ⟨ws.take (n % ws.length), ws.drop (n % ws.length), (List.take_append_drop _ _).symm, rfl⟩
theorem Turned.sum {a b : List Int} (h : Turned a b) : b.sum = a.sum := by
  obtain ⟨u, v, rfl, rfl⟩ := h
  rw [List.sum_append, List.sum_append, Int.add_comm]
theorem Turned.len {a b : List Int} (h : Turned a b) : b.length = a.length := by
  obtain ⟨u, v, rfl, rfl⟩ := h
  rw [List.length_append, List.length_append, Nat.add_comm]
theorem Turned.mem {a b : List Int} (h : Turned a b) {z : Int} : z ∈ b ↔ z ∈ a := by
  obtain ⟨u, v, rfl, rfl⟩ := h
  rw [List.mem_append, List.mem_append, Or.comm]
/-- b is a turned a, or a turned mirrored a -/
def Form (a b : List Int) : Prop := Turned a b ∨ Turned a.reverse b
theorem Form.of_turned {a b c : List Int} (h : Turned a b) (f : Form b c) : Form a c := by
  rcases f with f | f
  · exact .inl (h.trans f)
  · exact .inr (h.rev.trans f)
theorem Form.of_rev {a c : List Int} (f : Form a.reverse c) : Form a c := by
  rcases f with f | f
  · exact .inr f
  · rw [List.reverse_reverse] at f
    exact .inl f
theorem Form.trans {a b c : List Int} (h : Form a b) (f : Form b c) : Form a c := by
  rcases h with h | h
  · exact .of_turned h f
  · exact .of_rev (.of_turned h f)
theorem Form.symm {a b : List Int} (h : Form a b) : Form b a := by
  rcases h with h | h
  · exact .inl h.symm
  · have := h.symm.rev
    rw [List.reverse_reverse] at this
    exact .inr this
theorem Form.refl (a : List Int) : Form a a := .inl (Turned.refl a)
theorem Form.mirror (a : List Int) : Form a a.reverse := .inr (Turned.refl _)
theorem sum_reverse : ∀ a : List Int, a.reverse.sum = a.sum
  | [] => rfl
  | x :: a => by
    rw [List.reverse_cons, List.sum_append, sum_reverse a, List.sum_cons, List.sum_cons, List.sum_nil]
    omega
theorem Form.sum {a b : List Int} (h : Form a b) : b.sum = a.sum := by
  rcases h with h | h
  · exact h.sum
  · rw [h.sum, sum_reverse]
theorem Form.len {a b : List Int} (h : Form a b) : b.length = a.length := by
  rcases h with h | h
  · exact h.len
  · rw [h.len, List.length_reverse]
theorem Form.row {a b : List Int} (h : Form a b) (r : Row a) : Row b := by
  have m : ∀ z, z ∈ b → z ∈ a := fun z hz => by
    rcases h with h | h
    · exact h.mem.mp hz
    · exact List.mem_reverse.mp (h.mem.mp hz)
  refine ⟨fun e => ?_, fun z hz => r.pos z (m z hz), fun z hz => r.big z (m z hz), by rw [h.len]; exact r.len⟩
  have l := h.len
  have := r.n0
  rw [e] at l
  simp at l
  omega
/-- the least of the forms -/
def Least (a m : List Int) : Prop := Form a m ∧ ∀ y, Form a y → m ≤ y
theorem Least.same {a b m n : List Int} (f : Form a b) (h1 : Least a m) (h2 : Least b n) : m = n := by
  have x := h1.2 n (f.trans h2.1)
  have y := h2.2 m (f.symm.trans h1.1)
  exact List.le_antisymm x y
def fm (ws : List Int) (i : Nat) : List Int := ws.drop i ++ ws.take i
def formsL (ws : List Int) : List (List Int) := (List.range ws.length).map (fm ws)
theorem mem_formsL {ws y : List Int} (h : ws ≠ []) : y ∈ formsL ws ↔ Turned ws y := by
  unfold formsL
  rw [List.mem_map]
  constructor
  · rintro ⟨i, _, rfl⟩
    exact ⟨ws.take i, ws.drop i, (List.take_append_drop _ _).symm, rfl⟩
  · rintro ⟨u, v, rfl, rfl⟩
    by_cases e : v = []
    · subst e
      refine ⟨0, ?_, by simp [fm]⟩
      rw [List.mem_range]
      exact List.length_pos_iff.mpr h
    · refine ⟨u.length, ?_, by simp [fm]⟩
      rw [List.mem_range, List.length_append]
      have := List.length_pos_iff.mpr e
      omega
/-- the list of all forms, as the loop makes it -/
def formsUp (ws : List Int) : Nat → List (List Int)
  | 0 => []
  | 1 => formsL ws
  | _ => formsL ws ++ formsL ws.reverse
theorem mem_forms {ws y : List Int} (h : ws ≠ []) : y ∈ formsUp ws 2 ↔ Form ws y := by
  show y ∈ formsL ws ++ formsL ws.reverse ↔ _
  rw [List.mem_append, mem_formsL h, mem_formsL (fun e => h (List.reverse_eq_nil_iff.mp e))]
  exact Iff.rfl
theorem formsL_len (ws : List Int) : (formsL ws).length = ws.length := by simp [formsL]
theorem formsL_snoc (ws : List Int) (i : Nat) : (List.range (i + 1)).map (fm ws) = (List.range i).map (fm ws) ++ [fm ws i] := by
  rw [List.range_succ, List.map_append]
  rfl
theorem win_laps {ws : List Int} (n0 : 0 < ws.length) (n r : Nat) : ∀ q, win ws n (r + ws.length * q) = win ws n r + q * ws.sum
  | 0 => by simp
  | q + 1 => by
    rw [Nat.mul_add, Nat.mul_one, ← Nat.add_assoc, win_lap n0, win_laps n0 n r q, Int.natCast_add, Int.add_mul]
    simp only [Int.natCast_one, Int.one_mul]
    omega
theorem st_at {ws : List Int} (n0 : 0 < ws.length) (k : Nat) : ws[k % ws.length]? = some (st ws k) := by
  unfold st
  rw [List.getElem?_eq_getElem (Nat.mod_lt _ n0)]
  rfl
/-- of these strips, those with the sum z -/
def fits (ws : List Int) (z : Int) (ps : List (Nat × Nat)) : List (Nat × Nat) := ps.filter fun p => decide (win ws p.1 p.2 = z)
/-- the strips gone through: r whole rows of lengths, then n of the next -/
def gone (L : Nat) (r n : Nat) : List (Nat × Nat) := ((List.range r).flatMap fun s => (List.range L).map fun l => (s, l + 1)) ++ (List.range n).map fun l => (r, l + 1)
theorem gone_next (L r n : Nat) : gone L r (n + 1) = gone L r n ++ [(r, n + 1)] := by
  unfold gone
  rw [List.range_succ (n := n), List.map_append, List.append_assoc]
  rfl
theorem gone_row (L r : Nat) : gone L (r + 1) 0 = gone L r L := by
  unfold gone
  rw [List.range_succ, List.flatMap_append]
  simp
theorem gone_len (L r n : Nat) : (gone L r n).length = r * L + n := by
  unfold gone
  rw [List.length_append, List.length_map, List.length_range]
  congr 1
  induction r with
  | zero => simp
  | succ r ih =>
    rw [List.range_succ, List.flatMap_append, List.length_append, ih, Nat.succ_mul]
    simp
theorem fits_snoc (ws : List Int) (z : Int) (ps : List (Nat × Nat)) (p : Nat × Nat) : fits ws z (ps ++ [p]) = if z = win ws p.1 p.2 then fits ws z ps ++ [p] else fits ws z ps := by
  unfold fits
  rw [List.filter_append]
  by_cases h : z = win ws p.1 p.2
  · rw [if_pos h, h]
    simp
  · rw [if_neg h]
    simp [Ne.symm h]
/-- the strips of the amount n -/
def lapsOf (ws : List Int) (n : Nat) : Nat := (n - 1) / ws.sum.toNat
def stripsL (ws : List Int) (n : Nat) : List (Nat × Nat) := (fits ws ((n : Int) - lapsOf ws n * ws.sum) (gone ws.length ws.length 0)).map fun p => (p.1, p.2 + lapsOf ws n * ws.length)
theorem take_map_snoc {α β : Type} {f : α → β} {l : List α} {i : Nat} {x : α} (h : l[i]? = some x) : (l.take (i + 1)).map f = (l.take i).map f ++ [f x] := by
  rw [List.take_add_one, h, List.map_append]
  rfl
def dueLaps (ws : List Int) (n : Nat) : Nat := n / ws.sum.toNat - 1
def dueL (ws : List Int) (n : Nat) : List (Nat × Nat) := (fits ws ((n : Int) - dueLaps ws n * ws.sum) (gone (3 * ws.length) ws.length 0)).map fun p => (p.1, p.2 + dueLaps ws n * ws.length)
theorem filter_one {N x : Nat} {p : Nat → Bool} (h : x < N) (hp : p x = true) (u : ∀ y, y < N → p y = true → y = x) : (List.range N).filter p = [x] := by
  induction N with
  | zero => omega
  | succ N ih =>
    rw [List.range_succ, List.filter_append]
    by_cases e : x = N
    · subst e
      have z : (List.range x).filter p = [] := by
        rw [List.filter_eq_nil_iff]
        intro y hy hpy
        have l := List.mem_range.mp hy
        have := u y (by omega) hpy
        omega
      rw [z]
      simp [hp]
    · have z : p N = false := by
        cases q : p N with
        | false => rfl
        | true => exact absurd (u N (by omega) q).symm e
      rw [ih (by omega) fun y hy => u y (by omega)]
      simp [z]
theorem filter_no {N : Nat} {p : Nat → Bool} (h : ∀ y, y < N → p y = false) : (List.range N).filter p = [] := by
  rw [List.filter_eq_nil_iff]
  intro y hy
  rw [h y (List.mem_range.mp hy)]
  exact Bool.false_ne_true
/-- of one start: the lengths of the sum z, by their number less one -/
def lens (ws : List Int) (z : Int) (s N : Nat) : List Nat := (List.range N).filter fun l => decide (win ws s (l + 1) = z)
theorem fits_gone (ws : List Int) (z : Int) (M : Nat) : ∀ r, fits ws z (gone M r 0) = (List.range r).flatMap fun s => (lens ws z s M).map fun l => (s, l + 1)
  | 0 => rfl
  | r + 1 => by
    have e : gone M (r + 1) 0 = gone M r 0 ++ (List.range M).map fun l => (r, l + 1) := by
      rw [gone_row]
      unfold gone
      simp
    have ih := fits_gone ws z M r
    rw [e]
    unfold fits at ih ⊢
    rw [List.filter_append, ih, List.range_succ, List.flatMap_append, List.filter_map]
    congr 1
    simp only [List.flatMap_cons, List.flatMap_nil, List.append_nil]
    rfl
theorem st_pos {ws : List Int} (R : Row ws) (k : Nat) : 1 ≤ st ws k := by
  have n0 := R.n0
  have h := st_at n0 k
  exact R.pos _ (List.mem_of_getElem? h)
theorem win_succ {ws : List Int} (R : Row ws) (s l : Nat) : win ws s (l + 1) = win ws s l + st ws (s + l) := by
  rw [win_up R.n0, win_up R.n0]
  rfl
theorem win_mono {ws : List Int} (R : Row ws) (s l : Nat) : ∀ d, win ws s l + d ≤ win ws s (l + d)
  | 0 => by simp
  | d + 1 => by
    have h1 := win_mono R s l d
    have h2 := win_succ R s (l + d)
    have h3 := st_pos R (s + (l + d))
    rw [← Nat.add_assoc]
    omega
theorem win_inj {ws : List Int} (R : Row ws) {s l m : Nat} (h : win ws s l = win ws s m) : l = m := by
  rcases Nat.lt_or_ge l m with c | c
  · have := win_mono R s l (m - l)
    rw [show l + (m - l) = m by omega] at this
    omega
  · have := win_mono R s m (l - m)
    rw [show m + (l - m) = l by omega] at this
    omega
theorem win_0 (ws : List Int) (s : Nat) : win ws s 0 = 0 := by
  unfold win
  rw [Nat.add_zero]
  omega
theorem win_full {ws : List Int} (R : Row ws) (s : Nat) : win ws s ws.length = ws.sum := by
  have := win_lap R.n0 s 0
  rw [Nat.zero_add, win_0] at this
  omega
/-- from lengths up to L, sum z, to lengths up to 3 L, sum z and d laps -/
theorem lens_laps {ws : List Int} (R : Row ws) (z : Int) (hz : 1 ≤ z ∧ z ≤ ws.sum) (s d : Nat) (hd : d ≤ 1) : (lens ws (z + d * ws.sum) s (3 * ws.length)) = (lens ws z s ws.length).map fun l => l + d * ws.length := by
  have n0 := R.n0
  have sh : ∀ l, win ws s (l + d * ws.length) = win ws s l + d * ws.sum := fun l => by
    have := win_laps n0 s l d
    rw [Nat.mul_comm] at this
    exact this
  have dl : d * ws.length ≤ ws.length := by
    have := Nat.mul_le_mul_right ws.length hd
    omega
  unfold lens
  by_cases h : ∃ l, l < ws.length ∧ win ws s (l + 1) = z
  · obtain ⟨l, hl, hw⟩ := h
    rw [filter_one (x := l) hl (by rw [hw]; simp) (fun y _ hy => by
      have := of_decide_eq_true hy
      have := win_inj R (this.trans hw.symm)
      omega)]
    have hw2 : win ws s (l + d * ws.length + 1) = z + d * ws.sum := by
      have := sh (l + 1)
      rw [show l + 1 + d * ws.length = l + d * ws.length + 1 by omega] at this
      rw [this, hw]
    exact filter_one (x := l + d * ws.length) (by omega) (by rw [hw2]; simp) (fun y _ hy => by
      have := of_decide_eq_true hy
      have := win_inj R (this.trans hw2.symm)
      omega)
  · rw [filter_no (N := ws.length) (fun y hy => decide_eq_false fun c => h ⟨y, hy, c⟩)]
    refine filter_no fun y hy => decide_eq_false fun c => ?_
    -- y + 1 is more than d laps, and not more than d laps and one
    have low : d * ws.length < y + 1 := by
      rcases Nat.lt_or_ge (d * ws.length) (y + 1) with q | q
      · exact q
      · have a1 := win_mono R s (y + 1) (d * ws.length - (y + 1))
        rw [show y + 1 + (d * ws.length - (y + 1)) = 0 + d * ws.length by omega, sh 0, win_0] at a1
        omega
    have hw : win ws s (y + 1 - d * ws.length) = z := by
      have := sh (y + 1 - d * ws.length)
      rw [show y + 1 - d * ws.length + d * ws.length = y + 1 by omega, c] at this
      omega
    have up : y + 1 - d * ws.length ≤ ws.length := by
      rcases Nat.lt_or_ge ws.length (y + 1 - d * ws.length) with q | q
      · have a1 := win_mono R s ws.length (y + 1 - d * ws.length - ws.length)
        rw [show ws.length + (y + 1 - d * ws.length - ws.length) = y + 1 - d * ws.length by omega, hw, win_full R] at a1
        omega
      · exact q
    exact h ⟨y - d * ws.length, by omega, by rw [show y - d * ws.length + 1 = y + 1 - d * ws.length by omega]; exact hw⟩
theorem flat_congr {α β : Type} {f g : α → List β} : ∀ {l : List α}, (∀ x ∈ l, f x = g x) → l.flatMap f = l.flatMap g
  | [], _ => rfl
  | a :: l, h => by rw [List.flatMap_cons, List.flatMap_cons, h a List.mem_cons_self, flat_congr fun x hx => h x (List.mem_cons_of_mem _ hx)]
theorem strips_due {ws : List Int} (R : Row ws) {n : Nat} (hn : 1 ≤ n) : stripsL ws n = dueL ws n := by
  have q1 := R.sum0
  obtain ⟨S, hS⟩ : ∃ S : Nat, ws.sum = S := ⟨ws.sum.toNat, by omega⟩
  have eS : ws.sum.toNat = S := by omega
  have S0 : 0 < S := by omega
  obtain ⟨d, hd, hl⟩ : ∃ d, d ≤ 1 ∧ lapsOf ws n = dueLaps ws n + d := by
    unfold lapsOf dueLaps
    rw [eS]
    have a1 := Nat.div_add_mod n S
    have a2 := Nat.mod_lt n S0
    have a3 := Nat.div_add_mod (n - 1) S
    have a4 := Nat.mod_lt (n - 1) S0
    have b1 : (n - 1) / S ≤ n / S := Nat.div_le_div_right (by omega)
    have b2 : n / S ≤ (n - 1) / S + 1 := by
      have := Nat.div_le_div_right (c := S) (show n ≤ (n - 1) + S by omega)
      rw [Nat.add_div_right _ S0] at this
      exact this
    clear a1 a2 a3 a4
    generalize n / S = a at b1 b2 ⊢
    generalize (n - 1) / S = b at b1 b2 ⊢
    exact ⟨b - (a - 1), by omega, by omega⟩
  have hz : 1 ≤ (n : Int) - lapsOf ws n * ws.sum ∧ (n : Int) - lapsOf ws n * ws.sum ≤ ws.sum := by
    unfold lapsOf
    rw [eS, hS]
    have a3 := Nat.div_add_mod (n - 1) S
    have a4 := Nat.mod_lt (n - 1) S0
    have e : (((n - 1) / S : Nat) : Int) * (S : Int) = ((S * ((n - 1) / S) : Nat) : Int) := by rw [Nat.mul_comm, Int.natCast_mul]
    rw [e]
    omega
  have ez : (n : Int) - dueLaps ws n * ws.sum = ((n : Int) - lapsOf ws n * ws.sum) + d * ws.sum := by
    rw [hl, Int.natCast_add, Int.add_mul]
    omega
  unfold stripsL dueL
  rw [fits_gone, fits_gone, ez, List.map_flatMap, List.map_flatMap]
  refine flat_congr fun s _ => ?_
  rw [lens_laps R _ hz s d hd, List.map_map, List.map_map, List.map_map]
  refine List.map_congr_left fun l _ => ?_
  show (s, l + 1 + lapsOf ws n * ws.length) = (s, l + d * ws.length + 1 + dueLaps ws n * ws.length)
  rw [hl, Nat.add_mul]
  exact congrArg (Prod.mk s) (by omega)
/-- a is ahead of b, or b -/
def LeP (a b : Nat × Nat) : Prop := a.1 < b.1 ∨ (a.1 = b.1 ∧ a.2 ≤ b.2)
def minP (a y : Nat × Nat) : Nat × Nat := if y.1 < a.1 ∨ (y.1 = a.1 ∧ y.2 < a.2) then y else a
theorem fold_minP : ∀ (rs : List (Nat × Nat)) (r : Nat × Nat), rs.foldl minP r ∈ r :: rs ∧ ∀ y ∈ r :: rs, LeP (rs.foldl minP r) y
  | [], r => ⟨List.mem_cons_self, fun y hy => by
    rcases List.mem_cons.mp hy with rfl | h
    · exact .inr ⟨rfl, Nat.le_refl _⟩
    · cases h⟩
  | k :: rs, r => by
    obtain ⟨h1, h2⟩ := fold_minP rs (minP r k)
    rw [List.foldl_cons]
    have hm : (minP r k = k ∧ LeP k r) ∨ (minP r k = r ∧ LeP r k) := by
      unfold minP LeP
      by_cases c : k.1 < r.1 ∨ (k.1 = r.1 ∧ k.2 < r.2)
      · exact .inl ⟨if_pos c, by omega⟩
      · exact .inr ⟨if_neg c, by omega⟩
    have l0 := h2 _ List.mem_cons_self
    have tr : ∀ {a b c : Nat × Nat}, LeP a b → LeP b c → LeP a c := fun {a b c} x y => by
      unfold LeP at *
      omega
    constructor
    · rcases List.mem_cons.mp h1 with h | h
      · rw [h]
        rcases hm with ⟨e, _⟩ | ⟨e, _⟩
        · rw [e]
          exact List.mem_cons_of_mem _ List.mem_cons_self
        · rw [e]
          exact List.mem_cons_self
      · exact List.mem_cons_of_mem _ (List.mem_cons_of_mem _ h)
    · intro y hy
      have both : LeP (minP r k) r ∧ LeP (minP r k) k := by
        rcases hm with ⟨e, z⟩ | ⟨e, z⟩
        · rw [e]
          exact ⟨z, .inr ⟨rfl, Nat.le_refl _⟩⟩
        · rw [e]
          exact ⟨.inr ⟨rfl, Nat.le_refl _⟩, z⟩
      rcases List.mem_cons.mp hy with rfl | hy
      · exact tr l0 both.1
      · rcases List.mem_cons.mp hy with rfl | hy
        · exact tr l0 both.2
        · exact h2 y (List.mem_cons_of_mem _ hy)
theorem up_st {ws : List Int} (n0 : 0 < ws.length) (n : Nat) : win ws 0 n = up (st ws) n := by
  unfold win
  rw [upto_zero, upto_up n0, Nat.zero_add]
  omega
theorem win_one {ws : List Int} (n0 : 0 < ws.length) (n : Nat) : win ws n 1 = st ws n := by
  rw [win_up n0]
  simp [up]
theorem torn_len {ws : List Int} : tornL ws ws.length = ws := by
  unfold tornL
  simp
theorem torn_0 {ws : List Int} : tornL ws 0 = ws := by
  unfold tornL
  simp
end Pm
/-! ## What may be told -/
namespace Pr
open PySem L2 Lf Mi Pl Pm
/-! what may be told -/
def Fit (B : Nat) (d : PyData) : Prop := d.showable = true ∧ d.leavesShort B = true
theorem fit_int {i : Int} (h : i.natAbs < 10 ^ 200) : Fit 201 (.int i) := by
  constructor
  · simp only [PyData.showable]
    refine decide_eq_true ?_
    by_cases z : i.natAbs = 0
    · rw [z]
      decide
    · exact (Nat.log2_lt z).mpr (Nat.lt_of_lt_of_le h (by decide +kernel))
  · simp only [PyData.leavesShort]
    refine decide_eq_true ?_
    have e := int_text_length_le10 (k := 200) (by omega) h
    simp only [PyData.shown]
    rw [ofString_length]
    exact e
theorem fit_all {B : Nat} : ∀ {ds : List PyData}, (∀ d ∈ ds, Fit B d) → PyData.showableAll ds = true ∧ PyData.leavesShortAll B ds = true
  | [], _ => ⟨by simp only [PyData.showableAll], by simp only [PyData.leavesShortAll]⟩
  | d :: ds, h => by
    obtain ⟨a, b⟩ := fit_all (ds := ds) fun e he => h e (List.mem_cons_of_mem _ he)
    obtain ⟨c, e⟩ := h d List.mem_cons_self
    simp only [PyData.showableAll, PyData.leavesShortAll, a, b, c, e, Bool.and_self, and_self]
theorem fit_list {B : Nat} {ds : List PyData} (h : ∀ d ∈ ds, Fit B d) : Fit B (.list ds) := by
  obtain ⟨a, b⟩ := fit_all h
  exact ⟨by simp only [PyData.showable, a], by simp only [PyData.leavesShort, b]⟩
theorem fit_pair {B : Nat} {a b : PyData} (h1 : Fit B a) (h2 : Fit B b) : Fit B (.tuple [a, b]) := by
  obtain ⟨a, b⟩ := fit_all (B := B) (ds := [a, b]) fun d hd => by
    rcases List.mem_cons.mp hd with rfl | hd
    · exact h1
    · rw [List.mem_singleton.mp hd]
      exact h2
  exact ⟨by simp only [PyData.showable, a], by simp only [PyData.leavesShort, b]⟩
theorem told_ok {α : Type} [t : Shw α] {x : α} (f : Fit 201 (t.d x)) (b : (t.d x).bulk ≤ 40000) : told x = some (t.d x).shown := by
  have h := PyData.shown_le_bulk 201 (by omega) _ f.2
  have e : (201 + 2) * (t.d x).bulk ≤ 203 * 40000 := Nat.mul_le_mul_left _ b
  unfold told
  exact if_pos ⟨f.1, by rw [sizeLine_eq]; omega⟩
theorem bulk_map {α : Type} {f : α → PyData} {c : Nat} (h : ∀ x, (f x).bulk = c) : ∀ xs : List α, PyData.bulkAll (xs.map f) = (c + 1) * xs.length
  | [] => by simp only [List.map_nil, PyData.bulkAll, List.length_nil, Nat.mul_zero]
  | x :: xs => by
    rw [List.map_cons, List.length_cons, Nat.mul_succ, ← bulk_map h xs]
    simp only [PyData.bulkAll, h]
    omega
theorem told_ints {l : List Int} (h : ∀ x ∈ l, x.natAbs < 10 ^ 200) (n : l.length ≤ 40000) : ∃ s, told l = some s := by
  refine ⟨_, told_ok (x := l) (fit_list fun d hd => ?_) ?_⟩
  · obtain ⟨x, hx, rfl⟩ := List.mem_map.mp hd
    exact fit_int (h x hx)
  · show PyData.bulk (.list (l.map PyData.int)) ≤ 40000
    simp only [PyData.bulk]
    rw [bulk_map (c := 0) (fun x => by simp only [PyData.bulk])]
    omega
theorem fit_pr {p : Int × Int} (h : p.1.natAbs < 10 ^ 200 ∧ p.2.natAbs < 10 ^ 200) : Fit 201 (Dat.d p) := fit_pair (fit_int h.1) (fit_int h.2)
theorem told_pairs {l : List (Int × Int)} (h : ∀ p ∈ l, p.1.natAbs < 10 ^ 200 ∧ p.2.natAbs < 10 ^ 200) (n : l.length ≤ 13000) : ∃ s, told l = some s := by
  refine ⟨_, told_ok (x := l) (fit_list fun d hd => ?_) ?_⟩
  · obtain ⟨p, hp, rfl⟩ := List.mem_map.mp hd
    exact fit_pr (h p hp)
  · show PyData.bulk (.list (l.map fun p => PyData.tuple [.int p.1, .int p.2])) ≤ 40000
    simp only [PyData.bulk]
    rw [bulk_map (c := 2) (fun x => by simp only [PyData.bulk, PyData.bulkAll])]
    omega
theorem told_opt {o : Option (Int × Int)} (h : ∀ p, o = some p → p.1.natAbs < 10 ^ 200 ∧ p.2.natAbs < 10 ^ 200) : ∃ s, told o = some s := by
  cases o with
  | none => exact ⟨_, told_ok (x := (none : Option (Int × Int))) ⟨rfl, rfl⟩ (by show PyData.bulk .none ≤ _; simp only [PyData.bulk]; omega)⟩
  | some p =>
    refine ⟨_, told_ok (x := some p) (fit_pr (h p rfl)) ?_⟩
    show PyData.bulk (.tuple [.int p.1, .int p.2]) ≤ _
    simp only [PyData.bulk, PyData.bulkAll]
    omega
theorem told_bool (b : Bool) : ∃ s, told b = some s := ⟨_, told_ok (x := b) (by cases b <;> exact ⟨rfl, rfl⟩) (by show PyData.bulk (.bool b) ≤ _; simp only [PyData.bulk]; omega)⟩
end Pr
/-! ## Errors of all classes: what the law's parts tell of them -/
namespace Pr
open PySem L2 Lf Mi Pl Pm
theorem mapO_map {α β γ : Type} {f : α → Option (Option γ)} {g : β → α} : ∀ xs : List β, mapO f (xs.map g) = mapO (fun x => f (g x)) xs
  | [] => rfl
  | x :: xs => by
    rw [List.map_cons]
    unfold mapO
    rw [mapO_map xs]
theorem big {b : Nat} {i : Int} (h : i.natAbs < 2 ^ b) (hb : b ≤ 5000) : i.natAbs < 2 ^ 5000 := Nat.lt_of_lt_of_le h (pow_mono hb)
theorem cut_take {α : Type} {xs : List α} {k : Nat} (h : k ≤ xs.length) : cut xs none (some (k : Int)) = xs.take k := by
  have e : HT.sIx xs.length xs.length (some (k : Int)) = k := by
    rw [HT.sIx_nat]
    omega
  unfold cut
  rw [e]
  show (xs.drop 0).take (k - 0) = _
  rw [List.drop_zero, Nat.sub_zero]
theorem cut_drop {α : Type} {xs : List α} {k : Nat} (h : k ≤ xs.length) : cut xs (some (k : Int)) none = xs.drop k := by
  have e : HT.sIx xs.length 0 (some (k : Int)) = k := by
    rw [HT.sIx_nat]
    omega
  unfold cut
  rw [e]
  show (xs.drop k).take (xs.length - k) = _
  exact List.take_of_length_le (by rw [List.length_drop]; omega)
/-- the classes with a field, and its name -/
def cl : List (Str × Str) := [("InvalidNumber", "value"), ("InvalidAmount", "value"), ("InvalidList", "value"), ("InvalidWorth", "value"), ("InvalidRoll", "value"), ("InvalidCounter", "value"), ("InvalidStanding", "value"), ("InvalidMenu", "value"), ("InvalidText", "value"), ("InvalidPayment", "value"), ("NoPayment", "value"), ("InvalidName", "name"), ("TakenName", "name"), ("UnknownName", "name")]
def er (g : VV) (p : Str × Str) : Er := Er.mk p.1 (some p.2) g.v
def errs (g : VV) : List Er := cl.map (er g)
theorem placed_ok (g : VV) : m_l_placed g = .ok (errs g) := rfl
theorem named_ok (g : VV) : m_l_named g = .ok (errs g) := rfl
theorem bare_ok : m_l_bare = .ok (errs ⟨.non⟩) := rfl
theorem kinds_cls (e : Er) : m_l_kinds e = m_l_kinds ⟨e.cls, none, .non⟩ := rfl
theorem undo_ok : m_l_kinds (Er.mk "NothingToUndo" none .non) = .ok [14] := val_ok (by decide +kernel)
theorem kinds_all (g : VV) : mapO (fun (x116 : Er) => (Option.bind (Res.val (m_l_kinds x116)) fun y121 => (some (some y121)))) (errs g) = some ((List.range 14).map fun (i : Nat) => [(i : Int)]) := by
  unfold errs
  rw [mapO_map]
  have e : (fun p => (Option.bind (Res.val (m_l_kinds (er g p))) fun y121 => (some (some y121)))) = fun p : Str × Str => (Option.bind (Res.val (m_l_kinds ⟨p.1, none, .non⟩)) fun y121 => (some (some y121))) := by
    funext p
    rw [kinds_cls]
    rfl
  rw [e]
  decide +kernel
theorem fields_ok {g : VV} {f : Str} {L : List (Str × Str)} (h : ∀ p ∈ L, p.1 ∈ errL ∧ p.2 = f) : mapO (fun (x134 : Er) => (Option.bind (fldB errL f x134) fun y139 => (some (some (VV.mk y139))))) (L.map (er g)) = some (List.replicate L.length g) := by
  rw [mapO_map]
  have := mapO_ok (xs := L) (f := fun p => (Option.bind (fldB errL f (er g p)) fun y139 => (some (some (VV.mk y139))))) (g := fun _ => g) fun p hp => by
    obtain ⟨h1, h2⟩ := h p hp
    have e : fldB errL f (er g p) = some g.v := if_pos ⟨h1, by rw [← h2]; rfl⟩
    rw [e]
    rfl
  rw [this, List.map_const']
theorem right_ok {g : VV} {d : PyData} (td : TellD d) : m_l_right (errs g) g d = .ok true := by
  have l14 : (errs g).length = 14 := rfl
  unfold m_l_right
  rw [req_some (kinds_all g), req_some (irng_ups (n := 14) (by omega) (by omega) (by omega) (by omega))]
  refine if_neg' (by decide +kernel) ?_
  have c1 : cut (errs g) none (some (11 : Int)) = (cl.take 11).map (er g) := by
    rw [show (11 : Int) = ((11 : Nat) : Int) from rfl, cut_take (by rw [l14]; omega)]
    exact (List.map_take).symm
  have c2 : cut (errs g) (some (11 : Int)) none = (cl.drop 11).map (er g) := by
    rw [show (11 : Int) = ((11 : Nat) : Int) from rfl, cut_drop (by rw [l14]; omega)]
    exact (List.map_drop).symm
  rw [c1, c2]
  refine req_go (fields_ok (by decide +kernel)) (req_go (fields_ok (by decide +kernel)) (req_go (x := List.replicate 14 g) rfl ?_))
  have t14 : toldV g d (List.replicate 14 g) = some (PyData.list (List.replicate 14 d)).shown := by
    unfold toldV
    rw [if_pos]
    · rw [List.length_replicate]
    · refine ⟨fun x hx => (List.mem_replicate.mp hx).2, ?_⟩
      rw [List.length_replicate]
      exact td.sz
  refine req_go t14 (req_go (x := List.replicate 14 g) rfl (req_go t14 ?_))
  rw [decide_eq_true rfl]
/-! what can be told in a few signs -/
theorem short_reps {d : PyData} (h : d.leavesShort 201 = true) : ∀ n : Nat, PyData.leavesShortAll 201 (List.replicate n d) = true
  | 0 => by
    show PyData.leavesShortAll 201 [] = true
    simp only [PyData.leavesShortAll]
  | n + 1 => by
    rw [List.replicate_succ]
    simp only [PyData.leavesShortAll, h, short_reps h n, Bool.and_self]
theorem bulk_reps (d : PyData) : ∀ n : Nat, PyData.bulkAll (List.replicate n d) = (d.bulk + 1) * n
  | 0 => by
    show PyData.bulkAll [] = _
    simp only [PyData.bulkAll]
    omega
  | n + 1 => by
    rw [List.replicate_succ, Nat.mul_succ]
    simp only [PyData.bulkAll, bulk_reps d n]
    omega
theorem tellD_of {d : PyData} (h1 : d.showable = true) (h2 : d.leavesShort 201 = true) (h3 : d.depth ≤ 30) (h4 : d.bulk ≤ 100) : TellD d := by
  refine ⟨h1, h3, ?_⟩
  have s := PyData.shown_le_bulk 201 (by omega) (PyData.list (List.replicate 14 d)) (by simp only [PyData.leavesShort]; exact short_reps h2 14)
  have b : (PyData.list (List.replicate 14 d)).bulk = (d.bulk + 1) * 14 := by
    simp only [PyData.bulk]
    exact bulk_reps d 14
  have z : (201 + 2) * ((d.bulk + 1) * 14) ≤ 203 * (101 * 14) := Nat.mul_le_mul_left _ (Nat.mul_le_mul_right _ (by omega))
  rw [b] at s
  rw [sizeLine_eq]
  omega
theorem fitI {n : Int} (h : n.natAbs < 10 ^ 200) : (PyData.int n).showable = true ∧ (PyData.int n).leavesShort 201 = true := fit_int h
theorem td_int {n : Int} (h : n.natAbs < 10 ^ 200) : TellD (.int n) := tellD_of (fitI h).1 (fitI h).2 (by simp only [PyData.depth]; omega) (by simp only [PyData.bulk]; omega)
theorem td_str (s : Str) (h1 : (PyData.str s).showable = true) (h2 : (PyData.str s).leavesShort 201 = true) (h3 : s.cps.size ≤ 100) : TellD (.str s) := tellD_of h1 h2 (by simp only [PyData.depth]; omega) (by simp only [PyData.bulk]; exact h3)
end Pr
/-! ## What the counters' laws draw -/
namespace Pr
open PySem L2 Lf Mi Pl Pm
def Pu (m : Int) (l : List Int) : Prop := ∃ A B C : Int, l = [A, B, C] ∧ (0 ≤ A ∧ A < 2 ^ 2000) ∧ (0 ≤ B ∧ B < 2147483647) ∧ 0 ≤ C ∧ C ≤ m
theorem Pu.le {m m' : Int} {l : List Int} (h : Pu m l) (c : m ≤ m') : Pu m' l := by
  obtain ⟨A, B, C, e, a, b, c1, d⟩ := h
  exact ⟨A, B, C, e, a, b, c1, by omega⟩
theorem sq_ok {x : Int} {b : Nat} (h : x.natAbs < 2 ^ b) (hb : b ≤ 5000) : imul x x = some (x * x) := imul_ok (big h hb) (big h hb)
theorem mixed_ok {a b : Int} (hb : 0 ≤ b ∧ b < 2 ^ 60) : ∃ z, m_l_hash a b = .ok z ∧ 0 ≤ z ∧ z < 2147483587 := by
  have i1 : imul (7919 * b) b = some (7919 * b * b) := imul_ok (big (b := 80) (by omega) (by omega)) (big (b := 80) (by omega) (by omega))
  unfold m_l_hash
  rw [req_some i1, req_some rfl]
  generalize hx : (a * 1103515245 + 7919 * b * b + b + 1) % 2147483647 = x
  have x0 : 0 ≤ x := by rw [← hx]; exact Int.emod_nonneg _ (by omega)
  have x1 : x < 2147483647 := by rw [← hx]; exact Int.emod_lt_of_pos _ (by omega)
  rw [req_some (sq_ok (b := 40) (by omega) (by omega)), req_some rfl]
  exact ⟨_, rfl, Int.emod_nonneg _ (by omega), Int.emod_lt_of_pos _ (by omega)⟩
theorem pow_b : ((10 ^ 60 : Int) ^ (10 : Int).toNat) < 2 ^ 2000 := by decide +kernel
theorem pow_p : (0 : Int) < ((10 ^ 60 : Int) ^ (10 : Int).toNat) := by decide +kernel
theorem pow_o : ipow ((10 : Int) ^ 60) (10 : Int) = some ((10 ^ 60 : Int) ^ (10 : Int).toNat) := by
  unfold ipow
  exact if_pos (by decide +kernel)
theorem cell_ok (s : Sc) (k : Nat) : ∃ z, m_l_cell s (k : Int) = .ok z := by
  unfold m_l_cell
  by_cases c : (k : Int) < (s.l.length : Int)
  · rw [if_pos (decide_eq_true c)]
    have l : k < s.l.length := by omega
    exact ⟨_, req_go (atI_nat' (List.getElem?_eq_getElem l)) rfl⟩
  · rw [if_neg (by rw [decide_eq_false c]; decide)]
    exact ⟨_, rfl⟩
theorem gen_ok (s : Sc) (k : Nat) (hk : k ≤ 10) : ∃ l, m_l_generator s (k : Int) = .ok l ∧ Pu 10000 l := by
  obtain ⟨z, e⟩ := cell_ok s k
  unfold m_l_generator
  rw [req_val e, req_some pow_o, req_some (imod_ok pow_p)]
  exact ⟨_, rfl, _, _, _, rfl, ⟨Int.emod_nonneg _ (Int.ne_of_gt pow_p), Int.lt_trans (Int.emod_lt_of_pos _ pow_p) pow_b⟩, ⟨Int.emod_nonneg _ (by omega), Int.emod_lt_of_pos _ (by omega)⟩, by omega, by omega⟩
theorem at0 (A B C : Int) : atI [A, B, C] (0 : Int) = some A := rfl
theorem at1 (A B C : Int) : atI [A, B, C] (1 : Int) = some B := rfl
theorem at2 (A B C : Int) : atI [A, B, C] (2 : Int) = some C := rfl
theorem set0 (A B C x : Int) : setAt [A, B, C] (0 : Int) x = some [x, B, C] := rfl
theorem set2 (A B C x : Int) : setAt [A, B, C] (2 : Int) x = some [A, B, x] := rfl
theorem bits_b {n : Int} {b : Nat} (h : n.natAbs < 2 ^ b) : Builtin.Int.intBits n ≤ b := by
  unfold Builtin.Int.intBits
  split
  · exact Nat.zero_le _
  · rename_i c
    have c0 : n.natAbs ≠ 0 := fun z => c (by rw [Int.natAbs_eq_zero.mp z]; rfl)
    exact (Nat.log2_lt c0).mpr h
theorem draw_ok {l : List Int} {m n : Int} (h : Pu m l) (hm : m ≤ 2 ^ 40) (hn : 1 ≤ n ∧ n < 2 ^ 110) : ∃ z l', m_l_random l n = .ok (z, l') ∧ Pu (m + 5) l' ∧ 0 ≤ z ∧ z < n := by
  obtain ⟨A, B, C, rfl, ⟨a0, a1⟩, ⟨b0, b1⟩, c0, c1⟩ := h
  unfold m_l_random
  rw [req_some (at0 A B C)]
  by_cases p : 0 < A
  · rw [if_pos (decide_eq_true p), req_some (at0 A B C), req_some (imod_ok (by omega)), req_some (at0 A B C), req_some (ifdiv_ok (by omega) (big (b := 110) (by omega) (by omega))), req_some (set0 A B C _)]
    exact ⟨_, _, rfl, ⟨A / n, B, C, rfl, ⟨Int.ediv_nonneg a0 (by omega), Int.lt_of_le_of_lt (Int.ediv_le_self _ a0) a1⟩, ⟨b0, b1⟩, c0, by omega⟩, Int.emod_nonneg _ (by omega), Int.emod_lt_of_pos _ (by omega)⟩
  · have hb : Builtin.Int.intBits n ≤ 110 := bits_b (by omega)
    rw [if_neg (by rw [decide_eq_false p]; decide), req_some (irng_ups (n := 1 + Builtin.Int.intBits n / 30) (by omega) (by omega) (by omega) (by omega))]
    obtain ⟨s, e, x, rfl⟩ : ∃ s, Res.fold (fun (s182 : Int × (List Int)) (x183 : Int) =>
        Res.req (atI s182.2 (2 : Int)) fun y184 =>
        Res.req (setAt s182.2 (2 : Int) (y184 + (1 : Int))) fun y186 =>
        Res.req (atI y186 (1 : Int)) fun y188 =>
        Res.req (atI y186 (2 : Int)) fun y190 =>
        Res.req (Res.val (m_l_hash y188 y190)) fun y192 =>
        Res.req (some ((s182.1 * (2147483587 : Int)) + y192)) fun y194 =>
        .ok (y194, y186)) (ups 0 (1 + Builtin.Int.intBits n / 30)) ((0 : Int), [A, B, C]) = .ok s ∧ ∃ x, s = (x, [A, B, C + ((ups 0 (1 + Builtin.Int.intBits n / 30)).length : Int)]) :=
      fold_inv (fun i s => ∃ x, s = (x, [A, B, C + (i : Int)])) ⟨0, by rw [show C + ((0 : Nat) : Int) = C by omega]⟩ (fun i y s hy h => by
        obtain ⟨x, rfl⟩ := h
        obtain ⟨hi, _⟩ := ups_at hy
        obtain ⟨z, ez, _⟩ := mixed_ok (a := B) (b := C + (i : Int) + 1) ⟨by omega, by omega⟩
        rw [req_some (at2 A B _), req_some (set2 A B _ _), req_some (at1 A B _), req_some (at2 A B _), req_val ez, req_some rfl]
        exact ⟨_, rfl, _, by rw [show C + ((i + 1 : Nat) : Int) = C + (i : Int) + 1 by omega]⟩)
    rw [bind_ok e, req_some (imod_ok (by omega)), ups_len]
    exact ⟨_, _, rfl, ⟨A, B, _, rfl, ⟨a0, a1⟩, ⟨b0, b1⟩, by omega, by omega⟩, Int.emod_nonneg _ (by omega), Int.emod_lt_of_pos _ (by omega)⟩
end Pr
/-! ## The values of the law's loop can be told -/
namespace Pr
open PySem L2 Lf Mi Pl Pm
section
variable {n : Int} (h : n.natAbs < 10 ^ 200)
theorem td_12 : TellD (.tuple ([(1 : Int), 2].map .int)) := by
  show TellD (.tuple [.int 1, .int 2])
  refine tellD_of ?_ ?_ ?_ ?_ <;> simp only [PyData.showable, PyData.showableAll, PyData.showableKv, PyData.leavesShort, PyData.leavesShortAll, PyData.leavesShortKv, PyData.depth, PyData.depthAll, PyData.depthKv, PyData.bulk, PyData.bulkAll, PyData.bulkKv] <;> decide +kernel
theorem td_t0 : TellD (.tuple (([] : List Int).map .int)) := by
  show TellD (.tuple [])
  refine tellD_of ?_ ?_ ?_ ?_ <;> simp only [PyData.showable, PyData.showableAll, PyData.showableKv, PyData.leavesShort, PyData.leavesShortAll, PyData.leavesShortKv, PyData.depth, PyData.depthAll, PyData.depthKv, PyData.bulk, PyData.bulkAll, PyData.bulkKv] <;> decide +kernel
theorem td_1 : TellD (.list [.int 1]) := by
  refine tellD_of ?_ ?_ ?_ ?_ <;> simp only [PyData.showable, PyData.showableAll, PyData.showableKv, PyData.leavesShort, PyData.leavesShortAll, PyData.leavesShortKv, PyData.depth, PyData.depthAll, PyData.depthKv, PyData.bulk, PyData.bulkAll, PyData.bulkKv] <;> decide +kernel
theorem td_1m : TellD (.list [.int 1, .str "more"]) := by
  refine tellD_of ?_ ?_ ?_ ?_ <;> simp only [PyData.showable, PyData.showableAll, PyData.showableKv, PyData.leavesShort, PyData.leavesShortAll, PyData.leavesShortKv, PyData.depth, PyData.depthAll, PyData.depthKv, PyData.bulk, PyData.bulkAll, PyData.bulkKv] <;> decide +kernel
theorem td_0 : TellD (.list []) := by
  refine tellD_of ?_ ?_ ?_ ?_ <;> simp only [PyData.showable, PyData.showableAll, PyData.showableKv, PyData.leavesShort, PyData.leavesShortAll, PyData.leavesShortKv, PyData.depth, PyData.depthAll, PyData.depthKv, PyData.bulk, PyData.bulkAll, PyData.bulkKv] <;> decide +kernel
theorem td_0m : TellD (.list [.str "more"]) := by
  refine tellD_of ?_ ?_ ?_ ?_ <;> simp only [PyData.showable, PyData.showableAll, PyData.showableKv, PyData.leavesShort, PyData.leavesShortAll, PyData.leavesShortKv, PyData.depth, PyData.depthAll, PyData.depthKv, PyData.bulk, PyData.bulkAll, PyData.bulkKv] <;> decide +kernel
theorem td_s1 : TellD (.str "a b") := by
  refine tellD_of ?_ ?_ ?_ ?_ <;> simp only [PyData.showable, PyData.showableAll, PyData.showableKv, PyData.leavesShort, PyData.leavesShortAll, PyData.leavesShortKv, PyData.depth, PyData.depthAll, PyData.depthKv, PyData.bulk, PyData.bulkAll, PyData.bulkKv] <;> decide +kernel
theorem td_s0 : TellD (.str "") := by
  refine tellD_of ?_ ?_ ?_ ?_ <;> simp only [PyData.showable, PyData.showableAll, PyData.showableKv, PyData.leavesShort, PyData.leavesShortAll, PyData.leavesShortKv, PyData.depth, PyData.depthAll, PyData.depthKv, PyData.bulk, PyData.bulkAll, PyData.bulkKv] <;> decide +kernel
theorem td_el : TellD (.str "elder") := by
  refine tellD_of ?_ ?_ ?_ ?_ <;> simp only [PyData.showable, PyData.showableAll, PyData.showableKv, PyData.leavesShort, PyData.leavesShortAll, PyData.leavesShortKv, PyData.depth, PyData.depthAll, PyData.depthKv, PyData.bulk, PyData.bulkAll, PyData.bulkKv] <;> decide +kernel
theorem td_b : TellD (.bool true) := by
  refine tellD_of ?_ ?_ ?_ ?_ <;> simp only [PyData.showable, PyData.showableAll, PyData.showableKv, PyData.leavesShort, PyData.leavesShortAll, PyData.leavesShortKv, PyData.depth, PyData.depthAll, PyData.depthKv, PyData.bulk, PyData.bulkAll, PyData.bulkKv] <;> decide +kernel
theorem td_n : TellD .none := by
  refine tellD_of ?_ ?_ ?_ ?_ <;> simp only [PyData.showable, PyData.showableAll, PyData.showableKv, PyData.leavesShort, PyData.leavesShortAll, PyData.leavesShortKv, PyData.depth, PyData.depthAll, PyData.depthKv, PyData.bulk, PyData.bulkAll, PyData.bulkKv] <;> decide +kernel
theorem td_f2 : TellD (.tuple [.str "f", .int 2]) := by
  refine tellD_of ?_ ?_ ?_ ?_ <;> simp only [PyData.showable, PyData.showableAll, PyData.showableKv, PyData.leavesShort, PyData.leavesShortAll, PyData.leavesShortKv, PyData.depth, PyData.depthAll, PyData.depthKv, PyData.bulk, PyData.bulkAll, PyData.bulkKv] <;> decide +kernel
theorem td_e : TellD (dicD ⟨[]⟩) := by
  show TellD (.dict [])
  refine tellD_of ?_ ?_ ?_ ?_ <;> simp only [PyData.showable, PyData.showableAll, PyData.showableKv, PyData.leavesShort, PyData.leavesShortAll, PyData.leavesShortKv, PyData.depth, PyData.depthAll, PyData.depthKv, PyData.bulk, PyData.bulkAll, PyData.bulkKv] <;> decide +kernel
theorem td_em : TellD (dicD ⟨[("more", [1])]⟩) := by
  show TellD (.dict [(.str "more", .list [.int 1])])
  refine tellD_of ?_ ?_ ?_ ?_ <;> simp only [PyData.showable, PyData.showableAll, PyData.showableKv, PyData.leavesShort, PyData.leavesShortAll, PyData.leavesShortKv, PyData.depth, PyData.depthAll, PyData.depthKv, PyData.bulk, PyData.bulkAll, PyData.bulkKv] <;> decide +kernel
include h
theorem td_a : TellD (dicD ⟨[("a", [n])]⟩) := by
  show TellD (.dict [(.str "a", .list [.int n])])
  obtain ⟨h1, h2⟩ := fitI h
  refine tellD_of ?_ ?_ ?_ ?_
  · simp only [PyData.showable, PyData.showableAll, PyData.showableKv] at h1 ⊢
    rw [h1]
    rfl
  · have a : (PyData.str "a").leavesShort 201 = true := by simp only [PyData.leavesShort]; decide +kernel
    simp only [PyData.leavesShortKv, PyData.leavesShort, PyData.leavesShortAll] at h2 a ⊢
    rw [h2, a]
    rfl
  · simp only [PyData.depth, PyData.depthAll, PyData.depthKv]
    omega
  · simp only [PyData.bulk, PyData.bulkAll, PyData.bulkKv]
    decide +kernel
theorem td_am : TellD (dicD ⟨[("a", [n]), ("more", [1])]⟩) := by
  show TellD (.dict [(.str "a", .list [.int n]), (.str "more", .list [.int 1])])
  obtain ⟨h1, h2⟩ := fitI h
  obtain ⟨g1, g2⟩ := fitI (n := 1) (by decide +kernel)
  refine tellD_of ?_ ?_ ?_ ?_
  · simp only [PyData.showable, PyData.showableAll, PyData.showableKv] at h1 g1 ⊢
    rw [h1, g1]
    rfl
  · have a : (PyData.str "a").leavesShort 201 = true := by simp only [PyData.leavesShort]; decide +kernel
    have b : (PyData.str "more").leavesShort 201 = true := by simp only [PyData.leavesShort]; decide +kernel
    simp only [PyData.leavesShortKv, PyData.leavesShort, PyData.leavesShortAll] at h2 g2 a b ⊢
    rw [h2, g2, a, b]
    rfl
  · simp only [PyData.depth, PyData.depthAll, PyData.depthKv]
    omega
  · simp only [PyData.bulk, PyData.bulkAll, PyData.bulkKv]
    decide +kernel
theorem putE : (⟨[]⟩ : Dic Str (List Int)).put "more" [1] = some ⟨[("more", [1])]⟩ := by
  unfold Dic.put
  rw [if_pos (by show 0 < sizeLine; decide)]
  rfl
theorem putA : (⟨[("a", [n])]⟩ : Dic Str (List Int)).put "more" [1] = some ⟨[("a", [n]), ("more", [1])]⟩ := by
  unfold Dic.put
  rw [if_pos (by show 1 < sizeLine; decide)]
  have e' : ¬ ("a" : Str) = "more" := by decide +kernel
  unfold putL
  rw [if_neg (by
    simp only [List.any_cons, List.any_nil, Bool.or_false, decide_eq_true_eq]
    exact e')]
  rfl
end
end Pr
namespace Mi
open PySem PySem.Spec PyProof.Rows L2 He Lf RC Pr
open PySem.W (Frag)
section
variable {w : World} {K : Frag} {mg : Str → Option Value} {base : Heap}
theorem dE_1 : (PV.lst [.int 1]).dE = some (.list [.int 1]) := by simp only [PV.dE, PV.dEs, Option.map]
theorem dE_0 : (PV.lst []).dE = some (.list []) := by simp only [PV.dE, PV.dEs, Option.map]
theorem dE_m : PV.dE (.str "more") = some (.str "more") := by
  unfold PV.dE
  rw [if_pos (by decide +kernel)]
theorem dE_1m : (PV.lst ([.int 1] ++ [.str "more"])).dE = some (.list [.int 1, .str "more"]) := by
  show (PV.lst [.int 1, .str "more"]).dE = _
  have := dE_m
  simp only [PV.dE, PV.dEs, Option.map] at this ⊢
  rw [this]
theorem dE_0m : (PV.lst ([] ++ [.str "more"])).dE = some (.list [.str "more"]) := by
  show (PV.lst [.str "more"]).dE = _
  have := dE_m
  simp only [PV.dE, PV.dEs, Option.map] at this ⊢
  rw [this]
theorem set_at {ω : List Ent} {k : Nat} {a b : Ent} (h : ω[k]? = some a) : (ω.set k b)[k]? = some b := List.getElem?_set_self (List.getElem?_eq_some_iff.mp h).1
theorem app_ok {α : Type} {xs : List α} {x : α} (h : xs.length ≤ 10) : Lf.app xs x = some (xs ++ [x]) := if_pos (by
  have : (11 : Nat) ≤ sizeLine := by decide
  omega)
def m_law (_law_script : Sc) : Res Bool := .ok true
def sp_law (K : Frag) : Sp := fun vs H Q E => ∃ (_law_script : Sc) (ω : List Ent) (G : Hp), _law_script.l.length ≤ 63 ∧ PArgs G vs [is K _law_script] ∧ At G (ω) H ∧ Says K G (ω) (m_law _law_script) (fun (r : Bool) => RS.val (is K r) (ω)) Q E
theorem use_law {E : XK} {ω : List Ent} {_law_script : Sc} (hsc : _law_script.l.length ≤ 63) : SpR K (sp_law K) E [is K _law_script] ω ω (m_law _law_script) (fun (r : Bool) => RS.val (is K r) (ω)) := fun G H vs Q pa w s => ⟨_law_script, ω, G, hsc, pa, w, s⟩
/-- an error list tells that it is right -/
theorem ev_right {tl tg : TE} {E : XK} {Γ : Gm} {ω : List Ent} {g : VV} {d : PyData} {t : String} (td : TellD d) (h1 : EvX tl Γ ω ω (is K (errs g))) (h2 : EvX tg Γ ω ω (tel K ω g d t)) : EvT (tNot (tB (tCall (sp_l_right K) [] E (tCons tl (tCons tg tNil))))) Γ ω ω false :=
  EvT.not (EvT.B (EvX.call (EvA.cons h1 (EvA.cons h2 EvA.nil)) (use_l_right td) (right_ok td) rfl))
theorem ev_or {t u : TT} {Γ : Gm} {ω : List Ent} (h1 : EvT t Γ ω ω false) (h2 : EvT u Γ ω ω false) : EvT (tOr t u) Γ ω ω false := EvT.orO (o := some false) h1 (fun _ _ => h2) rfl
theorem ev_g {Γ : Gm} {ω : List Ent} (a : TV) (h : Γ[3]? = some (some (is K a))) : EvX (tVar 3) Γ ω ω (is K a.g) := (EvX.var h).as fun _ _ p => p.1
theorem ev_a {Γ : Gm} {ω : List Ent} (p : Addr) (d : Option (PyData × String)) (h : Γ[3]? = some (some (is K (TV.mk ⟨.ref p⟩ d)))) : EvX (tVar 3) Γ ω ω (adr p) := (EvX.var h).as fun _ _ p => p.1
theorem ok_law (T : Txt K mg) : RC.FnOkG PR w K mg base (L2.CX PR w) 3 (He.fAd K ("law", none)) T.fd_law ["_law_script"] (sp_law K) := by
  refine RC.okG T.F_law sc_law (fun vs H Q E h => ?_) (fun cdv A outer s H vs Q E hg hr h => ⟨_, PSs.nox ((pss_cons (ps_set (i := 1) sc_law.nd rfl (by first | exact .inl rfl | exact .inr rfl) (pe_call (ok_l_random T) (hr.mono (by decide)) rfl T.g_l_random T.F_l_random.kp (b_l_random T) .nil passF (pa_cons (pe_call (ok_l_generator T) (hr.mono (by decide)) rfl T.g_l_generator T.F_l_generator.kp (b_l_generator T) .nil passF (pa_cons (pv 0) (pa_cons pe_int pa_nil))) (pa_cons (pe_op op_pow pe_int pe_int) pa_nil))))
      (pss_cons (ps_set (i := 2) sc_law.nd rfl (by first | exact .inl rfl | exact .inr rfl) (pe_lst (pa_cons (pe_call (ok_l_placed T) (hr.mono (by decide)) rfl T.g_l_placed T.F_l_placed.kp (b_l_placed T) .nil passF (pa_cons (pv 1) pa_nil)) (pa_cons (pe_call (ok_l_named T) (hr.mono (by decide)) rfl T.g_l_named T.F_l_named.kp (b_l_named T) .nil passF (pa_cons pe_str pa_nil)) pa_nil))))
      (pss_cons (ps_for PassesOwn.never rfl (pi_list (pe_lst (pa_cons (pv 1) (pa_cons (pe_op op_sub pe_int (pv 1)) (pa_cons (pe_tup (pa_cons pe_int (pa_cons pe_int pa_nil))) (pa_cons (pe_tup pa_nil) (pa_cons (pe_lst (pa_cons pe_int pa_nil)) (pa_cons (pe_lst pa_nil) (pa_cons pe_dnewK (pa_cons (pe_disp (pps_cons pe_str (pe_lst (pa_cons (pv 1) pa_nil)) pps_nil) rfl rfl (by intro z; cases z) (by decide)) (pa_cons pe_str (pa_cons pe_str (pa_cons pe_bl (pa_cons pe_non (pa_cons (pe_tup (pa_cons pe_str (pa_cons pe_int pa_nil))) pa_nil))))))))))))))) (pg_name (i := 3) sc_law.nd rfl (by first | exact .inl rfl | exact .inr rfl))
      (pss_cons (ps_par (i := 4) (j := 5) rfl sc_law.nd rfl rfl (by decide) rfl rfl (pa_cons (pe_call (ok_l_placed T) (hr.mono (by decide)) rfl T.g_l_placed T.F_l_placed.kp (b_l_placed T) .nil passF (pa_cons (pv 3) pa_nil)) (pa_cons (pe_call (ok_l_named T) (hr.mono (by decide)) rfl T.g_l_named T.F_l_named.kp (b_l_named T) .nil passF (pa_cons (pv 3) pa_nil)) pa_nil)) rfl)
      (pss_cons (ps_if (PW.pt (pw_or (pt_not (pt_val (RC.pe_callG (ok_l_right T) hg (hr.mono (by decide)) rfl T.g_l_right T.F_l_right.kp (b_l_right T) .nil passF (pa_cons (pv 4) (pa_cons (pv 3) pa_nil))))) (pw_or1 (pt_not (pt_val (RC.pe_callG (ok_l_right T) hg (hr.mono (by decide)) rfl T.g_l_right T.F_l_right.kp (b_l_right T) .nil passF (pa_cons (pv 5) (pa_cons (pv 3) pa_nil)))))))) (pss_one (ps_ret pe_bl)) pss_nil)
      (pss_cons (ps_if (pt_val (pe_callB call_isi rfl T.fr_isinstance (by decide +kernel) (pa_cons (pv 3) (pa_cons (pe_bltn (v := .ty "list") rfl T.fr_list (by decide +kernel) rfl) pa_nil)))) (pss_one (ps_expr (pe_bm PySem.F.plainAttrs_list PySem.F.slot_list_append PySem.F.type_list_append mt_append (pv 3) (pa_cons pe_str pa_nil)))) pss_nil)
      (pss_cons (ps_if (pt_val (pe_callB call_isi rfl T.fr_isinstance (by decide +kernel) (pa_cons (pv 3) (pa_cons (pe_bltn (v := .ty "dict") rfl T.fr_dict (by decide +kernel) rfl) pa_nil)))) (pss_one (ps_dput (hu_of hr) (pv 3) pe_str (pe_lst (pa_cons pe_int pa_nil)) rfl)) pss_nil)
      (pss_one (ps_if (PW.pt (pw_or (pt_not (pt_val (RC.pe_callG (ok_l_right T) hg (hr.mono (by decide)) rfl T.g_l_right T.F_l_right.kp (b_l_right T) .nil passF (pa_cons (pv 4) (pa_cons (pv 3) pa_nil))))) (pw_or1 (pt_not (pt_val (RC.pe_callG (ok_l_right T) hg (hr.mono (by decide)) rfl T.g_l_right T.F_l_right.kp (b_l_right T) .nil passF (pa_cons (pv 5) (pa_cons (pv 3) pa_nil)))))))) (pss_one (ps_ret pe_bl)) pss_nil)))))))
      (pss_cons (ps_if (PW.pt (pw_or (pt_not (pt_val (RC.pe_callG (ok_l_right T) hg (hr.mono (by decide)) rfl T.g_l_right T.F_l_right.kp (b_l_right T) .nil passF (pa_cons (pe_ix ix_list (pv 2) pe_int (fun _ _ => rfl)) (pa_cons (pv 1) pa_nil))))) (pw_or (pt_not (pt_val (RC.pe_callG (ok_l_right T) hg (hr.mono (by decide)) rfl T.g_l_right T.F_l_right.kp (b_l_right T) .nil passF (pa_cons (pe_ix ix_list (pv 2) pe_int (fun _ _ => rfl)) (pa_cons pe_str pa_nil))))) (pw_or1 (pt_not (pt_val (RC.pe_callG (ok_l_right T) hg (hr.mono (by decide)) rfl T.g_l_right T.F_l_right.kp (b_l_right T) .nil passF (pa_cons (pe_call0 (ok_l_bare T) (hr.mono (by decide)) rfl T.g_l_bare T.F_l_bare.kp (b_l_bare T) .nil passF) (pa_cons pe_non pa_nil))))))))) (pss_one (ps_ret pe_bl)) pss_nil)
      (pss_one (ps_ret (pe_cmpR (op_eqD hr.units) (pe_call (ok_l_kinds T) (hr.mono (by decide)) rfl T.g_l_kinds T.F_l_kinds.kp (b_l_kinds T) .nil passF (pa_cons (RC.pe_mkU T.uU T.g_NothingToUndo) pa_nil)) (pe_lst (pa_cons pe_int pa_nil)) (nomark _))))))))), ?_⟩)
  · obtain ⟨_, _, _, _, pa, _, _⟩ := h
    exact pa.len
  · obtain ⟨_law_script, ω, G, hsc, pa, wA, sy⟩ := h
    try dsimp only [L2.cxOf, L2.Cx.nox, L2.Cx.wish]
    obtain ⟨l, hl, pu⟩ := gen_ok _law_script 0 (by omega)
    obtain ⟨z, l', hz, _, z0, z1⟩ := draw_ok (n := 10 ^ 12) pu (by omega) ⟨by decide, by decide +kernel⟩
    have zb : z.natAbs < 10 ^ 200 := Nat.lt_of_lt_of_le (show z.natAbs < 10 ^ 12 by omega) (by decide +kernel)
    have zn : (0 - z).natAbs < 10 ^ 200 := Nat.lt_of_lt_of_le (show (0 - z).natAbs < 10 ^ 12 by omega) (by decide +kernel)
    refine Go.fin (Γ := [some (is K _law_script), none, none, none, none, none]) (fo := (fun (r : Bool) => RS.val (is K r) (ω))) (ω := ω) (ωe := ω) (?_) pa rfl wA sy
    unfold m_law
    refine Go.asg (i := 1) (m := is K z) (EvX.first (EvF.call (EvA.cons (EvX.var (i := 0) rfl) (EvA.cons EvX.int EvA.nil)) (use_l_generator hsc) hl rfl) fun p => EvX.dr (EvX.call (EvA.cons EvX.cA (EvA.cons (EvX.op EvX.int EvX.int (OpX.powK ⟨by decide, by decide, by decide⟩)) EvA.nil)) (use_l_random (k := 0) rfl) hz rfl) (Dr.drop (Dr.refl _))) ?_
    refine Go.asg (i := 2) (m := is K [errs ⟨.int z⟩, errs ⟨.str "elder"⟩]) (EvX.fr (EvF.lst (EvA.cons (EvX.call (EvA.cons (EvX.vI (EvX.var (i := 1) rfl)) EvA.nil) (use_l_placed) (placed_ok _) rfl) (EvA.cons (EvX.call (EvA.cons (EvX.vS EvX.str) EvA.nil) (use_l_named) (named_ok _) rfl) EvA.nil)) rfl (by show 2 ≤ sizeLine; decide))) ?_
    refine Go.forE (Γ0 := [some (is K _law_script), some (is K z), some (is K [errs ⟨.int z⟩, errs ⟨.str "elder"⟩]), none, none, none]) (EvM.mono
      (EvM.pl (tells_int z) (EvX.var (i := 1) rfl) <| EvM.pl (tells_int (0 - z)) (EvX.op EvX.int (EvX.var (i := 1) rfl) OpX.sub) <| EvM.pl (tells_tu ⟨[1, 2]⟩) (EvX.tu (EvA.cons EvX.int (EvA.cons EvX.int EvA.nil)) rfl (by show 2 ≤ sizeLine; decide)) <|
       EvM.pl (tells_tu ⟨[]⟩) (EvX.tu EvA.nil rfl (by show 0 ≤ sizeLine; decide)) <| EvM.ow (φ := olst K [PV.int 1]) (EvF.lst (EvA.cons (EvX.any EvX.int) EvA.nil) rfl (by show 1 ≤ sizeLine; decide)) fun p4 => EvM.ow (φ := olst K ([] : List PV)) (EvF.lst EvA.nil rfl (by show 0 ≤ sizeLine; decide)) fun p5 =>
       EvM.ow (φ := odic K (⟨[]⟩ : Dic Str (List Int))) EvF.dnew fun p6 => EvM.ow (φ := odic K (⟨[("a", [z])]⟩ : Dic Str (List Int))) (EvF.done (fun _ => EvX.str) fun _ => EvX.fr (EvF.lst (EvA.cons (EvX.var (i := 1) rfl) EvA.nil) rfl (by show 1 ≤ sizeLine; decide))) fun p7 =>
       EvM.pl (tells_str "a b" (by decide +kernel)) EvX.str <| EvM.pl (tells_str "" (by decide +kernel)) EvX.str <| EvM.pl (tells_bool true) EvX.bl <| EvM.pl (tells_non ()) EvX.unit <|
       EvM.pl (tells_p2 (tells_str "f" (by decide +kernel)) (tells_int 2)) (EvX.pair (EvA.cons EvX.str (EvA.cons EvX.int EvA.nil))) EvM.nil) ?_) (Sub.refl _) TgX.name ?_ ?_
    · rintro xs ω1 ⟨v0, _, rfl, v1, _, rfl, v2, _, rfl, v3, _, rfl, p4, _, rfl, p5, _, rfl, p6, _, rfl, p7, _, rfl, v8, _, rfl, v9, _, rfl, v10, _, rfl, v11, _, rfl, v12, _, rfl, rfl, rfl⟩
      refine ⟨by simp only [List.length_cons, List.length_nil]; omega, .own p7 (odic K (⟨[("a", [z]), ("more", [1])]⟩ : Dic Str (List Int))) :: .own p6 (odic K (⟨[("more", [1])]⟩ : Dic Str (List Int))) :: .own p5 (olst K ([] ++ [PV.str "more"])) :: .own p4 (olst K ([PV.int 1] ++ [PV.str "more"])) :: ω, ?_, ?_⟩
      · refine .cons (.plain _ _ _ (td_int zb) (kit_ty (by decide +kernel)) (kit_ty (by decide +kernel))) ?_
        refine .cons (.plain _ _ _ (td_int zn) (kit_ty (by decide +kernel)) (kit_ty (by decide +kernel))) ?_
        refine .cons (.plain _ _ _ td_12 (kit_ty (by decide +kernel)) (kit_ty (by decide +kernel))) ?_
        refine .cons (.plain _ _ _ td_t0 (kit_ty (by decide +kernel)) (kit_ty (by decide +kernel))) ?_
        refine .cons (.list p4 3 _ _ _ rfl dE_1 dE_1m td_1 td_1m (by decide)) ?_
        refine .cons (.list p5 2 _ _ _ rfl dE_0 dE_0m td_0 td_0m (by decide)) ?_
        refine .cons (.dict p6 1 _ _ rfl (putE zb) (by decide +kernel) (by decide +kernel) td_e td_em) ?_
        have ka : PyData.strOk "a" = true := by decide +kernel
        have km : PyData.strOk "more" = true := by decide +kernel
        refine .cons (.dict p7 0 _ _ rfl (putA zb) (by
          intro q hq
          cases hq with
          | head => exact ka
          | tail _ hq => cases hq) (by
          intro q hq
          cases hq with
          | head => exact ka
          | tail _ hq => cases hq with
            | head => exact km
            | tail _ hq => cases hq) (td_a zb) (td_am zb)) ?_
        refine .cons (.plain _ _ _ td_s1 (kit_ty (by decide +kernel)) (kit_ty (by decide +kernel))) ?_
        refine .cons (.plain _ _ _ td_s0 (kit_ty (by decide +kernel)) (kit_ty (by decide +kernel))) ?_
        refine .cons (.plain _ _ _ td_b (kit_ty (by decide +kernel)) (kit_ty (by decide +kernel))) ?_
        refine .cons (.plain _ _ _ td_n (kit_ty (by decide +kernel)) (kit_ty (by decide +kernel))) ?_
        exact .cons (.plain _ _ _ td_f2 (kit_ty (by decide +kernel)) (kit_ty (by decide +kernel))) .nil
      · exact Dr.drop (Dr.drop (Dr.drop (Dr.drop (Dr.refl _))))
    · intro a ω1 ω2 st
      cases st with
      | plain g d t td n1 n2 =>
        refine Go.par (i := 4) (j := 5) (EvA.cons (EvX.call (EvA.cons (show EvX (tVar 3) _ ω1 ω1 (is K g) from ev_g ⟨g, some (d, t)⟩ rfl) EvA.nil) (use_l_placed) (placed_ok _) rfl) (EvA.cons (EvX.call (EvA.cons (show EvX (tVar 3) _ ω1 ω1 (is K g) from ev_g ⟨g, some (d, t)⟩ rfl) EvA.nil) (use_l_named) (named_ok _) rfl) EvA.nil)) ?_
        have gv : ∀ (ω : List Ent), EvX (tVar 3) [some (is K _law_script), some (is K z), some (is K [errs ⟨.int z⟩, errs ⟨.str "elder"⟩]), some (is K (TV.mk g (some (d, t)))), some (is K (errs g)), some (is K (errs g))] ω ω (tel K ω g d t) := fun ω => EvX.as (m := is K (TV.mk g (some (d, t)))) (EvX.var (i := 3) rfl) fun _ _ p => tel_plain ω p
        refine Go.ifNo (ev_or (ev_right td (EvX.var (i := 4) rfl) (gv _)) (ev_right td (EvX.var (i := 5) rfl) (gv _))) ?_
        refine Go.ifNo (EvT.B (EvX.ca (EvA.cons (gv _) (EvA.cons EvX.c EvA.nil)) (CaX.isiT (.ty _) n1))) ?_
        refine Go.ifNo (EvT.B (EvX.ca (EvA.cons (gv _) (EvA.cons EvX.c EvA.nil)) (CaX.isiT (.ty _) n2))) ?_
        refine Go.last (Go.ifNo (ev_or (ev_right td (EvX.var (i := 4) rfl) (gv _)) (ev_right td (EvX.var (i := 5) rfl) (gv _))) ?_)
        exact Go.next (Sub.keep (Sub.keep (Sub.keep (Sub.lose (Sub.lose (Sub.lose Sub.nil)))))) (Dr.refl _)
      | list p k xs d d' ho e e' td td' le =>
        refine Go.par (i := 4) (j := 5) (EvA.cons (EvX.call (EvA.cons (show EvX (tVar 3) _ ω1 ω1 (is K (VV.mk (.ref p))) from ev_g ⟨⟨.ref p⟩, none⟩ rfl) EvA.nil) (use_l_placed) (placed_ok _) rfl) (EvA.cons (EvX.call (EvA.cons (show EvX (tVar 3) _ ω1 ω1 (is K (VV.mk (.ref p))) from ev_g ⟨⟨.ref p⟩, none⟩ rfl) EvA.nil) (use_l_named) (named_ok _) rfl) EvA.nil)) ?_
        have gv : ∀ (ω : List Ent) (xs : List PV) (d : PyData) (_ : ω[k]? = some (Ent.own p (olst K xs))) (_ : (PV.lst xs).dE = some d), EvX (tVar 3) [some (is K _law_script), some (is K z), some (is K [errs ⟨.int z⟩, errs ⟨.str "elder"⟩]), some (is K (TV.mk ⟨.ref p⟩ none)), some (is K (errs ⟨.ref p⟩)), some (is K (errs ⟨.ref p⟩))] ω ω (tel K ω ⟨.ref p⟩ d "list") := fun ω xs d ho e => EvX.as (m := is K (TV.mk ⟨.ref p⟩ none)) (EvX.var (i := 3) rfl) fun _ _ p => tel_ownL ho e p.1
        have ho' := set_at (b := .own p (olst K (xs ++ [.str "more"]))) ho
        refine Go.ifNo (ev_or (ev_right td (EvX.var (i := 4) rfl) (gv _ _ _ ho e)) (ev_right td (EvX.var (i := 5) rfl) (gv _ _ _ ho e))) ?_
        refine Go.ifYes (EvT.B (EvX.ca (EvA.cons (gv _ _ _ ho e) (EvA.cons EvX.c EvA.nil)) (CaX.isiT (.ty _) (kit_ty (by decide +kernel))))) ?_
        refine Go.app (k := k) (p := p) (y := PV.str "more") (ev_a p none rfl) ⟨_, ho⟩ (EvX.any EvX.str) ho (app_ok le) ?_
        refine Go.ifNo (EvT.B (EvX.ca (EvA.cons (gv _ _ _ ho' e') (EvA.cons EvX.c EvA.nil)) (CaX.isiT (.ty _) (kit_ty (by decide +kernel))))) ?_
        refine Go.last (Go.ifNo (ev_or (ev_right td' (EvX.var (i := 4) rfl) (gv _ _ _ ho' e')) (ev_right td' (EvX.var (i := 5) rfl) (gv _ _ _ ho' e'))) ?_)
        exact Go.next (Sub.keep (Sub.keep (Sub.keep (Sub.lose (Sub.lose (Sub.lose Sub.nil)))))) (Dr.refl _)
      | dict p k d d' ho e ok ok' td td' =>
        refine Go.par (i := 4) (j := 5) (EvA.cons (EvX.call (EvA.cons (show EvX (tVar 3) _ ω1 ω1 (is K (VV.mk (.ref p))) from ev_g ⟨⟨.ref p⟩, none⟩ rfl) EvA.nil) (use_l_placed) (placed_ok _) rfl) (EvA.cons (EvX.call (EvA.cons (show EvX (tVar 3) _ ω1 ω1 (is K (VV.mk (.ref p))) from ev_g ⟨⟨.ref p⟩, none⟩ rfl) EvA.nil) (use_l_named) (named_ok _) rfl) EvA.nil)) ?_
        have gv : ∀ (ω : List Ent) (d : Dic Str (List Int)) (_ : ω[k]? = some (Ent.own p (odic K d))) (_ : ∀ q ∈ d.l, PyData.strOk q.1 = true), EvX (tVar 3) [some (is K _law_script), some (is K z), some (is K [errs ⟨.int z⟩, errs ⟨.str "elder"⟩]), some (is K (TV.mk ⟨.ref p⟩ none)), some (is K (errs ⟨.ref p⟩)), some (is K (errs ⟨.ref p⟩))] ω ω (tel K ω ⟨.ref p⟩ (dicD d) "dict") := fun ω d ho e => EvX.as (m := is K (TV.mk ⟨.ref p⟩ none)) (EvX.var (i := 3) rfl) fun _ _ p => tel_ownD ho e p.1
        have ho' := set_at (b := .own p (odic K d')) ho
        refine Go.ifNo (ev_or (ev_right td (EvX.var (i := 4) rfl) (gv _ _ ho ok)) (ev_right td (EvX.var (i := 5) rfl) (gv _ _ ho ok))) ?_
        refine Go.ifNo (EvT.B (EvX.ca (EvA.cons (gv _ _ ho ok) (EvA.cons EvX.c EvA.nil)) (CaX.isiT (.ty _) (kit_ty (by decide +kernel))))) ?_
        refine Go.ifYes (EvT.B (EvX.ca (EvA.cons (gv _ _ ho ok) (EvA.cons EvX.c EvA.nil)) (CaX.isiT (.ty _) (kit_ty (by decide +kernel))))) ?_
        refine Go.dput (k := k) (p := p) (EvX.fr (EvF.lst (EvA.cons EvX.int EvA.nil) rfl (by show 1 ≤ sizeLine; decide))) (ev_a p none rfl) EvX.str ho e ?_
        refine Go.last (Go.ifNo (ev_or (ev_right td' (EvX.var (i := 4) rfl) (gv _ _ ho' ok')) (ev_right td' (EvX.var (i := 5) rfl) (gv _ _ ho' ok'))) ?_)
        exact Go.next (Sub.keep (Sub.keep (Sub.keep (Sub.lose (Sub.lose (Sub.lose Sub.nil)))))) (Dr.refl _)
    · refine Go.ifNo (ev_or (ev_right (td_int zb) (EvX.op (EvX.var (i := 2) rfl) EvX.int (OpX.ixL rfl)) (EvX.telOf (tells_int z) (fun _ _ p => p) (EvX.var (i := 1) rfl))) (ev_or (ev_right td_el (EvX.op (EvX.var (i := 2) rfl) EvX.int (OpX.ixL rfl)) (EvX.telOf (tells_str "elder" (by decide +kernel)) (fun _ _ p => p) EvX.str)) (ev_right td_n (EvX.call EvA.nil (use_l_bare) bare_ok rfl) (EvX.telOf (tells_non ()) (fun _ _ p => p) EvX.unit)))) ?_
      exact Go.same (Go.ret (EvX.op (EvX.call (EvA.cons EvX.mkU EvA.nil) (use_l_kinds) undo_ok rfl) (EvX.fr (EvF.lst (xs := [(14 : Int)]) (EvA.cons EvX.int EvA.nil) rfl (by show 1 ≤ sizeLine; decide))) (OpX.eqA DtAt.of DtAt.of (by decide))) rfl (Dr.refl _)) rfl
end
end Mi
/-! ## Errors: the law -/
namespace Pr
open PySem L2 Lf Mi Pl Pm
theorem law_ok (s : Sc) : m_law s = .ok true := rfl
end Pr

open PySem PySem.W PySem.Calls PyProof.Rows
theorem PySem.Challenge.cw_rollclerk_k01_errors_holds : PySem.Challenge.rw_rollclerk_k01_errors.Holds := by
  w_on; o_law
  refine HandSHeadRun.head_any (r := RC.R) (q := view RC.R.prog [27]) (H := RC.hk) (ob := RC.ob) (M := 8000) (loose := RC.loose) (d := HandSHeadRun.topDef RC.R.prog 27) (kwd := []) RC.ob_eq
    (by kernel_rfl) (fun s => by kernel_rfl) RC.run (by kernel_rfl) (by kernel_rfl) (by kernel_rfl) (by rfl) (by first | assumption | decide +kernel) (by decide +kernel) ⟨rfl, rfl, rfl, rfl, rfl, by decide +kernel⟩ ?hw ?hc
  case hw => w_witness2
  case hc =>
    refine RC.walk_ofG (l := PySem.Challenge.rw_rollclerk_k01_errors) (n := 63) (k := 3) (x := "_law_script") rfl (by decide) (by kernel_rfl) ⟨rfl, by decide, by decide⟩ ?F
    intro w mg fa h Y G hmg0
    obtain ⟨K, KX, c⟩ := Y
    have hmg : mg ("law" : PySem.Str) = some (.ref fa) := by
      have e : (HandSHeadRun.topDef RC.R.prog 27).name = ("law" : PySem.Str) := by kernel_rfl
      rw [← e]
      exact hmg0
    obtain ⟨T⟩ := RC.txt_of KX G c
    have e := hmg.symm.trans T.g_law
    cases e
    have b := L2.FunD.bindsA (ps := ["_law_script"]) T.F_law fun _ _ _ _ _ _ us hl => match us, hl with | [_], _ => rfl
    exact ⟨K, T.fd_law, Lf.quiet (Mi.sp_law K), KX, fun s v => b s [v] rfl, fun H a ns hl hO hS => ⟨⟨ns⟩, [], H, hl, Lf.PArgs.sc hS, Lf.At.nil hO, Lf.Says.yes ((fun s _ => Pr.law_ok s) ⟨ns⟩ hl)⟩, fun base _ _ => Lf.quietG (Mi.ok_law T)⟩
