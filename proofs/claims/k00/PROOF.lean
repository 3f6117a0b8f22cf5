import PyProof.Rows.All
import Wide.All
import OpenK.AllK
import Wide.FinOn
import HandS.ForMost
import HandS.Wide
import HandS.Gcd
import HandS.IsInst
import HandS.Defaults
import HandS.Evl
import HandS.Style
import PySem.Challenge.RW_unbrokenrows_k00_share_arithmetic
import HandS.Ends
set_option Elab.async false
set_option linter.all false
set_option maxRecDepth 100000
set_option exponentiation.threshold 3000
set_option maxHeartbeats 4000000
/-! intro rules: one for each reading, and the stepping line «rd» -/
namespace Pf
open PySem L2

/-- where two heaps agree on all that stood -/
abbrev Sm := L2.Same
theorem Sm.new {H : Hp} {p : Addr} {o : HO} (h : H p = none) : L2.Same H (upd H p o) := fun a u e => by
  rw [upd_ne (ne_of_none e h)]
  exact e
theorem Sm.mut {H H' : Hp} {p : Addr} {o : HO} (e : L2.Same H H') (h : H p = none) : L2.Same H (upd H' p o) := fun a u ha => by
  rw [upd_ne (ne_of_none ha h)]
  exact e a u ha
theorem same_at {H H' : Hp} {p : Addr} {o : HO} (s : L2.Same H H') (h : H p = some o) : H' p = some o := s p o h
theorem upd_at {H : Hp} {a p : Addr} {u o : HO} (n : p ≠ a) (h : H p = some o) : upd H a u p = some o := (upd_ne n).trans h
theorem same_seqT {K : PySem.W.Frag} {H H' : Hp} {a : Addr} {xs : List V} (e : L2.Same H H') (h : SqT K H a xs) : SqT K H' a xs := by
  rcases h with (h | ⟨o, h⟩) | h
  · exact .inl (.inl (e _ _ h))
  · exact .inl (.inr ⟨o, e _ _ h⟩)
  · exact .inr h

section
variable {K : PySem.W.Frag} {σ : L2.St} {H H' : Hp} {v x y : V} {ta tb te : TE} {t u c : TT} {D : Ends} {t1 t2 ts : TS} {r : R2} {Q : VK} {B : Bool → Hp → Prop} {LQ : List V → Hp → Prop} {tr : TA}

theorem i_var {i : Nat} (h : σ[i]? = some (some v)) (k : Q v H) : tVar i σ H Q := ⟨v, h, k⟩
theorem i_c (k : Q v H) : tC v σ H Q := k
theorem i_op (k : ta σ H fun x H1 => tb σ H1 fun y H2 => r x y H2 Q) : tOp r ta tb σ H Q := k
theorem i_un {r : V → Hp → VK → Prop} (k : ta σ H fun x H1 => r x H1 Q) : tUn r ta σ H Q := k
theorem i_I0 {g : Int → Int → V} {i j : Int} (k : Q (g i j) H) : rI0 g (.int i) (.int j) H Q := ⟨i, j, rfl, rfl, k⟩
theorem i_I {C : Int → Int → Prop} {g : Int → Int → V} {i j : Int} (hc : C i j) (k : Q (g i j) H) : rI C g (.int i) (.int j) H Q := ⟨i, j, rfl, rfl, hc, k⟩
theorem i_U {g : Int → V} {i : Int} (k : Q (g i) H) : rU g (.int i) H Q := ⟨i, rfl, k⟩
theorem i_eqI {i j : Int} (k : Q (.bl (decide (i = j))) H) : rEq (.int i) (.int j) H Q := ⟨rfl, by rw [show decide (V.int i = V.int j) = decide (i = j) by simp]; exact k⟩
theorem i_eqS {i j : Str} (k : Q (.bl (decide (i = j))) H) : rEq (.str i) (.str j) H Q := ⟨rfl, by rw [show decide (V.str i = V.str j) = decide (i = j) by simp]; exact k⟩
theorem i_eqB {i j : Bool} (k : Q (.bl (decide (i = j))) H) : rEq (.bl i) (.bl j) H Q := ⟨rfl, by rw [show decide (V.bl i = V.bl j) = decide (i = j) by simp]; exact k⟩
theorem i_neI {i j : Int} (k : Q (.bl (!decide (i = j))) H) : rNe (.int i) (.int j) H Q := ⟨rfl, by rw [show decide (V.int i = V.int j) = decide (i = j) by simp]; exact k⟩
theorem i_neS {i j : Str} (k : Q (.bl (!decide (i = j))) H) : rNe (.str i) (.str j) H Q := ⟨rfl, by rw [show decide (V.str i = V.str j) = decide (i = j) by simp]; exact k⟩
theorem i_neB {i j : Bool} (k : Q (.bl (!decide (i = j))) H) : rNe (.bl i) (.bl j) H Q := ⟨rfl, by rw [show decide (V.bl i = V.bl j) = decide (i = j) by simp]; exact k⟩
theorem i_test (k : te σ H fun x H' => ∃ k, x = .bl k ∧ B k H') : tTest te σ H B := k
theorem i_B (k : te σ H fun x H' => ∃ k, x = .bl k ∧ B k H') : tB te σ H B := k
theorem i_and (k : t σ H fun c H1 => if c = true then u σ H1 B else B false H1) : tAnd t u σ H B := k
theorem i_or (k : t σ H fun c H1 => if c = true then B true H1 else u σ H1 B) : tOr t u σ H B := k
theorem i_not (k : t σ H fun c H1 => B (!c) H1) : tNot t σ H B := k
theorem i_andV (k : ta σ H fun x H1 => ∃ c, x = .bl c ∧ if c = true then tb σ H1 Q else Q (.bl false) H1) : tAndV ta tb σ H Q := k
theorem i_orV (k : ta σ H fun x H1 => ∃ c, x = .bl c ∧ if c = true then Q (.bl true) H1 else tb σ H1 Q) : tOrV ta tb σ H Q := k
theorem i_notV (k : ta σ H fun x H1 => ∃ c, x = .bl c ∧ Q (.bl (!c)) H1) : tNotV ta σ H Q := k
theorem i_ifE (k : t σ H fun c H1 => if c = true then ta σ H1 Q else tb σ H1 Q) : tIf t ta tb σ H Q := k
theorem i_nil (k : LQ [] H) : tNil σ H LQ := k
theorem i_cons (k : te σ H fun x H1 => tr σ H1 fun xs H2 => LQ (x :: xs) H2) : tCons te tr σ H LQ := k
theorem i_call {sp : Sp} {E : XK} (k : tr σ H fun vs H1 => sp vs H1 Q E) : tCall sp [] E tr σ H Q := by
  unfold tCall
  simpa using k
theorem i_cb {r : List V → Hp → VK → Prop} (k : tr σ H fun vs H1 => r vs H1 Q) : tCB r tr σ H Q := k
theorem i_lst (k : tr σ H fun xs H1 => xs.length ≤ sizeLine ∧ ∀ p, H1 p = none → Q (.ref p) (upd H1 p (.lst xs))) : tLst tr σ H Q := k
theorem i_tup (k : tr σ H fun xs H1 => xs.length ≤ sizeLine ∧ ∀ p, H1 p = none → Q (.ref p) (upd H1 p (.tup xs))) : tTup tr σ H Q := k
theorem i_ixL {p : Addr} {xs : List V} {i : Int} (hS : SqL K H p xs) (ha : atI xs i = some v) (k : Q v H) : rIxL K (.ref p) (.int i) H Q := ⟨p, xs, i, v, rfl, rfl, hS, ha, k⟩
theorem i_ixT {p : Addr} {xs : List V} {i : Int} (hS : SqT K H p xs) (ha : atI xs i = some v) (k : Q v H) : rIxT K (.ref p) (.int i) H Q := ⟨p, xs, i, v, rfl, rfl, hS, ha, k⟩
theorem atI_ints {ns : List Int} {i : Int} (h0 : 0 ≤ i) (h1 : i < ns.length) : atI (ns.map V.int) i = some (.int (ns.getD i.toNat 0)) := by
  obtain ⟨n, rfl⟩ : ∃ n : Nat, i = (n : Int) := ⟨i.toNat, by omega⟩
  have hn : n < ns.length := by omega
  refine atI_nat ?_
  rw [List.getElem?_map, List.getElem?_eq_getElem hn]
  simp [List.getD, List.getElem?_eq_getElem hn]
theorem i_ixI {p : Addr} {ns : List Int} {i : Int} (hS : SqL K H p (ns.map V.int)) (h0 : 0 ≤ i) (h1 : i < ns.length) (k : Q (.int (ns.getD i.toNat 0)) H) : rIxL K (.ref p) (.int i) H Q := i_ixL hS (atI_ints h0 h1) k
/-! statements -/
theorem i_seq (k : t1 { D with nx := t2 D } σ H) : tSeq t1 t2 D σ H := k
theorem i_asg {g : TG} (k : te σ H fun x H1 => g x σ H1 D.nx) : tAsg te g D σ H := k
theorem i_name {i : Nat} {N : L2.St → Hp → Prop} (k : N (σ.set i (some v)) H) : gName i v σ H N := k
theorem i_nm0 {x : Option V} {l : L2.St} {N : L2.St → Hp → Prop} (k : N (some v :: l) H) : gName 0 v (x :: l) H N := k
theorem i_nm1 {a0 x : Option V} {l : L2.St} {N : L2.St → Hp → Prop} (k : N (a0 :: some v :: l) H) : gName 1 v (a0 :: x :: l) H N := k
theorem i_nm2 {a0 a1 x : Option V} {l : L2.St} {N : L2.St → Hp → Prop} (k : N (a0 :: a1 :: some v :: l) H) : gName 2 v (a0 :: a1 :: x :: l) H N := k
theorem i_nm3 {a0 a1 a2 x : Option V} {l : L2.St} {N : L2.St → Hp → Prop} (k : N (a0 :: a1 :: a2 :: some v :: l) H) : gName 3 v (a0 :: a1 :: a2 :: x :: l) H N := k
theorem i_nm4 {a0 a1 a2 a3 x : Option V} {l : L2.St} {N : L2.St → Hp → Prop} (k : N (a0 :: a1 :: a2 :: a3 :: some v :: l) H) : gName 4 v (a0 :: a1 :: a2 :: a3 :: x :: l) H N := k
theorem i_nm5 {a0 a1 a2 a3 a4 x : Option V} {l : L2.St} {N : L2.St → Hp → Prop} (k : N (a0 :: a1 :: a2 :: a3 :: a4 :: some v :: l) H) : gName 5 v (a0 :: a1 :: a2 :: a3 :: a4 :: x :: l) H N := k
theorem i_nm6 {a0 a1 a2 a3 a4 a5 x : Option V} {l : L2.St} {N : L2.St → Hp → Prop} (k : N (a0 :: a1 :: a2 :: a3 :: a4 :: a5 :: some v :: l) H) : gName 6 v (a0 :: a1 :: a2 :: a3 :: a4 :: a5 :: x :: l) H N := k
theorem i_nm7 {a0 a1 a2 a3 a4 a5 a6 x : Option V} {l : L2.St} {N : L2.St → Hp → Prop} (k : N (a0 :: a1 :: a2 :: a3 :: a4 :: a5 :: a6 :: some v :: l) H) : gName 7 v (a0 :: a1 :: a2 :: a3 :: a4 :: a5 :: a6 :: x :: l) H N := k
theorem i_nm8 {a0 a1 a2 a3 a4 a5 a6 a7 x : Option V} {l : L2.St} {N : L2.St → Hp → Prop} (k : N (a0 :: a1 :: a2 :: a3 :: a4 :: a5 :: a6 :: a7 :: some v :: l) H) : gName 8 v (a0 :: a1 :: a2 :: a3 :: a4 :: a5 :: a6 :: a7 :: x :: l) H N := k
theorem i_nm9 {a0 a1 a2 a3 a4 a5 a6 a7 a8 x : Option V} {l : L2.St} {N : L2.St → Hp → Prop} (k : N (a0 :: a1 :: a2 :: a3 :: a4 :: a5 :: a6 :: a7 :: a8 :: some v :: l) H) : gName 9 v (a0 :: a1 :: a2 :: a3 :: a4 :: a5 :: a6 :: a7 :: a8 :: x :: l) H N := k
theorem i_nm10 {a0 a1 a2 a3 a4 a5 a6 a7 a8 a9 x : Option V} {l : L2.St} {N : L2.St → Hp → Prop} (k : N (a0 :: a1 :: a2 :: a3 :: a4 :: a5 :: a6 :: a7 :: a8 :: a9 :: some v :: l) H) : gName 10 v (a0 :: a1 :: a2 :: a3 :: a4 :: a5 :: a6 :: a7 :: a8 :: a9 :: x :: l) H N := k
theorem i_nm11 {a0 a1 a2 a3 a4 a5 a6 a7 a8 a9 a10 x : Option V} {l : L2.St} {N : L2.St → Hp → Prop} (k : N (a0 :: a1 :: a2 :: a3 :: a4 :: a5 :: a6 :: a7 :: a8 :: a9 :: a10 :: some v :: l) H) : gName 11 v (a0 :: a1 :: a2 :: a3 :: a4 :: a5 :: a6 :: a7 :: a8 :: a9 :: a10 :: x :: l) H N := k
theorem i_nm12 {a0 a1 a2 a3 a4 a5 a6 a7 a8 a9 a10 a11 x : Option V} {l : L2.St} {N : L2.St → Hp → Prop} (k : N (a0 :: a1 :: a2 :: a3 :: a4 :: a5 :: a6 :: a7 :: a8 :: a9 :: a10 :: a11 :: some v :: l) H) : gName 12 v (a0 :: a1 :: a2 :: a3 :: a4 :: a5 :: a6 :: a7 :: a8 :: a9 :: a10 :: a11 :: x :: l) H N := k
theorem i_nm13 {a0 a1 a2 a3 a4 a5 a6 a7 a8 a9 a10 a11 a12 x : Option V} {l : L2.St} {N : L2.St → Hp → Prop} (k : N (a0 :: a1 :: a2 :: a3 :: a4 :: a5 :: a6 :: a7 :: a8 :: a9 :: a10 :: a11 :: a12 :: some v :: l) H) : gName 13 v (a0 :: a1 :: a2 :: a3 :: a4 :: a5 :: a6 :: a7 :: a8 :: a9 :: a10 :: a11 :: a12 :: x :: l) H N := k
theorem i_nm14 {a0 a1 a2 a3 a4 a5 a6 a7 a8 a9 a10 a11 a12 a13 x : Option V} {l : L2.St} {N : L2.St → Hp → Prop} (k : N (a0 :: a1 :: a2 :: a3 :: a4 :: a5 :: a6 :: a7 :: a8 :: a9 :: a10 :: a11 :: a12 :: a13 :: some v :: l) H) : gName 14 v (a0 :: a1 :: a2 :: a3 :: a4 :: a5 :: a6 :: a7 :: a8 :: a9 :: a10 :: a11 :: a12 :: a13 :: x :: l) H N := k
theorem i_nm15 {a0 a1 a2 a3 a4 a5 a6 a7 a8 a9 a10 a11 a12 a13 a14 x : Option V} {l : L2.St} {N : L2.St → Hp → Prop} (k : N (a0 :: a1 :: a2 :: a3 :: a4 :: a5 :: a6 :: a7 :: a8 :: a9 :: a10 :: a11 :: a12 :: a13 :: a14 :: some v :: l) H) : gName 15 v (a0 :: a1 :: a2 :: a3 :: a4 :: a5 :: a6 :: a7 :: a8 :: a9 :: a10 :: a11 :: a12 :: a13 :: a14 :: x :: l) H N := k
theorem i_ret (k : te σ H D.rt) : tRet te D σ H := k
theorem i_drop (k : te σ H fun _ H1 => D.nx σ H1) : tDrop te D σ H := k
theorem i_if (k : c σ H fun b H1 => if b = true then t1 D σ H1 else t2 D σ H1) : tIfS c t1 t2 D σ H := k
theorem i_next (k : D.nx σ H) : tNext D σ H := k
theorem i_brk (k : D.bk σ H) : tBreak D σ H := k
theorem i_cont (k : D.ct σ H) : tCont D σ H := k
/-! decided ways -/
theorem i_decT {p A B : Prop} [Decidable p] (h : p) (k : A) : if decide p = true then A else B := by
  rw [if_pos (decide_eq_true h)]
  exact k
theorem i_decF {p A B : Prop} [Decidable p] (h : ¬ p) (k : B) : if decide p = true then A else B := by
  rw [if_neg (by simpa using h)]
  exact k
theorem i_ndecT {p A B : Prop} [Decidable p] (h : ¬ p) (k : A) : if (!decide p) = true then A else B := by
  rw [if_pos (by simpa using h)]
  exact k
theorem i_ndecF {p A B : Prop} [Decidable p] (h : p) (k : B) : if (!decide p) = true then A else B := by
  rw [if_neg (by simpa using h)]
  exact k
theorem i_dec {p A B : Prop} [Decidable p] (k1 : p → A) (k2 : ¬ p → B) : if decide p = true then A else B := by
  by_cases h : p
  · exact i_decT h (k1 h)
  · exact i_decF h (k2 h)
theorem i_ndec {p A B : Prop} [Decidable p] (k1 : ¬ p → A) (k2 : p → B) : if (!decide p) = true then A else B := by
  by_cases h : p
  · exact i_ndecF h (k2 h)
  · exact i_ndecT h (k1 h)
theorem i_T {A B : Prop} (k : A) : if true = true then A else B := by rw [if_pos rfl]; exact k
theorem i_F {A B : Prop} (k : B) : if false = true then A else B := by rw [if_neg Bool.false_ne_true]; exact k
theorem i_nT {A B : Prop} (k : B) : if (!true) = true then A else B := by rw [if_neg (by decide)]; exact k
theorem i_nF {A B : Prop} (k : A) : if (!false) = true then A else B := by rw [if_pos (by decide)]; exact k
theorem i_pow {i j : Int} (c : 0 ≤ j ∧ j ≤ 1000000 ∧ i.natAbs < 2 ^ 64) (k : Q (.int (i ^ j.toNat)) H) : rI CPow (fun i j => .int (i ^ j.toNat)) (.int i) (.int j) H Q := i_I c k
theorem i_app {l : Addr} {xs : List V} {te' : TE} (k : ta σ H fun x H1 => tyV K "list" x H1 ∧ tr σ H1 fun vs H2 => rAppend x vs H2 Q) : tBM K "list" rAppend ta tr σ H Q := k
theorem i_bm {T : String} {r : V → List V → Hp → VK → Prop} {to : TE} (k : to σ H fun x H1 => tyV K T x H1 ∧ tr σ H1 fun xs H2 => r x xs H2 Q) : tBM K T r to tr σ H Q := k
theorem i_bm0 {T : String} {r : V → List V → Hp → VK → Prop} {to : TE} (k : to σ H fun x H1 => tyV K T x H1 ∧ r x [] H1 Q) : tBM0 K T r to σ H Q := k
theorem i_tyL {l : Addr} {xs : List V} {B : Prop} (h : SqL K H l xs) (k : B) : tyV K "list" (.ref l) H ∧ B := ⟨Or.inl ⟨rfl, _, h⟩, k⟩
theorem i_append {l : Addr} {xs : List V} (h : H l = some (.lst xs)) (hz : xs.length < 100000) (k : Q .non (upd H l (.lst (xs ++ [y])))) : rAppend (.ref l) [y] H Q := ⟨l, xs, y, rfl, rfl, h, Nat.lt_of_lt_of_le hz (by decide), k⟩
theorem sz_le {n : Nat} (h : n ≤ 100000) : n ≤ sizeLine := Nat.le_trans h (by decide)
/-! calls by named relations -/
def rAbs1 : List V → Hp → VK → Prop := fun xs H Q => ∃ i, xs = [.int i] ∧ Q (.int (if i < 0 then -i else i)) H
theorem i_abs {i : Int} (k : Q (.int (if i < 0 then -i else i)) H) : rAbs1 [.int i] H Q := ⟨i, rfl, k⟩
def rInt1 : List V → Hp → VK → Prop := fun xs H Q => (∃ i, xs = [.int i] ∧ Q (.int i) H) ∨ ∃ k, xs = [.bl k] ∧ Q (.int (if k then 1 else 0)) H
theorem i_int {i : Int} (k : Q (.int i) H) : rInt1 [.int i] H Q := .inl ⟨i, rfl, k⟩
theorem i_intB {b : Bool} (k : Q (.int (if b then 1 else 0)) H) : rInt1 [.bl b] H Q := .inr ⟨b, rfl, k⟩
def rBool1 : List V → Hp → VK → Prop := fun xs H Q => (∃ i, xs = [.int i] ∧ Q (.bl (i != 0)) H) ∨ ∃ k, xs = [.bl k] ∧ Q (.bl k) H
theorem i_bool {i : Int} (k : Q (.bl (i != 0)) H) : rBool1 [.int i] H Q := .inl ⟨i, rfl, k⟩
theorem i_boolB {b : Bool} (k : Q (.bl b) H) : rBool1 [.bl b] H Q := .inr ⟨b, rfl, k⟩
def rLen1 (K : PySem.W.Frag) : List V → Hp → VK → Prop := fun xs H Q => ∃ x n, xs = [x] ∧ LenV K x H n ∧ Q (.int n) H
theorem i_lenL {p : Addr} {xs : List V} (h : SqL K H p xs) (k : Q (.int xs.length) H) : rLen1 K [.ref p] H Q := ⟨.ref p, xs.length, rfl, .inl ⟨xs, h, rfl⟩, k⟩
theorem i_lenI {p : Addr} {ns : List Int} (h : SqL K H p (ns.map V.int)) (k : Q (.int ns.length) H) : rLen1 K [.ref p] H Q := ⟨.ref p, ns.length, rfl, .inl ⟨_, h, by rw [List.length_map]⟩, k⟩
theorem i_lenT {p : Addr} {xs : List V} (h : SqT K H p xs) (k : Q (.int xs.length) H) : rLen1 K [.ref p] H Q := ⟨.ref p, xs.length, rfl, .inr ⟨xs, h, rfl⟩, k⟩
theorem i_lenS {z : Str} (h : z.length ≤ 100000) (k : Q (.int z.length) H) : rLen1 K [.str z] H Q := ⟨.str z, z.length, rfl, ⟨sz_le h, rfl⟩, k⟩
/-- isinstance, by what the value is -/
theorem i_isi {x c : V} {t u : Value} {b : Bool} (hc : ClsV c u) (ht : TyX K H x t) (e : PySem.W.kitOne K t u = some b) (k : Q (.bl b) H) : rIsi K [x, c] H Q := ⟨x, c, t, u, b, rfl, hc, ht, e, k⟩
end
/-! loops: what is behind the head of a for -/
section
variable {K : PySem.W.Frag} {σ : L2.St} {H : Hp} {g : TG} {tb : TS} {D : Ends} {ta : TA} {tl : TE}
def FR1 (g : TG) (tb : TS) (D : Ends) (σ : L2.St) (vs : List V) (H : Hp) : Prop := tFor (iRng1 fun _ H Q => Q vs H) g tb D σ H
theorem i_for1 (k : ta σ H fun vs H1 => FR1 g tb D σ vs H1) : tFor (iRng1 ta) g tb D σ H := k
theorem i_FR1 {n : Int} (Pv : Nat → L2.St → Hp → Prop) (hb : -100000 ≤ n ∧ n ≤ 100000) (h0 : Pv 0 σ H)
    (hs : ∀ (i : Nat) σ' H', (i : Int) < n → Pv i σ' H' → g (.int (i : Int)) σ' H' fun σ2 H2 => tb { D with nx := Pv (i + 1), ct := Pv (i + 1), bk := D.nx } σ2 H2) (hd : ∀ σ' H', Pv n.toNat σ' H' → D.nx σ' H') : FR1 g tb D σ [.int n] H :=
  ⟨n, rfl, by omega, by omega, for_range (lo := 0) (n := n.toNat) Pv h0 (fun i σ' H' hi p => by
    have q := hs i σ' H' (by omega) p
    rw [← Int.zero_add (i : Int)] at q
    exact q) hd⟩
def FR2 (g : TG) (tb : TS) (D : Ends) (σ : L2.St) (vs : List V) (H : Hp) : Prop := tFor (iRng2 fun _ H Q => Q vs H) g tb D σ H
theorem i_for2 (k : ta σ H fun vs H1 => FR2 g tb D σ vs H1) : tFor (iRng2 ta) g tb D σ H := k
theorem i_FR2 {lo n : Int} (Pv : Nat → L2.St → Hp → Prop) (hb : -100000 ≤ lo ∧ lo ≤ 100000 ∧ -100000 ≤ n ∧ n ≤ 100000) (h0 : Pv 0 σ H)
    (hs : ∀ (i : Nat) σ' H', lo + (i : Int) < n → Pv i σ' H' → g (.int (lo + (i : Int))) σ' H' fun σ2 H2 => tb { D with nx := Pv (i + 1), ct := Pv (i + 1), bk := D.nx } σ2 H2) (hd : ∀ σ' H', Pv (n - lo).toNat σ' H' → D.nx σ' H') : FR2 g tb D σ [.int lo, .int n] H :=
  ⟨lo, n, rfl, ⟨by omega, by omega, by omega, by omega⟩, for_range (lo := lo) (n := (n - lo).toNat) Pv h0 (fun i σ' H' hi p => hs i σ' H' (by omega) p) hd⟩
def FLs (K : PySem.W.Frag) (g : TG) (tb : TS) (D : Ends) (σ : L2.St) (x : V) (H : Hp) : Prop := tFor (iList K fun _ H Q => Q x H) g tb D σ H
theorem i_forL (k : tl σ H fun x H1 => FLs K g tb D σ x H1) : tFor (iList K tl) g tb D σ H := k
theorem i_FLs {a : Addr} (xs : List V) (Pv : Nat → L2.St → Hp → Prop) (hx : SqL K H a xs) (h0 : Pv 0 σ H) (hl : ∀ i σ' H', i ≤ xs.length → Pv i σ' H' → SqL K H' a xs)
    (hs : ∀ i x σ' H', xs[i]? = some x → Pv i σ' H' → g x σ' H' fun σ2 H2 => tb { D with nx := Pv (i + 1), ct := Pv (i + 1), bk := D.nx } σ2 H2) (hd : ∀ σ' H', Pv xs.length σ' H' → D.nx σ' H') : FLs K g tb D σ (.ref a) H :=
  ⟨a, rfl, ⟨xs, hx⟩, for_list Pv h0 hl hs hd⟩
def FTp (K : PySem.W.Frag) (g : TG) (tb : TS) (D : Ends) (σ : L2.St) (x : V) (H : Hp) : Prop := tFor (iTup K fun _ H Q => Q x H) g tb D σ H
theorem i_forT (k : tl σ H fun x H1 => FTp K g tb D σ x H1) : tFor (iTup K tl) g tb D σ H := k
theorem i_FTp {a : Addr} (xs : List V) (Pv : Nat → L2.St → Hp → Prop) (hx : SqT K H a xs) (h0 : Pv 0 σ H) (hl : ∀ i σ' H', i ≤ xs.length → Pv i σ' H' → SqT K H' a xs)
    (hs : ∀ i x σ' H', xs[i]? = some x → Pv i σ' H' → g x σ' H' fun σ2 H2 => tb { D with nx := Pv (i + 1), ct := Pv (i + 1), bk := D.nx } σ2 H2) (hd : ∀ σ' H', Pv xs.length σ' H' → D.nx σ' H') : FTp K g tb D σ (.ref a) H :=
  ⟨a, rfl, ⟨xs, hx⟩, for_tup Pv h0 hl hs hd⟩
/-- a while, by a word of a number that falls: N says it of what a turn leaves -/
theorem i_while {c : TT} (W : Nat → L2.St → Hp → Prop) (h0 : ∃ m, W m σ H)
    (hs : ∀ m σ' H', W m σ' H' → c σ' H' fun b H1 => if b = true then ∃ N : L2.St → Hp → Prop, (∀ σ2 H2, N σ2 H2 → ∃ m', m' < m ∧ W m' σ2 H2) ∧ tb { D with nx := N, ct := N, bk := D.nx } σ' H1 else D.nx σ' H1) : tWhile c tb D σ H := ⟨W, h0, hs⟩
theorem i_turn {W : Nat → L2.St → Hp → Prop} {m : Nat} (k : tb { D with nx := fun σ2 H2 => ∃ m', m' < m ∧ W m' σ2 H2, ct := fun σ2 H2 => ∃ m', m' < m ∧ W m' σ2 H2, bk := D.nx } σ H) :
    ∃ N : L2.St → Hp → Prop, (∀ σ2 H2, N σ2 H2 → ∃ m', m' < m ∧ W m' σ2 H2) ∧ tb { D with nx := N, ct := N, bk := D.nx } σ H := ⟨_, fun _ _ q => q, k⟩
theorem i_par {i j : Nat} (k : ta σ H fun vs H1 => ∃ v w, vs = [v, w] ∧ D.nx ((σ.set i (some v)).set j (some w)) H1) : tPar i j ta D σ H := k
end
section
variable {X : Cx}
theorem call_absN : CallR X (.builtin "abs") rAbs1 := call_abs
theorem call_intN : CallR X (.type "int") rInt1 := call_int1
theorem call_boolN : CallR X (.type "bool") rBool1 := call_bool1
theorem call_lenN : CallR X (.builtin "len") (rLen1 X.K) := call_len
def CDivA (_ j : Int) : Prop := j ≠ 0 ∧ j.natAbs.log2 < 9000
theorem op_fdivA : OpR X (binaryOp .FloorDiv) (rI CDivA fun i j => .int (i.fdiv j)) := opI fun _ _ _ _ _ _ _ hc q => PyProof.Rows.floordiv_int hc.1 q (.inl (PyProof.noPylong_of_log2 hc.2))
theorem op_mulX : OpR X (binaryOp .Mult) (rI PySem.IntMulOk fun i j => .int (i * j)) := opI fun _ _ _ _ _ _ _ hc q => PyProof.Rows.mul_int q hc
theorem mulR {i j : Int} (h1 : -(2 ^ 64) < j) (h2 : j < 2 ^ 64) : PySem.IntMulOk i j := CMul.ok (.inr ⟨h1, h2⟩)
theorem mulL {i j : Int} (h1 : -(2 ^ 64) < i) (h2 : i < 2 ^ 64) : PySem.IntMulOk i j := CMul.ok (.inl ⟨h1, h2⟩)
theorem mulW {i j : Int} {a b : Nat} (ha : i.natAbs < 2 ^ a) (hb : j.natAbs < 2 ^ b) (h0 : 0 < a) (h1 : 0 < b) (h : a + b ≤ 1000000) : PySem.IntMulOk i j := (wide_mul ha hb h0 h1 h).ok
/-- an int below a power of two in size, hidden from omega -/
def Sz (b : Nat) (i : Int) : Prop := i.natAbs < 2 ^ b
theorem Sz.up {a b : Nat} {i : Int} (h : Sz a i) (hab : a ≤ b := by decide) : Sz b i := Nat.lt_of_lt_of_le h (Nat.pow_le_pow_right (by decide) hab)
theorem Sz.of_le {a : Nat} {i j : Int} (hle : i.natAbs ≤ j.natAbs) (h : Sz a j) : Sz a i := Nat.lt_of_le_of_lt hle h
theorem Sz.mul {a b : Nat} {i j : Int} (ha : Sz a i) (hb : Sz b j) : Sz (a + b) (i * j) := wide_lt ha hb
theorem Sz.neg {a : Nat} {i : Int} (h : Sz a i) : Sz a (-i) := by unfold Sz at *; rw [Int.natAbs_neg]; exact h
theorem Sz.add {a : Nat} {i j : Int} (h : Sz a i) (h2 : Sz a j) : Sz (a + 1) (i + j) ∧ Sz (a + 1) (i - j) := by
  unfold Sz at *
  rw [Nat.pow_succ]
  generalize 2 ^ a = m at *
  constructor <;> omega
theorem Sz.nat {a : Nat} {i : Int} (h : Sz a i) : i.natAbs < 2 ^ a := h
theorem Sz.iabs {a : Nat} {i : Int} (h : Sz a i) : Sz a (if i < 0 then -i else i) := by
  unfold Sz at *
  split
  · rw [Int.natAbs_neg]; exact h
  · exact h
theorem mulZ {i j : Int} {a b : Nat} (ha : Sz a i) (hb : Sz b j) (h0 : 0 < a) (h1 : 0 < b) (h : a + b ≤ 1000000) : PySem.IntMulOk i j := mulW ha hb h0 h1 h
theorem divA {i j : Int} {b : Nat} (h : j ≠ 0) (hb : j.natAbs < 2 ^ b) (h0 : 0 < b) (h9 : b ≤ 9000) : CDivA i j := ⟨h, Nat.lt_of_lt_of_le (PySem.Flt.log2_lt_of h0 hb) h9⟩
end
end Pf
/-! operators of own classes as rules of the layer -/
namespace L2
open PySem PySem.Spec PyProof.Rows PySem.W
theorem val_cases {v : V} {u : Value} (r : RelV v u) : u ≠ .notImplemented := by
  cases v with
  | non => cases (show u = Value.none from r); exact fun z => nomatch z
  | bl b => cases (show u = Value.bool b from r); exact fun z => nomatch z
  | int i => obtain ⟨t, e⟩ := (show ∃ t, u = Value.int i t from r); cases e; exact fun z => nomatch z
  | str x => obtain ⟨t, e⟩ := (show ∃ t, u = Value.str x t from r); cases e; exact fun z => nomatch z
  | byt b => obtain ⟨t, e⟩ := (show ∃ t, u = Value.bytes b t from r); cases e; exact fun z => nomatch z
  | flt b => obtain ⟨t, e⟩ := (show ∃ t, u = Value.float b t from r); cases e; exact fun z => nomatch z
  | ref a => cases (show u = Value.ref a from r); exact fun z => nomatch z
  | ty n => cases (show u = Value.type n from r); exact fun z => nomatch z
theorem cmpBack_of {Q' : Value → Shared → Prop} {v : V} {u : Value} {s' : Shared} (r : RelV v u) (h : Q' u s') : PySem.W.CmpBack Q' u s' := by
  have hn := val_cases r
  cases u with
  | notImplemented => exact absurd rfl hn
  | _ => exact h

/-- two instances of one class into its operator's def -/
def rOwn (C : Addr) (sp : Sp) (E : XK) : R2 := fun x y H Q => ∃ a dx fs b dy gs, x = .ref a ∧ y = .ref b ∧ H a = some (.ins C dx fs) ∧ H b = some (.ins C dy gs) ∧ sp [x, y] H Q E
/-- an instance and an int; an int and an instance -/
def rOwnI (C : Addr) (sp : Sp) (E : XK) : R2 := fun x y H Q => ∃ a dx fs i, x = .ref a ∧ y = .int i ∧ H a = some (.ins C dx fs) ∧ sp [x, y] H Q E
def rIOwn (C : Addr) (sp : Sp) (E : XK) : R2 := fun x y H Q => ∃ a dx fs i, x = .int i ∧ y = .ref a ∧ H a = some (.ins C dx fs) ∧ sp [y, x] H Q E
def rOwn1 (C : Addr) (sp : Sp) (E : XK) : V → Hp → VK → Prop := fun x H Q => ∃ a dx fs, x = .ref a ∧ H a = some (.ins C dx fs) ∧ sp [x] H Q E
def rOwnC (C : Addr) (sp : Sp) (E : XK) : List V → Hp → VK → Prop := fun xs H Q => ∃ a dx fs, xs = [.ref a] ∧ H a = some (.ins C dx fs) ∧ sp xs H Q E
/-- the same of a bool that comes back -/
def rOwnCB (C : Addr) (sp : Sp) (E : XK) : List V → Hp → VK → Prop := fun xs H Q => ∃ a dx fs, xs = [.ref a] ∧ H a = some (.ins C dx fs) ∧ sp xs H (fun v H' => ∃ b, v = .bl b ∧ Q v H') E

section
variable {X : Cx} {CX : CXT} {k : Nat} {f C : Addr} {fd : FuncData} {ps : List Str} {sp : Sp} {E : XK}
theorem ins_at {pins : List (Addr × Obj)} {s : Shared} {σ : St} {H : Hp} {a C dx : Addr} {fs : List (Str × V)} (I : Inv X pins σ H s) (e : H a = some (.ins C dx fs)) :
    ∃ od, InstAt s.heap a (instObj C dx) C (some od) := by
  obtain ⟨mA, O, _⟩ := ins_get I.hok e
  obtain ⟨od, J, _⟩ := O.look
  exact ⟨od, J⟩
theorem op_own {op : Operator} (sf : selfFirst X.K C = true) (hm : Meth X.K C (PySem.dunder op.info.2) f) (F : FnOk X.prog X.w X.K X.mg X.base CX k f fd ps sp) (hr : Room k X.A) (hb : Binds X.K fd ps []) (hx : Passes CX X E) :
    OpR X (binaryOp op) (rOwn C sp E) := by
  intro pins s σ H x y v u Q I rx ry h
  obtain ⟨a, dx, fs, b, dy, gs, rfl, rfl, ha, hb', q⟩ := h
  obtain rfl : v = Value.ref a := rx
  obtain rfl : u = Value.ref b := ry
  obtain ⟨m, F0⟩ := I.fr
  obtain ⟨od, J⟩ := ins_at I ha
  obtain ⟨od2, J2⟩ := ins_at I hb'
  refine binop_K F0 I.mod.kin J J2.type sf hm.at_ hm.fn (wpAny_mono (run_fn F hr hb (.nil : Vals [] []) hx I (us := [.ref a, .ref b]) (vs := [.ref a, .ref b]) (.cons rfl (.cons rfl .nil)) q) (fun z s' hz => ?_) fun _ _ e => e)
  obtain ⟨v', H', I', r', q'⟩ := hz
  exact cmpBack_of r' ⟨v', H', I', r', q'⟩

/-- what an own class and int say of * -/
structure RMul (K : Frag) (C : Addr) : Prop where
  rr : ∃ g : Addr, findIn K (.ref C) (dunderR "mul") = some (some (.ref g))
  im : findIn K (.type "int") (PySem.dunder "mul") = some (some (.builtin "int.__mul__"))
  ir : ∃ ro, findIn K (.type "int") (dunderR "mul") = some ro
  sub : subIn K (.type "int") (.ref C) = some false
  sub2 : subIn K (.ref C) (.type "int") = some false
theorem op_ownI (rm : RMul X.K C) (sf : selfFirst X.K C = true) (hm : Meth X.K C "__mul__" f) (F : FnOk X.prog X.w X.K X.mg X.base CX k f fd ps sp) (hr : Room k X.A) (hb : Binds X.K fd ps []) (hx : Passes CX X E) :
    OpR X (binaryOp .Mult) (rOwnI C sp E) := by
  intro pins s σ H x y v u Q I rx ry h
  obtain ⟨a, dx, fs, i, rfl, rfl, ha, q⟩ := h
  obtain rfl : v = Value.ref a := rx
  obtain ⟨t, rfl⟩ : ∃ t, u = Value.int i t := ry
  obtain ⟨m, F0⟩ := I.fr
  obtain ⟨od, J⟩ := ins_at I ha
  obtain ⟨g, hg⟩ := rm.rr
  obtain ⟨ro, hro⟩ := rm.ir
  refine ksp_binT (op := .Mult) (T := "int") F0 I.mod.kin J rfl sf hm.at_ hm.fn hg (.inr ⟨g, rfl⟩) rm.im hro rm.sub (wpAny_mono (run_fn F hr hb (.nil : Vals [] []) hx I (us := [.ref a, .int i t]) (vs := [.ref a, .int i]) (.cons rfl (.cons ⟨_, rfl⟩ .nil)) q) (fun z s' hz => ?_) fun _ _ e => e)
  obtain ⟨v', H', I', r', q'⟩ := hz
  exact cmpBack_of r' ⟨v', H', I', r', q'⟩
theorem un_ownNeg (hm : Meth X.K C "__neg__" f) (F : FnOk X.prog X.w X.K X.mg X.base CX k f fd ps sp) (hr : Room k X.A) (hb : Binds X.K fd ps []) (hx : Passes CX X E) : UnR X (unaryOp .USub) (rOwn1 C sp E) := by
  intro pins s σ H x v Q I rx h
  obtain ⟨a, dx, fs, rfl, ha, q⟩ := h
  obtain rfl : v = Value.ref a := rx
  obtain ⟨m, F0⟩ := I.fr
  obtain ⟨od, J⟩ := ins_at I ha
  exact ksp_neg F0 I.mod.kin J hm.at_ hm.fn (run_fn F hr hb (.nil : Vals [] []) hx I (us := [.ref a]) (vs := [.ref a]) (.cons rfl .nil) q)
theorem un_ownInv (hm : Meth X.K C "__invert__" f) (F : FnOk X.prog X.w X.K X.mg X.base CX k f fd ps sp) (hr : Room k X.A) (hb : Binds X.K fd ps []) (hx : Passes CX X E) : UnR X (unaryOp .Invert) (rOwn1 C sp E) := by
  intro pins s σ H x v Q I rx h
  obtain ⟨a, dx, fs, rfl, ha, q⟩ := h
  obtain rfl : v = Value.ref a := rx
  obtain ⟨m, F0⟩ := I.fr
  obtain ⟨od, J⟩ := ins_at I ha
  exact ksp_inv F0 I.mod.kin J hm.at_ hm.fn (run_fn F hr hb (.nil : Vals [] []) hx I (us := [.ref a]) (vs := [.ref a]) (.cons rfl .nil) q)
theorem op_ownEq (nf : notFirst X.K C (.ref C) = true) (hm : Meth X.K C "__eq__" f) (F : FnOk X.prog X.w X.K X.mg X.base CX k f fd ps sp) (hr : Room k X.A) (hb : Binds X.K fd ps []) (hx : Passes CX X E) : OpR X (compareOp .Eq) (rOwn C sp E) := by
  intro pins s σ H x y v u Q I rx ry h
  obtain ⟨a, dx, fs, b, dy, gs, rfl, rfl, ha, hb', q⟩ := h
  obtain rfl : v = Value.ref a := rx
  obtain rfl : u = Value.ref b := ry
  obtain ⟨m, F0⟩ := I.fr
  obtain ⟨od, J⟩ := ins_at I ha
  obtain ⟨od2, J2⟩ := ins_at I hb'
  show wpAny (model X.prog X.w) X.A (richCompare .Eq (.ref a) (.ref b)) (EP X pins σ Q) X.xe s
  refine cmp_K (op := .Eq) (tb := .ref C) hr.units0 F0 I.mod.kin J J2.type nf hm.at_ hm.fn (wpAny_mono (run_fn F hr hb (.nil : Vals [] []) hx I (us := [.ref a, .ref b]) (vs := [.ref a, .ref b]) (.cons rfl (.cons rfl .nil)) q) (fun z s' hz => ?_) fun _ _ e => e)
  obtain ⟨v', H', I', r', q'⟩ := hz
  exact cmpBack_of r' ⟨v', H', I', r', q'⟩
/-- the callee runs one deeper -/
theorem run_fn1 {pins : List (Addr × Obj)} {σ : St} {H : Hp} {s : Shared} {Q : VK} {us : List Value} {vs : List V} (F : FnOk X.prog X.w X.K X.mg X.base CX k f fd ps sp) (hr : Room (k + 1) X.A) (hb : Binds X.K fd ps []) (hx : Passes CX X E)
    (I : Inv X pins σ H s) (r : Vals vs us) (h : sp vs H Q E) : wpAny (model X.prog X.w) X.A.in1 (call (.ref f) us) (EP X pins σ Q) X.xe s := by
  have hl : (us ++ []).length = ps.length := by rw [List.append_nil, ← r.length]; exact F.len _ _ _ _ h
  have hb' := hb s us I.kIn hl
  rw [List.append_nil] at hb'
  refine wpAny_call (codeAny_mono (F.run X.A.in1 X.stack s H ⟨us, []⟩ us vs Q E hr.in1 I.env0.in1 hb' r h) fun r s' hq => ?_)
  cases r with
  | error e => exact hx pins σ H s e s' I hq
  | ok fl =>
    cases fl with
    | ret u => exact I.after hq
    | next => exact False.elim hq
    | brk => exact False.elim hq
    | cont => exact False.elim hq
theorem run_fn2 {pins : List (Addr × Obj)} {σ : St} {H : Hp} {s : Shared} {Q : VK} {us : List Value} {vs : List V} (F : FnOk X.prog X.w X.K X.mg X.base CX k f fd ps sp) (hr : Room (k + 1 + 1) X.A) (hb : Binds X.K fd ps []) (hx : Passes CX X E)
    (I : Inv X pins σ H s) (r : Vals vs us) (h : sp vs H Q E) : wpAny (model X.prog X.w) X.A.in1.in1 (call (.ref f) us) (EP X pins σ Q) X.xe s := by
  have hl : (us ++ []).length = ps.length := by rw [List.append_nil, ← r.length]; exact F.len _ _ _ _ h
  have hb' := hb s us I.kIn hl
  rw [List.append_nil] at hb'
  refine wpAny_call (codeAny_mono (F.run X.A.in1.in1 X.stack s H ⟨us, []⟩ us vs Q E hr.in1.in1 I.env0.in1.in1 hb' r h) fun r s' hq => ?_)
  cases r with
  | error e => exact hx pins σ H s e s' I hq
  | ok fl =>
    cases fl with
    | ret u => exact I.after hq
    | next => exact False.elim hq
    | brk => exact False.elim hq
    | cont => exact False.elim hq
theorem cb_ownAbs (hm : Meth X.K C "__abs__" f) (F : FnOk X.prog X.w X.K X.mg X.base CX k f fd ps sp) (hr : Room (k + 1) X.A) (hb : Binds X.K fd ps []) (hx : Passes CX X E) : CallR X (.builtin "abs") (rOwnC C sp E) := by
  intro pins s σ H xs us Q I r h
  obtain ⟨a, dx, fs, rfl, ha, q⟩ := h
  obtain ⟨u, rfl, rx⟩ := vals1 r
  obtain rfl : u = Value.ref a := rx
  obtain ⟨m, F0⟩ := I.fr
  obtain ⟨od, J⟩ := ins_at I ha
  refine Calls.call_function_entry kind_abs plain_abs entry_abs (args_abs _) ?_
  unfold Builtin.«abs»
  refine wpAny_bind (m := oneArg "abs" _) (wpAny_pure ?_)
  refine wpAny_bind (m := callSpecial? (.ref a) (Str.ofString "__abs__")) (special_fn I.kIn J hm.at_ (beq_iff_eq.mp hm.fn) (wpAny_mono (run_fn1 F hr hb hx I (us := [.ref a]) (vs := [.ref a]) (.cons rfl .nil) q) (fun z s' hz => ?_) fun _ _ e => e))
  exact wpAny_pure ⟨_, rfl, hz⟩
/-- bool(x) where the truth of x is told at this program and world -/
theorem bool_here {prog : Program} {w : World} {A : Around} {E : Value → Shared → Prop} {s : Shared} {x : Value} {Q : Value → Shared → Prop}
    (h : wpAny (model prog w) A.in1.in1 (truthy x) (fun b s' => Q (.bool b) s') E s) : wpAny (model prog w) A (call (.type "bool") [x]) Q E s := by
  have ft := F.called_bool
  obtain ⟨c, tl, hmro⟩ := ft.mro
  have hmade := ft.made
  have hsub := ft.sub
  have f1 := F.conv_sub_bool
  have h1 := ft.notType
  have h2 := ft.canCreate
  have new : wpAny (model prog w) A.in1.in1 (Builtin.«bool.__new__» ⟨[.type "bool", x], []⟩) (fun fin s' => ∃ b, fin = .done (.ret (.bool b)) ∧ Q (.bool b) s') E s := by
    obtain ⟨hp, g, d, tk, os⟩ := s
    unfold Builtin.«bool.__new__»
    repeat (any_goals (first | assumption | wp_step))
    refine wpAny_mono h (fun b s' q => ?_) (fun _ _ e => e)
    exact wpAny_pure ⟨b, rfl, q⟩
  have hlook := ft.init.lookup
  refine wpAny_call (codeAny_of_tree ?_)
  show wpAny _ _ (callAny (.type "bool") _) _ _ _
  refine wpAny_pure ⟨Code.quiet_builtin _ (by decide +kernel), codeAny_builtin PySem.F.entry_type_call ?_⟩
  rw [Around.under_plain (weight_type_call_type "bool" [x] []) (units_type_call_type "bool" [x] [])]
  repeat (any_goals (first | assumption | wp_step))
  refine codeAny_mono (codeAny_call_builtin (R := fun r s' => match r with | .ok (.ret v) => (∃ b, v = .bool b) ∧ Q v s' | .ok _ => False | .error e => E e s') ft.plain F.entry_bool_new (wpAny_of_eq (F.newCall_bool_1 x) (wpAny_mono new (fun fin s' q => ?_) fun _ _ e => e))) fun r s1 hr => ?_
  · obtain ⟨b, rfl, q⟩ := q
    exact ⟨⟨b, rfl⟩, q⟩
  · cases r with
    | error e => exact hr
    | ok fl =>
      cases fl with
      | ret obj =>
        obtain ⟨⟨b, rfl⟩, q⟩ := hr
        have hT : s1.TypeIs (.bool b) "bool" := PySem.typeIs_bool _ _
        have hbi := ft.init.bind (.bool b)
        repeat (any_goals (first | assumption | wp_step))
        have im := object_init_meets (self := .bool b) (rest := [x]) ft.init.lookup ft.made F.newNe_bool prog w A.in1 (fun r s' => r = .ok (.ret .none) ∧ Q (.bool b) s') s1 ⟨hT, rfl, q⟩
        refine codeAny_mono (codeAny_call_builtin (R := fun r s' => r = .ok (.ret .none) ∧ Q (.bool b) s') ft.init.plain PySem.F.entry_object_init (ft.init.check _ _ _ _ _ _ _ _ hT (F.args_object_init_2 _ x) im)) fun r2 s2 hr2 => ?_
        obtain ⟨rfl, q2⟩ := hr2
        repeat (any_goals (first | assumption | wp_step))
      | _ => exact hr.elim
theorem cb_ownBool (hm : Meth X.K C "__bool__" f) (F : FnOk X.prog X.w X.K X.mg X.base CX k f fd ps sp) (hr : Room (k + 1 + 1) X.A) (hb : Binds X.K fd ps []) (hx : Passes CX X E) : CallR X (.type "bool") (rOwnCB C sp E) := by
  intro pins s σ H xs us Q I r h
  obtain ⟨a, dx, fs, rfl, ha, q⟩ := h
  obtain ⟨u, rfl, rx⟩ := vals1 r
  obtain rfl : u = Value.ref a := rx
  obtain ⟨m, F0⟩ := I.fr
  obtain ⟨od, J⟩ := ins_at I ha
  refine bool_here (truthy_K F0 I.mod.kin J hm.at_ hm.fn (wpAny_mono (run_fn2 F hr hb hx I (us := [.ref a]) (vs := [.ref a]) (.cons rfl .nil) q) (fun z s' hz => ?_) fun _ _ e => e))
  obtain ⟨v', H', I', r', b, rfl, q'⟩ := hz
  cases (show z = Value.bool b from r')
  exact ⟨.bl b, H', I', rfl, q'⟩
end
end L2
/-! an int times an own instance: the reflected method -/
namespace L2
open PySem PySem.Spec PyProof.Rows PySem.W
theorem int_mul_declines (i : Int) (t : Tok) (a : Addr) (C dx : Addr) :
    Meets (Builtin.«int.__mul__» ⟨[.int i t, .ref a], []⟩) (fun _ R s => s.heap.get? a = some (instObj C dx) ∧ R (.ok (.ret Value.notImplemented)) s) :=
  .of_wp fun prog w A R s h => by
    obtain ⟨hp, g, d, tk, os⟩ := s
    obtain ⟨hl, h⟩ := h
    unfold instObj at hl
    wp_walk
    exact ⟨_, rfl, h⟩
theorem fills_int_mul {K : Frag} {M : Model} {h : Heap} {ro : Option Value} (X : K.In h) (h1 : findIn K (.type "int") (PySem.dunder "mul") = some (some (.builtin "int.__mul__"))) (h2 : findIn K (.type "int") (dunderR "mul") = some ro) :
    Looks M h (fillsNumberSlot (.type "int") "mul") true := by
  have e := ksp_fillsT (M := M) (T := "int") (nm := "mul") X h1 h2
  rw [show (((some (Value.builtin "int.__mul__")).isSome && !isSeqSlot (some (.builtin "int.__mul__"))) || (ro.isSome && !isSeqSlot ro)) = true from by
    rw [show ((some (Value.builtin "int.__mul__")).isSome && !isSeqSlot (some (.builtin "int.__mul__"))) = true from by decide +kernel]
    rfl] at e
  exact e
section
variable {X : Cx} {CX : CXT} {k : Nat} {f f0 C : Addr} {fd : FuncData} {ps : List Str} {sp : Sp} {E : XK}
theorem op_Iown (rm : RMul X.K C) (sf : selfFirst X.K C = true) (hm0 : Meth X.K C "__mul__" f0) (hm : Meth X.K C "__rmul__" f) (F : FnOk X.prog X.w X.K X.mg X.base CX k f fd ps sp) (hr : Room k X.A) (hb : Binds X.K fd ps []) (hx : Passes CX X E) :
    OpR X (binaryOp .Mult) (rIOwn C sp E) := by
  intro pins s σ H x y v u Q I rx ry h
  obtain ⟨a, dx, fs, i, rfl, rfl, ha, q⟩ := h
  obtain rfl : u = Value.ref a := ry
  obtain ⟨t, rfl⟩ : ∃ t, v = Value.int i t := rx
  obtain ⟨od, J⟩ := ins_at I ha
  obtain ⟨ro, hro⟩ := rm.ir
  obtain ⟨cd, rest, hcd, hmro⟩ := ksp_first sf
  have KX := I.kIn
  have run := run_fn F hr hb (.nil : Vals [] []) hx I (us := [.ref a, .int i t]) (vs := [.ref a, .int i]) (.cons rfl (.cons ⟨_, rfl⟩ .nil)) q
  have one := ksp_try (b := .int i t) (name := "__rmul__") KX J hm.at_ hm.fn (wpAny_mono run (fun z s' hz => cmpBack_of hz.choose_spec.choose_spec.2.1 (Q' := EP X pins σ Q) hz) fun _ _ e => e)
  have L1 : Looks (model X.prog X.w) s.heap (typeOf (.int i t)) (.type "int") := Looks.of_pure rfl
  have L2 : Looks (model X.prog X.w) s.heap (typeOf (.ref a)) (.ref C) := J.type
  have L3 : Looks (model X.prog X.w) s.heap (fillsNumberSlot (.type "int") "mul") true := fills_int_mul KX rm.im hro
  have L4 : Looks (model X.prog X.w) s.heap (fillsNumberSlot (.ref C) "mul") true := fills_K KX hcd hmro hm0.at_
  have L5 : Looks (model X.prog X.w) s.heap (isSubtype (.ref C) (.type "int")) false := looks_subIn KX rm.sub2
  have L6 : Looks (model X.prog X.w) s.heap (numberSlotInPython (.type "int") "mul") false := Looks.of_pure rfl
  have hT : s.TypeIs (.int i t) "int" := PySem.typeIs_int _ _ _
  obtain ⟨hh, g, d, tt, os⟩ := s
  have hne : (Value.type "int" == Value.ref C) = false := Bool.eq_false_iff.mpr fun q => by cases beq_iff_eq.mp q
  have hobj : hh.get? a = some (instObj C dx) := J.at_
  show wpAny _ _ (binaryOp .Mult _ _) _ _ _
  simp only [binaryOp, show Operator.Mult.info = ("*", "mul") from rfl]
  refine wpAny_holding (wpAny_bind ?_)
  unfold binaryOp1
  refine wpAny_bind (L1.at (wpAny_bind (L2.at (wpAny_bind (L3.at ?_)))))
  simp only [hne, Bool.false_eq_true, if_false]
  refine wpAny_bind (L4.at ?_)
  simp only [Bool.and_self, if_true]
  refine wpAny_bind (L5.at ?_)
  simp only [Bool.false_eq_true, if_false]
  refine wpAny_bind (wpAny_pure ?_)
  refine wpAny_bind (wpAny_tryMethod_declines hT PySem.F.slot_int_mul (call_meets PySem.F.slot_int_mul hT PySem.F.entry_int_mul (PySem.F.args_int_mul_2 _ _) (int_mul_declines i t a C dx) ⟨hobj, rfl, ?_⟩))
  simp only [Bool.not_false, Bool.and_self, if_true, Bool.false_eq_true, if_false]
  refine wpAny_bind (wpAny_mono one (fun r s' hr' => ?_) fun _ _ e => e)
  obtain ⟨v, rfl, hq⟩ := hr'
  refine wpAny_bind (wpAny_rule ?_)
  refine wpAny_pure ?_
  exact wpAny_pure hq
end
end L2
/-! objects: fields, makings, methods, by named readings -/
namespace Pf
open PySem L2
section
variable {K : PySem.W.Frag} {σ : L2.St} {H H' : Hp} {v x y : V} {ta tb te tv : TE} {t : TA} {D : Ends} {Q : VK} {C : Addr} {sp : Sp} {E : XK} {dvs vs : List V} {f m : Str}
def rFld (K : PySem.W.Frag) (f : Str) (x : V) (H : Hp) (Q : VK) : Prop := tFld K (fun _ H Q => Q x H) f [] H Q
theorem i_fld (k : ta σ H fun x H1 => rFld K f x H1 Q) : tFld K ta f σ H Q := k
theorem i_rfld {p C dx : Addr} {fs : List (Str × V)} (h : H p = some (.ins C dx fs)) (c : Cls K C) (n : NoAttr K C f) (l : fs.lookup f = some v) (k : Q v H) : rFld K f (.ref p) H Q := ⟨p, C, dx, fs, v, rfl, h, c, n, l, k⟩
def rPut (K : PySem.W.Frag) (f : Str) (D : Ends) (σ : L2.St) (y x : V) (H : Hp) : Prop := sFld K (fun _ H Q => Q x H) (fun _ H Q => Q y H) f D σ H
theorem i_put (k : tv σ H fun y H1 => ta σ H1 fun x H2 => rPut K f D σ y x H2) : sFld K ta tv f D σ H := k
theorem i_rput {p C dx : Addr} {fs : List (Str × V)} (h : H p = some (.ins C dx fs)) (c : Cls K C) (n : NoAttr K C f) (l : fs.length < 1000) (k : D.nx σ (upd H p (.ins C dx (putF f y fs)))) : rPut K f D σ y (.ref p) H := ⟨p, C, dx, fs, rfl, h, c, n, l, k⟩
def rMake (C : Addr) (sp : Sp) (dvs : List V) (E : XK) (vs : List V) (H : Hp) (Q : VK) : Prop := tMake C sp dvs E (fun _ H Q => Q vs H) [] H Q
theorem i_make (k : t σ H fun vs H1 => rMake C sp dvs E vs H1 Q) : tMake C sp dvs E t σ H Q := k
def rMeth (C : Addr) (m : Str) (sp : Sp) (E : XK) (t : TA) (σ : L2.St) (x : V) (H : Hp) (Q : VK) : Prop := tMeth C m sp [] E (fun _ H Q => Q x H) t σ H Q
theorem i_meth (k : ta σ H fun x H1 => rMeth C m sp E t σ x H1 Q) : tMeth C m sp [] E ta t σ H Q := k
theorem i_rmeth {p dx : Addr} {fs : List (Str × V)} (h : H p = some (.ins C dx fs)) (l : fs.lookup m = none) (k : t σ H fun vs H2 => sp (.ref p :: vs) H2 Q E) : rMeth C m sp E t σ (.ref p) H Q := by
  refine ⟨p, dx, fs, rfl, h, l, ?_⟩
  simpa using k
theorem i_own {p dx q dy : Addr} {fs gs : List (Str × V)} (h : H p = some (.ins C dx fs)) (h2 : H q = some (.ins C dy gs)) (k : sp [.ref p, .ref q] H Q E) : rOwn C sp E (.ref p) (.ref q) H Q := ⟨p, dx, fs, q, dy, gs, rfl, rfl, h, h2, k⟩
theorem i_ownI {p dx : Addr} {i : Int} {fs : List (Str × V)} (h : H p = some (.ins C dx fs)) (k : sp [.ref p, .int i] H Q E) : rOwnI C sp E (.ref p) (.int i) H Q := ⟨p, dx, fs, i, rfl, rfl, h, k⟩
theorem i_Iown {p dx : Addr} {i : Int} {fs : List (Str × V)} (h : H p = some (.ins C dx fs)) (k : sp [.ref p, .int i] H Q E) : rIOwn C sp E (.int i) (.ref p) H Q := ⟨p, dx, fs, i, rfl, rfl, h, k⟩
theorem i_own1 {p dx : Addr} {fs : List (Str × V)} (h : H p = some (.ins C dx fs)) (k : sp [.ref p] H Q E) : rOwn1 C sp E (.ref p) H Q := ⟨p, dx, fs, rfl, h, k⟩
theorem i_ownC {p dx : Addr} {fs : List (Str × V)} (h : H p = some (.ins C dx fs)) (k : sp [.ref p] H Q E) : rOwnC C sp E [.ref p] H Q := ⟨p, dx, fs, rfl, h, k⟩
theorem i_ownCB {p dx : Addr} {fs : List (Str × V)} (h : H p = some (.ins C dx fs)) (k : sp [.ref p] H (fun v H' => ∃ b, v = .bl b ∧ Q v H') E) : rOwnCB C sp E [.ref p] H Q := ⟨p, dx, fs, rfl, h, k⟩
theorem i_gcd {a b : Int} (k : Q (.int ((Nat.gcd a.natAbs b.natAbs : Nat) : Int)) H) : rGcd [.int a, .int b] H Q := ⟨a, b, rfl, k⟩
theorem i_isiII (k : Q (.bl true) H) {i : Int} : rIsi K [.int i, .ty "int"] H Q := i_isi (.ty _) (.base (.int i)) (kit_ty (by decide +kernel)) k
theorem i_isiIB (k : Q (.bl false) H) {i : Int} : rIsi K [.int i, .ty "bool"] H Q := i_isi (.ty _) (.base (.int i)) (kit_ty (by decide +kernel)) k
theorem i_isiBB (k : Q (.bl true) H) {b : Bool} : rIsi K [.bl b, .ty "bool"] H Q := i_isi (.ty _) (.base (.bl b)) (kit_ty (by decide +kernel)) k
end
/-! lists of truth values compared -/
def bools (bs : List Bool) : List PyData := bs.map .bool
theorem dp_bools {K : PySem.W.Frag} {H : Hp} : ∀ bs : List Bool, DpAll K H (bs.map V.bl) (bools bs)
  | [] => .nil
  | b :: bs => .cons (.bl b) (dp_bools bs)
end Pf
/-! fractions in lowest terms, plain -/
namespace Pf
def cg (n d : Int) : Int := if d < 0 then -((Nat.gcd n.natAbs d.natAbs : Nat) : Int) else ((Nat.gcd n.natAbs d.natAbs : Nat) : Int)
def nn (n d : Int) : Int := n.fdiv (cg n d)
def nd (n d : Int) : Int := d.fdiv (cg n d)
theorem cg_ne {n d : Int} (h : d ≠ 0) : cg n d ≠ 0 := by
  have h1 : 0 < Nat.gcd n.natAbs d.natAbs := Nat.gcd_pos_of_pos_right _ (by omega)
  unfold cg
  split <;> omega
theorem cg_dn (n d : Int) : cg n d ∣ n := by
  have h : ((Nat.gcd n.natAbs d.natAbs : Nat) : Int) ∣ n := Int.ofNat_dvd_left.mpr (Nat.gcd_dvd_left _ _)
  unfold cg
  split
  · exact Int.neg_dvd.mpr h
  · exact h
theorem cg_dd (n d : Int) : cg n d ∣ d := by
  have h : ((Nat.gcd n.natAbs d.natAbs : Nat) : Int) ∣ d := Int.ofNat_dvd_left.mpr (Nat.gcd_dvd_right _ _)
  unfold cg
  split
  · exact Int.neg_dvd.mpr h
  · exact h
theorem nn_mul (n d : Int) : nn n d * cg n d = n := by
  unfold nn
  exact Int.fdiv_mul_cancel (cg_dn n d)
theorem nd_mul (n d : Int) : nd n d * cg n d = d := by
  unfold nd
  exact Int.fdiv_mul_cancel (cg_dd n d)
theorem nd_pos {n d : Int} (h : d ≠ 0) : 0 < nd n d := by
  have e := nd_mul n d
  have hc := cg_ne (n := n) h
  have hg : (0 : Int) < ((Nat.gcd n.natAbs d.natAbs : Nat) : Int) := by
    have h1 : 0 < Nat.gcd n.natAbs d.natAbs := Nat.gcd_pos_of_pos_right _ (by omega)
    omega
  by_cases hd : d < 0
  · have e2 : cg n d = -((Nat.gcd n.natAbs d.natAbs : Nat) : Int) := by unfold cg; rw [if_pos hd]
    rw [e2] at e
    rcases Int.lt_trichotomy (nd n d) 0 with h1 | h1 | h1
    · have := Int.mul_pos_of_neg_of_neg h1 (show -((Nat.gcd n.natAbs d.natAbs : Nat) : Int) < 0 by omega)
      omega
    · rw [h1, Int.zero_mul] at e
      omega
    · exact h1
  · have e2 : cg n d = ((Nat.gcd n.natAbs d.natAbs : Nat) : Int) := by unfold cg; rw [if_neg hd]
    rw [e2] at e
    rcases Int.lt_trichotomy (nd n d) 0 with h1 | h1 | h1
    · have := Int.mul_neg_of_neg_of_pos h1 hg
      omega
    · rw [h1, Int.zero_mul] at e
      omega
    · exact h1
theorem cg_scale {k n d : Int} (hk : k ≠ 0) (hd : d ≠ 0) : cg (k * n) (k * d) = k * cg n d ∨ cg (k * n) (k * d) = k * cg n d := by
  left
  unfold cg
  rw [Int.natAbs_mul, Int.natAbs_mul, Nat.gcd_mul_left]
  have e : (((k.natAbs * Nat.gcd n.natAbs d.natAbs : Nat)) : Int) = (k.natAbs : Int) * ((Nat.gcd n.natAbs d.natAbs : Nat) : Int) := by rw [Int.natCast_mul]
  rw [e]
  rcases Int.lt_trichotomy k 0 with h | h | h
  · have ek : (k.natAbs : Int) = -k := by omega
    rw [ek]
    by_cases h2 : d < 0
    · have h3 : ¬ k * d < 0 := by
        have := Int.mul_pos_of_neg_of_neg h h2
        omega
      rw [if_neg h3, if_pos h2, Int.neg_mul, Int.mul_neg]
    · have h3 : k * d < 0 := Int.mul_neg_of_neg_of_pos h (by omega)
      rw [if_pos h3, if_neg h2, Int.neg_mul, Int.neg_neg]
  · exact absurd h hk
  · have ek : (k.natAbs : Int) = k := by omega
    rw [ek]
    by_cases h2 : d < 0
    · have h3 : k * d < 0 := Int.mul_neg_of_pos_of_neg h h2
      rw [if_pos h3, if_pos h2, Int.mul_neg]
    · have h3 : ¬ k * d < 0 := by
        have := Int.mul_pos h (show 0 < d by omega)
        omega
      rw [if_neg h3, if_neg h2]
theorem mul_left_cancel' {k a b : Int} (hk : k ≠ 0) (h : a * k = b * k) : a = b := Int.eq_of_mul_eq_mul_right hk h
theorem nn_scale {k n d : Int} (hk : k ≠ 0) (hd : d ≠ 0) : nn (k * n) (k * d) = nn n d := by
  have e := nn_mul (k * n) (k * d)
  have e2 := nn_mul n d
  have ec : cg (k * n) (k * d) = k * cg n d := (cg_scale hk hd).elim id id
  rw [ec] at e
  have hc : k * cg n d ≠ 0 := Int.mul_ne_zero hk (cg_ne hd)
  refine mul_left_cancel' hc ?_
  rw [e, ← Int.mul_assoc, Int.mul_comm (nn n d) k, Int.mul_assoc, e2]
theorem nd_scale {k n d : Int} (hk : k ≠ 0) (hd : d ≠ 0) : nd (k * n) (k * d) = nd n d := by
  have e := nd_mul (k * n) (k * d)
  have e2 := nd_mul n d
  have ec : cg (k * n) (k * d) = k * cg n d := (cg_scale hk hd).elim id id
  rw [ec] at e
  have hc : k * cg n d ≠ 0 := Int.mul_ne_zero hk (cg_ne hd)
  refine mul_left_cancel' hc ?_
  rw [e, ← Int.mul_assoc, Int.mul_comm (nd n d) k, Int.mul_assoc, e2]
/-- two fractions of one value -/
theorem same_of {n d n' d' k : Int} (hk : k ≠ 0) (hd : d ≠ 0) (e1 : n' = k * n) (e2 : d' = k * d) : nn n d = nn n' d' ∧ nd n d = nd n' d' := by
  subst e1; subst e2
  exact ⟨(nn_scale hk hd).symm, (nd_scale hk hd).symm⟩
theorem same_cross {a b c d : Int} (hb : b ≠ 0) (hd : d ≠ 0) (h : a * d = c * b) : nn a b = nn c d ∧ nd a b = nd c d := by
  have h1 := same_of (n := a) (d := b) (n' := d * a) (d' := d * b) hd hb rfl rfl
  have h2 := same_of (n := c) (d := d) (n' := b * c) (d' := b * d) hb hd rfl rfl
  have e1 : d * a = b * c := by rw [Int.mul_comm d a, h, Int.mul_comm]
  have e2 : d * b = b * d := Int.mul_comm _ _
  rw [h1.1, h1.2, h2.1, h2.2, e1, e2]
  exact ⟨rfl, rfl⟩
theorem fr (a b : Int) : a = nn a b * cg a b ∧ b = nd a b * cg a b := ⟨(nn_mul a b).symm, (nd_mul a b).symm⟩
section
variable {a b c d k : Int}
theorem add_same (hb : b ≠ 0) (hd : d ≠ 0) : nn (nn a b * nd c d + nn c d * nd a b) (nd a b * nd c d) = nn (a * d + c * b) (b * d) ∧ nd (nn a b * nd c d + nn c d * nd a b) (nd a b * nd c d) = nd (a * d + c * b) (b * d) := by
  have p1 := nd_pos (n := a) hb
  have p2 := nd_pos (n := c) hd
  have c1 := cg_ne (n := a) hb
  have c2 := cg_ne (n := c) hd
  obtain ⟨e1, e2⟩ := fr a b
  obtain ⟨e3, e4⟩ := fr c d
  refine same_of (k := cg a b * cg c d) (Int.mul_ne_zero c1 c2) (Int.mul_ne_zero (by omega) (by omega)) ?_ ?_
  · generalize nn a b = N at *
    generalize nd a b = D at *
    generalize nn c d = N' at *
    generalize nd c d = D' at *
    generalize cg a b = g at *
    generalize cg c d = g' at *
    subst e1 e2 e3 e4
    grind
  · generalize nn a b = N at *
    generalize nd a b = D at *
    generalize nd c d = D' at *
    generalize cg a b = g at *
    generalize cg c d = g' at *
    subst e2 e4
    grind
theorem sub_same (hb : b ≠ 0) (hd : d ≠ 0) : nn (nn a b * nd c d - nn c d * nd a b) (nd a b * nd c d) = nn (a * d - c * b) (b * d) ∧ nd (nn a b * nd c d - nn c d * nd a b) (nd a b * nd c d) = nd (a * d - c * b) (b * d) := by
  have p1 := nd_pos (n := a) hb
  have p2 := nd_pos (n := c) hd
  have c1 := cg_ne (n := a) hb
  have c2 := cg_ne (n := c) hd
  obtain ⟨e1, e2⟩ := fr a b
  obtain ⟨e3, e4⟩ := fr c d
  refine same_of (k := cg a b * cg c d) (Int.mul_ne_zero c1 c2) (Int.mul_ne_zero (by omega) (by omega)) ?_ ?_
  · generalize nn a b = N at *
    generalize nd a b = D at *
    generalize nn c d = N' at *
    generalize nd c d = D' at *
    generalize cg a b = g at *
    generalize cg c d = g' at *
    subst e1 e2 e3 e4
    grind
  · generalize nn a b = N at *
    generalize nd a b = D at *
    generalize nd c d = D' at *
    generalize cg a b = g at *
    generalize cg c d = g' at *
    subst e2 e4
    grind
theorem mul_same (hb : b ≠ 0) (hd : d ≠ 0) : nn (nn a b * nn c d) (nd a b * nd c d) = nn (a * c) (b * d) ∧ nd (nn a b * nn c d) (nd a b * nd c d) = nd (a * c) (b * d) := by
  have p1 := nd_pos (n := a) hb
  have p2 := nd_pos (n := c) hd
  have c1 := cg_ne (n := a) hb
  have c2 := cg_ne (n := c) hd
  obtain ⟨e1, e2⟩ := fr a b
  obtain ⟨e3, e4⟩ := fr c d
  refine same_of (k := cg a b * cg c d) (Int.mul_ne_zero c1 c2) (Int.mul_ne_zero (by omega) (by omega)) ?_ ?_
  · generalize nn a b = N at *
    generalize nn c d = N' at *
    generalize cg a b = g at *
    generalize cg c d = g' at *
    subst e1 e3
    grind
  · generalize nd a b = D at *
    generalize nd c d = D' at *
    generalize cg a b = g at *
    generalize cg c d = g' at *
    subst e2 e4
    grind
theorem mulk_same (hb : b ≠ 0) : nn (nn a b * k) (nd a b) = nn (a * k) b ∧ nd (nn a b * k) (nd a b) = nd (a * k) b := by
  have p1 := nd_pos (n := a) hb
  have c1 := cg_ne (n := a) hb
  obtain ⟨e1, e2⟩ := fr a b
  refine same_of (k := cg a b) c1 (by omega) ?_ ?_
  · generalize nn a b = N at *
    generalize cg a b = g at *
    subst e1
    grind
  · generalize nd a b = D at *
    generalize cg a b = g at *
    subst e2
    grind
theorem neg_same (hb : b ≠ 0) : nn (-nn a b) (nd a b) = nn (-a) b ∧ nd (-nn a b) (nd a b) = nd (-a) b := by
  have h := mulk_same (a := a) (b := b) (k := -1) hb
  have e1 : nn a b * -1 = -nn a b := by omega
  have e2 : a * -1 = -a := by omega
  rw [e1, e2] at h
  exact h
def iabs (i : Int) : Int := if i < 0 then -i else i
theorem iabs_mul (i j : Int) : iabs (i * j) = iabs i * iabs j := by
  unfold iabs
  have h1 := Int.natAbs_mul i j
  have e : ∀ x : Int, (if x < 0 then -x else x) = (x.natAbs : Int) := fun x => by split <;> omega
  rw [e, e, e, h1, Int.natCast_mul]
theorem iabs_pos {i : Int} (h : i ≠ 0) : 0 < iabs i := by
  unfold iabs
  split <;> omega
theorem abs_same (hb : b ≠ 0) : nn (iabs (nn a b)) (nd a b) = nn (iabs a) (iabs b) ∧ nd (iabs (nn a b)) (nd a b) = nd (iabs a) (iabs b) := by
  have p1 := nd_pos (n := a) hb
  have c1 := iabs_pos (cg_ne (n := a) hb)
  obtain ⟨e1, e2⟩ := fr a b
  refine same_of (k := iabs (cg a b)) (by omega) (by omega) ?_ ?_
  · conv => lhs; rw [e1]
    rw [iabs_mul, Int.mul_comm]
  · conv => lhs; rw [e2]
    rw [iabs_mul, Int.mul_comm, show iabs (nd a b) = nd a b by unfold iabs; rw [if_neg (by omega)]]
theorem self_sub (hb : b ≠ 0) : nn (nn a b * nd a b - nn a b * nd a b) (nd a b * nd a b) = nn 0 1 ∧ nd (nn a b * nd a b - nn a b * nd a b) (nd a b * nd a b) = nd 0 1 := by
  have p1 := nd_pos (n := a) hb
  have h := same_of (n := 0) (d := 1) (n' := nn a b * nd a b - nn a b * nd a b) (d' := nd a b * nd a b) (k := nd a b * nd a b) (Int.mul_ne_zero (by omega) (by omega)) (by decide) (by omega) (by omega)
  exact ⟨h.1.symm, h.2.symm⟩
theorem lt_same (hb : b ≠ 0) (hd : d ≠ 0) : (nn a b * nd c d < nn c d * nd a b) ↔ (a * b * d * d < c * d * b * b) := by
  have p1 := nd_pos (n := a) hb
  have p2 := nd_pos (n := c) hd
  have c1 := cg_ne (n := a) hb
  have c2 := cg_ne (n := c) hd
  obtain ⟨e1, e2⟩ := fr a b
  obtain ⟨e3, e4⟩ := fr c d
  generalize nn a b = N at *
  generalize nd a b = D at *
  generalize nn c d = N' at *
  generalize nd c d = D' at *
  generalize cg a b = g at *
  generalize cg c d = g' at *
  subst e1 e2 e3 e4
  have q1 : 0 < g * g := by rcases Int.lt_trichotomy g 0 with h | h | h; exact Int.mul_pos_of_neg_of_neg h h; exact absurd h c1; exact Int.mul_pos h h
  have q2 : 0 < g' * g' := by rcases Int.lt_trichotomy g' 0 with h | h | h; exact Int.mul_pos_of_neg_of_neg h h; exact absurd h c2; exact Int.mul_pos h h
  have q : 0 < (g * g) * (g' * g') * (D * D') := Int.mul_pos (Int.mul_pos q1 q2) (Int.mul_pos p1 p2)
  have f1 : N * g * (D * g) * (D' * g') * (D' * g') = ((g * g) * (g' * g') * (D * D')) * (N * D') := by grind
  have f2 : N' * g' * (D' * g') * (D * g) * (D * g) = ((g * g) * (g' * g') * (D * D')) * (N' * D) := by grind
  rw [f1, f2]
  constructor
  · intro h
    exact Int.mul_lt_mul_of_pos_left h q
  · intro h
    exact Int.lt_of_mul_lt_mul_left h (Int.le_of_lt q)
theorem eq_same (hb : b ≠ 0) (hd : d ≠ 0) : (nn a b = nn c d ∧ nd a b = nd c d) ↔ (a * b * d * d = c * d * b * b) := by
  constructor
  · rintro ⟨h1, h2⟩
    obtain ⟨e1, e2⟩ := fr a b
    obtain ⟨e3, e4⟩ := fr c d
    rw [h1] at e1
    rw [h2] at e2
    generalize nn c d = N' at *
    generalize nd c d = D' at *
    generalize cg a b = g at *
    generalize cg c d = g' at *
    clear h1 h2
    subst e1 e2 e3 e4
    grind
  · intro h
    refine same_cross hb hd ?_
    have e1 : a * b * d * d = (a * d) * (b * d) := by grind
    have e2 : c * d * b * b = (c * b) * (b * d) := by grind
    rw [e1, e2] at h
    exact mul_left_cancel' (Int.mul_ne_zero hb hd) h
theorem zero_same (hb : b ≠ 0) : nn a b = 0 ↔ a = 0 := by
  obtain ⟨e1, e2⟩ := fr a b
  have c1 := cg_ne (n := a) hb
  constructor
  · intro h
    rw [h, Int.zero_mul] at e1
    exact e1
  · intro h
    rw [h] at e1
    rcases Int.mul_eq_zero.mp e1.symm with z | z
    · rw [h]; exact z
    · rw [h] at c1; exact absurd z c1
theorem is_same (n d : Int) : nn n d * cg n d = n ∧ nd n d * cg n d = d := ⟨nn_mul n d, nd_mul n d⟩
theorem nn_le (n : Int) {d : Int} (h : d ≠ 0) : (nn n d).natAbs ≤ n.natAbs := by
  have e := nn_mul n d
  have hc := cg_ne (n := n) h
  have e2 : (nn n d).natAbs * (cg n d).natAbs = n.natAbs := by rw [← Int.natAbs_mul, e]
  have h1 : 1 ≤ (cg n d).natAbs := by omega
  calc (nn n d).natAbs = (nn n d).natAbs * 1 := (Nat.mul_one _).symm
    _ ≤ (nn n d).natAbs * (cg n d).natAbs := Nat.mul_le_mul_left _ h1
    _ = n.natAbs := e2
theorem nd_le (n : Int) {d : Int} (h : d ≠ 0) : (nd n d).natAbs ≤ d.natAbs := by
  have e := nd_mul n d
  have hc := cg_ne (n := n) h
  have e2 : (nd n d).natAbs * (cg n d).natAbs = d.natAbs := by rw [← Int.natAbs_mul, e]
  have h1 : 1 ≤ (cg n d).natAbs := by omega
  calc (nd n d).natAbs = (nd n d).natAbs * 1 := (Nat.mul_one _).symm
    _ ≤ (nd n d).natAbs * (cg n d).natAbs := Nat.mul_le_mul_left _ h1
    _ = d.natAbs := e2
theorem cg_le (n : Int) {d : Int} (h : d ≠ 0) : (cg n d).natAbs ≤ d.natAbs := by
  have hg : Nat.gcd n.natAbs d.natAbs ≤ d.natAbs := Nat.gcd_le_right _ (by omega)
  unfold cg
  split <;> omega
end
end Pf
namespace K00
open PySem L2 Pf
def top (i : Nat) : Stmt := PySem.Challenge.pw_unbrokenrows_k00_share_arithmetic.main.body.getD i (.Pass ⟨0, 0, 0, 0⟩)
abbrev s_ShareD_initD : Stmt := inClass (top 6) 0
abbrev N_ShareD_initD : List Str := ["self", "num", "den", "common"]
theorem st_ShareD_initD (x0 x1 x2 : V) : start N_ShareD_initD [x0, x1, x2] = [some x0, some x1, some x2, none] := rfl
theorem sc_ShareD_initD : FnScope N_ShareD_initD ["self", "num", "den"] (defScope s_ShareD_initD) := ⟨rfl, rfl, rfl, by decide +kernel, rfl, by decide +kernel, by decide +kernel⟩
abbrev s_Share_below : Stmt := inClass (top 6) 2
abbrev N_Share_below : List Str := ["self", "other"]
theorem st_Share_below (x0 x1 : V) : start N_Share_below [x0, x1] = [some x0, some x1] := rfl
theorem sc_Share_below : FnScope N_Share_below ["self", "other"] (defScope s_Share_below) := ⟨rfl, rfl, rfl, by decide +kernel, rfl, by decide +kernel, by decide +kernel⟩
abbrev s_ShareD_addD : Stmt := inClass (top 6) 3
abbrev N_ShareD_addD : List Str := ["self", "other"]
theorem st_ShareD_addD (x0 x1 : V) : start N_ShareD_addD [x0, x1] = [some x0, some x1] := rfl
theorem sc_ShareD_addD : FnScope N_ShareD_addD ["self", "other"] (defScope s_ShareD_addD) := ⟨rfl, rfl, rfl, by decide +kernel, rfl, by decide +kernel, by decide +kernel⟩
abbrev s_ShareD_subD : Stmt := inClass (top 6) 4
abbrev N_ShareD_subD : List Str := ["self", "other"]
theorem st_ShareD_subD (x0 x1 : V) : start N_ShareD_subD [x0, x1] = [some x0, some x1] := rfl
theorem sc_ShareD_subD : FnScope N_ShareD_subD ["self", "other"] (defScope s_ShareD_subD) := ⟨rfl, rfl, rfl, by decide +kernel, rfl, by decide +kernel, by decide +kernel⟩
abbrev s_ShareD_mulD : Stmt := inClass (top 6) 5
abbrev N_ShareD_mulD : List Str := ["self", "other"]
theorem st_ShareD_mulD (x0 x1 : V) : start N_ShareD_mulD [x0, x1] = [some x0, some x1] := rfl
theorem sc_ShareD_mulD : FnScope N_ShareD_mulD ["self", "other"] (defScope s_ShareD_mulD) := ⟨rfl, rfl, rfl, by decide +kernel, rfl, by decide +kernel, by decide +kernel⟩
abbrev s_ShareD_rmulD : Stmt := inClass (top 6) 6
abbrev N_ShareD_rmulD : List Str := ["self", "other"]
theorem st_ShareD_rmulD (x0 x1 : V) : start N_ShareD_rmulD [x0, x1] = [some x0, some x1] := rfl
theorem sc_ShareD_rmulD : FnScope N_ShareD_rmulD ["self", "other"] (defScope s_ShareD_rmulD) := ⟨rfl, rfl, rfl, by decide +kernel, rfl, by decide +kernel, by decide +kernel⟩
abbrev s_ShareD_negD : Stmt := inClass (top 6) 7
abbrev N_ShareD_negD : List Str := ["self"]
theorem st_ShareD_negD (x0 : V) : start N_ShareD_negD [x0] = [some x0] := rfl
theorem sc_ShareD_negD : FnScope N_ShareD_negD ["self"] (defScope s_ShareD_negD) := ⟨rfl, rfl, rfl, by decide +kernel, rfl, by decide +kernel, by decide +kernel⟩
abbrev s_ShareD_absD : Stmt := inClass (top 6) 8
abbrev N_ShareD_absD : List Str := ["self"]
theorem st_ShareD_absD (x0 : V) : start N_ShareD_absD [x0] = [some x0] := rfl
theorem sc_ShareD_absD : FnScope N_ShareD_absD ["self"] (defScope s_ShareD_absD) := ⟨rfl, rfl, rfl, by decide +kernel, rfl, by decide +kernel, by decide +kernel⟩
abbrev s_ShareD_boolD : Stmt := inClass (top 6) 9
abbrev N_ShareD_boolD : List Str := ["self"]
theorem st_ShareD_boolD (x0 : V) : start N_ShareD_boolD [x0] = [some x0] := rfl
theorem sc_ShareD_boolD : FnScope N_ShareD_boolD ["self"] (defScope s_ShareD_boolD) := ⟨rfl, rfl, rfl, by decide +kernel, rfl, by decide +kernel, by decide +kernel⟩
abbrev s_ShareD_eqD : Stmt := inClass (top 6) 10
abbrev N_ShareD_eqD : List Str := ["self", "other"]
theorem st_ShareD_eqD (x0 x1 : V) : start N_ShareD_eqD [x0, x1] = [some x0, some x1] := rfl
theorem sc_ShareD_eqD : FnScope N_ShareD_eqD ["self", "other"] (defScope s_ShareD_eqD) := ⟨rfl, rfl, rfl, by decide +kernel, rfl, by decide +kernel, by decide +kernel⟩
abbrev s_law_cell : Stmt := top 8
abbrev N_law_cell : List Str := ["script", "k"]
theorem st_law_cell (x0 x1 : V) : start N_law_cell [x0, x1] = [some x0, some x1] := rfl
theorem sc_law_cell : FnScope N_law_cell ["script", "k"] (defScope s_law_cell) := ⟨rfl, rfl, rfl, by decide +kernel, rfl, by decide +kernel, by decide +kernel⟩
abbrev s_law_pool : Stmt := top 9
abbrev N_law_pool : List Str := ["script", "k", "count", "value", "pool", "i", "first", "second", "third"]
theorem st_law_pool (x0 x1 x2 : V) : start N_law_pool [x0, x1, x2] = [some x0, some x1, some x2, none, none, none, none, none, none] := rfl
theorem sc_law_pool : FnScope N_law_pool ["script", "k", "count"] (defScope s_law_pool) := ⟨rfl, rfl, rfl, by decide +kernel, rfl, by decide +kernel, by decide +kernel⟩
abbrev s_law_whole : Stmt := top 10
abbrev N_law_whole : List Str := ["pool", "i", "menu", "many", "draw"]
theorem st_law_whole (x0 x1 : V) : start N_law_whole [x0, x1] = [some x0, some x1, none, none, none] := rfl
theorem sc_law_whole : FnScope N_law_whole ["pool", "i"] (defScope s_law_whole) := ⟨rfl, rfl, rfl, by decide +kernel, rfl, by decide +kernel, by decide +kernel⟩
abbrev s_law_wide : Stmt := top 11
abbrev N_law_wide : List Str := ["pool", "at", "spans", "span", "draw", "i"]
theorem st_law_wide (x0 x1 : V) : start N_law_wide [x0, x1] = [some x0, some x1, none, none, none, none] := rfl
theorem sc_law_wide : FnScope N_law_wide ["pool", "at"] (defScope s_law_wide) := ⟨rfl, rfl, rfl, by decide +kernel, rfl, by decide +kernel, by decide +kernel⟩
abbrev s_law_common : Stmt := top 12
abbrev N_law_common : List Str := ["one", "other"]
theorem st_law_common (x0 x1 : V) : start N_law_common [x0, x1] = [some x0, some x1] := rfl
theorem sc_law_common : FnScope N_law_common ["one", "other"] (defScope s_law_common) := ⟨rfl, rfl, rfl, by decide +kernel, rfl, by decide +kernel, by decide +kernel⟩
abbrev s_law_is : Stmt := top 13
abbrev N_law_is : List Str := ["found", "num", "den", "common"]
theorem st_law_is (x0 x1 x2 : V) : start N_law_is [x0, x1, x2] = [some x0, some x1, some x2, none] := rfl
theorem sc_law_is : FnScope N_law_is ["found", "num", "den"] (defScope s_law_is) := ⟨rfl, rfl, rfl, by decide +kernel, rfl, by decide +kernel, by decide +kernel⟩
abbrev s_law_sums : Stmt := top 14
abbrev N_law_sums : List Str := ["x", "y", "a", "b", "c", "d"]
theorem st_law_sums (x0 x1 x2 x3 x4 x5 : V) : start N_law_sums [x0, x1, x2, x3, x4, x5] = [some x0, some x1, some x2, some x3, some x4, some x5] := rfl
theorem sc_law_sums : FnScope N_law_sums ["x", "y", "a", "b", "c", "d"] (defScope s_law_sums) := ⟨rfl, rfl, rfl, by decide +kernel, rfl, by decide +kernel, by decide +kernel⟩
abbrev s_law_products : Stmt := top 15
abbrev N_law_products : List Str := ["x", "y", "k", "a", "b", "c", "d"]
theorem st_law_products (x0 x1 x2 x3 x4 x5 x6 : V) : start N_law_products [x0, x1, x2, x3, x4, x5, x6] = [some x0, some x1, some x2, some x3, some x4, some x5, some x6] := rfl
theorem sc_law_products : FnScope N_law_products ["x", "y", "k", "a", "b", "c", "d"] (defScope s_law_products) := ⟨rfl, rfl, rfl, by decide +kernel, rfl, by decide +kernel, by decide +kernel⟩
abbrev s_law_compared : Stmt := top 16
abbrev N_law_compared : List Str := ["x", "y", "a", "b", "c", "d", "told", "one", "left", "right"]
theorem st_law_compared (x0 x1 x2 x3 x4 x5 : V) : start N_law_compared [x0, x1, x2, x3, x4, x5] = [some x0, some x1, some x2, some x3, some x4, some x5, none, none, none, none] := rfl
theorem sc_law_compared : FnScope N_law_compared ["x", "y", "a", "b", "c", "d"] (defScope s_law_compared) := ⟨rfl, rfl, rfl, by decide +kernel, rfl, by decide +kernel, by decide +kernel⟩
abbrev s_law : Stmt := top 17
abbrev N_law : List Str := ["script", "pool", "a", "b", "c", "d", "k", "times", "x", "y"]
theorem st_law (x0 : V) : start N_law [x0] = [some x0, none, none, none, none, none, none, none, none, none] := rfl
theorem sc_law : FnScope N_law ["script"] (defScope s_law) := ⟨rfl, rfl, rfl, by decide +kernel, rfl, by decide +kernel, by decide +kernel⟩
/-- what the top has left -/
structure Txt (K : PySem.W.Frag) (mg : Str → Option Value) where
  f_ShareD_initD : Addr
  fd_ShareD_initD : FuncData
  F_ShareD_initD : FunD K "__init__" "Share.__init__" (defArgs s_ShareD_initD) (defBody s_ShareD_initD) (defScope s_ShareD_initD) [V.int 1] [] f_ShareD_initD fd_ShareD_initD
  b_ShareD_initD : Binds K fd_ShareD_initD ["self", "num", "den"] []
  ds1_ShareD_initD : List Value
  d1_ShareD_initD : Vals [V.int 1] ds1_ShareD_initD
  b1_ShareD_initD : Binds K fd_ShareD_initD ["self", "num", "den"] ds1_ShareD_initD
  f_Share_below : Addr
  fd_Share_below : FuncData
  F_Share_below : Fun K "below" "Share.below" s_Share_below f_Share_below fd_Share_below
  b_Share_below : Binds K fd_Share_below ["self", "other"] []
  f_ShareD_addD : Addr
  fd_ShareD_addD : FuncData
  F_ShareD_addD : Fun K "__add__" "Share.__add__" s_ShareD_addD f_ShareD_addD fd_ShareD_addD
  b_ShareD_addD : Binds K fd_ShareD_addD ["self", "other"] []
  f_ShareD_subD : Addr
  fd_ShareD_subD : FuncData
  F_ShareD_subD : Fun K "__sub__" "Share.__sub__" s_ShareD_subD f_ShareD_subD fd_ShareD_subD
  b_ShareD_subD : Binds K fd_ShareD_subD ["self", "other"] []
  f_ShareD_mulD : Addr
  fd_ShareD_mulD : FuncData
  F_ShareD_mulD : Fun K "__mul__" "Share.__mul__" s_ShareD_mulD f_ShareD_mulD fd_ShareD_mulD
  b_ShareD_mulD : Binds K fd_ShareD_mulD ["self", "other"] []
  f_ShareD_rmulD : Addr
  fd_ShareD_rmulD : FuncData
  F_ShareD_rmulD : Fun K "__rmul__" "Share.__rmul__" s_ShareD_rmulD f_ShareD_rmulD fd_ShareD_rmulD
  b_ShareD_rmulD : Binds K fd_ShareD_rmulD ["self", "other"] []
  f_ShareD_negD : Addr
  fd_ShareD_negD : FuncData
  F_ShareD_negD : Fun K "__neg__" "Share.__neg__" s_ShareD_negD f_ShareD_negD fd_ShareD_negD
  b_ShareD_negD : Binds K fd_ShareD_negD ["self"] []
  f_ShareD_absD : Addr
  fd_ShareD_absD : FuncData
  F_ShareD_absD : Fun K "__abs__" "Share.__abs__" s_ShareD_absD f_ShareD_absD fd_ShareD_absD
  b_ShareD_absD : Binds K fd_ShareD_absD ["self"] []
  f_ShareD_boolD : Addr
  fd_ShareD_boolD : FuncData
  F_ShareD_boolD : Fun K "__bool__" "Share.__bool__" s_ShareD_boolD f_ShareD_boolD fd_ShareD_boolD
  b_ShareD_boolD : Binds K fd_ShareD_boolD ["self"] []
  f_ShareD_eqD : Addr
  fd_ShareD_eqD : FuncData
  F_ShareD_eqD : Fun K "__eq__" "Share.__eq__" s_ShareD_eqD f_ShareD_eqD fd_ShareD_eqD
  b_ShareD_eqD : Binds K fd_ShareD_eqD ["self", "other"] []
  f_law_cell : Addr
  fd_law_cell : FuncData
  F_law_cell : Fun K "_law_cell" "_law_cell" s_law_cell f_law_cell fd_law_cell
  b_law_cell : Binds K fd_law_cell ["script", "k"] []
  g_law_cell : mg "_law_cell" = some (.ref f_law_cell)
  f_law_pool : Addr
  fd_law_pool : FuncData
  F_law_pool : Fun K "_law_pool" "_law_pool" s_law_pool f_law_pool fd_law_pool
  b_law_pool : Binds K fd_law_pool ["script", "k", "count"] []
  g_law_pool : mg "_law_pool" = some (.ref f_law_pool)
  f_law_whole : Addr
  fd_law_whole : FuncData
  F_law_whole : Fun K "_law_whole" "_law_whole" s_law_whole f_law_whole fd_law_whole
  b_law_whole : Binds K fd_law_whole ["pool", "i"] []
  g_law_whole : mg "_law_whole" = some (.ref f_law_whole)
  f_law_wide : Addr
  fd_law_wide : FuncData
  F_law_wide : Fun K "_law_wide" "_law_wide" s_law_wide f_law_wide fd_law_wide
  b_law_wide : Binds K fd_law_wide ["pool", "at"] []
  g_law_wide : mg "_law_wide" = some (.ref f_law_wide)
  f_law_common : Addr
  fd_law_common : FuncData
  F_law_common : Fun K "_law_common" "_law_common" s_law_common f_law_common fd_law_common
  b_law_common : Binds K fd_law_common ["one", "other"] []
  g_law_common : mg "_law_common" = some (.ref f_law_common)
  f_law_is : Addr
  fd_law_is : FuncData
  F_law_is : Fun K "_law_is" "_law_is" s_law_is f_law_is fd_law_is
  b_law_is : Binds K fd_law_is ["found", "num", "den"] []
  g_law_is : mg "_law_is" = some (.ref f_law_is)
  f_law_sums : Addr
  fd_law_sums : FuncData
  F_law_sums : Fun K "_law_sums" "_law_sums" s_law_sums f_law_sums fd_law_sums
  b_law_sums : Binds K fd_law_sums ["x", "y", "a", "b", "c", "d"] []
  g_law_sums : mg "_law_sums" = some (.ref f_law_sums)
  f_law_products : Addr
  fd_law_products : FuncData
  F_law_products : Fun K "_law_products" "_law_products" s_law_products f_law_products fd_law_products
  b_law_products : Binds K fd_law_products ["x", "y", "k", "a", "b", "c", "d"] []
  g_law_products : mg "_law_products" = some (.ref f_law_products)
  f_law_compared : Addr
  fd_law_compared : FuncData
  F_law_compared : Fun K "_law_compared" "_law_compared" s_law_compared f_law_compared fd_law_compared
  b_law_compared : Binds K fd_law_compared ["x", "y", "a", "b", "c", "d"] []
  g_law_compared : mg "_law_compared" = some (.ref f_law_compared)
  f_law : Addr
  fd_law : FuncData
  F_law : Fun K "law" "law" s_law f_law fd_law
  b_law : Binds K fd_law ["script"] []
  g_law : mg "law" = some (.ref f_law)
  C_Share : Addr
  g_Share : mg "Share" = some (.ref C_Share)
  cl_Share : Cls K C_Share
  mk_Share : Mk K C_Share f_ShareD_initD
  sf_Share : PySem.W.selfFirst K C_Share = true
  nf_Share : PySem.W.notFirst K C_Share (.ref C_Share) = true
  ha_Share : PySem.W.findIn K (.ref C_Share) "__class__" = some (some (.builtin "object.__class__"))
  hm_Share : PySem.W.mroIn K C_Share (.type "object") = some true
  kit_Share : PySem.W.kitOne K (.ref C_Share) (.ref C_Share) = some true
  kii_Share : PySem.W.kitOne K (.type "int") (.ref C_Share) = some false
  rm_Share : RMul K C_Share
  na_Share_num : NoAttr K C_Share "num"
  na_Share_den : NoAttr K C_Share "den"
  M_Share_below : Meth K C_Share "below" f_Share_below
  M_ShareD_addD : Meth K C_Share "__add__" f_ShareD_addD
  M_ShareD_subD : Meth K C_Share "__sub__" f_ShareD_subD
  M_ShareD_mulD : Meth K C_Share "__mul__" f_ShareD_mulD
  M_ShareD_rmulD : Meth K C_Share "__rmul__" f_ShareD_rmulD
  M_ShareD_negD : Meth K C_Share "__neg__" f_ShareD_negD
  M_ShareD_absD : Meth K C_Share "__abs__" f_ShareD_absD
  M_ShareD_boolD : Meth K C_Share "__bool__" f_ShareD_boolD
  M_ShareD_eqD : Meth K C_Share "__eq__" f_ShareD_eqD
  hn_get : PySem.W.specialIn K (.builtin "object.__class__") "__get__" = some (some (.builtin "getset_descriptor.__get__"))
  ht_get : PySem.W.takesIn K (.builtin "object.__class__") = some true
  b_gcd : mg "gcd" = some (.builtin "math.gcd")
  b_isinstance : mg "isinstance" = none
  b_int : mg "int" = none
  b_abs : mg "abs" = none
  b_bool : mg "bool" = none
  b_len : mg "len" = none
  b_range : mg "range" = none

def spLaw (K : PySem.W.Frag) : Sp := fun vs H Q _ => ∃ (a : Addr) (ns : List Int), vs = [.ref a] ∧ SqL K H a (ns.map V.int) ∧ ns.length ≤ 63 ∧ ∀ H', Q (.bl true) H'
local macro_rules | `(tactic| fail "sm") => `(tactic| with_reducible first
  | assumption
  | (apply Pf.Sm.new; focus assumption)
  | fail "no")
local macro_rules | `(tactic| fail "hp") => `(tactic| with_reducible first
  | assumption
  | ((show L2.upd _ _ _ _ = _); with_unfolding_all exact upd_same)
  | (apply Pf.same_at; (focus fail "sm"); fail "hp")
  | (apply Pf.upd_at; (focus (first | assumption | exact Ne.symm (by assumption))); fail "hp")
  | fail "no")
local macro_rules | `(tactic| fail "sq") => `(tactic| with_reducible first
  | assumption
  | (apply SqL.of; fail "hp")
  | (apply Same.seq; (focus fail "sm"); fail "sq")
  | fail "no")
local macro_rules | `(tactic| fail "sqT") => `(tactic| with_reducible first
  | assumption
  | (apply SqT.of; fail "hp")
  | (apply Pf.same_seqT; (focus fail "sm"); fail "sqT")
  | fail "no")
local macro_rules | `(tactic| fail "sz") => `(tactic| with_reducible first
  | assumption
  | (apply Pf.Sz.mul; (focus fail "sz"); focus fail "sz")
  | fail "no")
local macro_rules | `(tactic| fail "mulok") => `(tactic| first
  | exact Pf.mulZ (by fail "sz") (by fail "sz") (by decide) (by decide) (by decide)
  | exact Pf.mulR (by decide) (by decide)
  | exact Pf.mulL (by decide) (by decide)
  | exact Pf.mulR (by omega) (by omega)
  | exact Pf.mulL (by omega) (by omega)
  | fail "no")
local macro_rules | `(tactic| fail "side") => `(tactic| first
  | ((with_reducible show PySem.IntMulOk _ _); fail "mulok")
  | ((with_reducible show Pf.CDivA _ _); first | (with_reducible assumption) | exact ⟨by decide, by decide⟩)
  | ((with_reducible show CPow _ _); exact ⟨by decide, by decide, by decide⟩)
  | (show (0 : Int) < _; first | decide | omega)
  | (refine ⟨?_, ?_⟩ <;> first | decide | omega)
  | fail "no")
local macro_rules | `(tactic| fail "rd1") => `(tactic| first
  | with_reducible refine Pf.i_seq ?_
  | with_reducible refine Pf.i_asg ?_
  | with_reducible refine Pf.i_op ?_
  | (with_reducible show gName _ _ _ _ _; fail "rdn")
  | with_reducible refine Pf.i_var (by with_unfolding_all exact rfl) ?_
  | with_reducible refine Pf.i_c ?_
  | with_reducible refine Pf.i_I0 ?_
  | with_reducible refine Pf.i_cb ?_
  | with_reducible refine Pf.i_cons ?_
  | with_reducible refine Pf.i_nil ?_
  | with_reducible refine Pf.i_fld ?_
  | with_reducible refine Pf.i_if ?_
  | with_reducible refine Pf.i_test ?_
  | with_reducible refine Pf.i_eqI ?_
  | with_reducible refine Pf.i_neI ?_
  | with_reducible refine Pf.i_eqS ?_
  | with_reducible refine Pf.i_neS ?_
  | with_reducible refine Pf.i_eqB ?_
  | with_reducible refine Pf.i_neB ?_
  | with_reducible refine Pf.i_ret ?_
  | with_reducible refine Pf.i_drop ?_
  | with_reducible refine Pf.i_un ?_
  | with_reducible refine Pf.i_U ?_
  | with_reducible refine Pf.i_int ?_
  | with_reducible refine Pf.i_intB ?_
  | with_reducible refine Pf.i_bool ?_
  | with_reducible refine Pf.i_boolB ?_
  | with_reducible refine Pf.i_abs ?_
  | with_reducible refine Pf.i_B ?_
  | with_reducible refine Pf.i_and ?_
  | with_reducible refine Pf.i_or ?_
  | with_reducible refine Pf.i_not ?_
  | with_reducible refine Pf.i_andV ?_
  | with_reducible refine Pf.i_orV ?_
  | with_reducible refine Pf.i_notV ?_
  | with_reducible refine Pf.i_ifE ?_
  | with_reducible refine Pf.i_call ?_
  | with_reducible refine Pf.i_lst ?_
  | with_reducible refine Pf.i_tup ?_
  | with_reducible refine Pf.i_bm ?_
  | with_reducible refine Pf.i_bm0 ?_
  | with_reducible refine Pf.i_next ?_
  | with_reducible refine Pf.i_brk ?_
  | with_reducible refine Pf.i_cont ?_
  | with_reducible refine Pf.i_T ?_
  | with_reducible refine Pf.i_F ?_
  | with_reducible refine Pf.i_nT ?_
  | with_reducible refine Pf.i_nF ?_
  | with_reducible refine Pf.i_for1 ?_
  | with_reducible refine Pf.i_for2 ?_
  | with_reducible refine Pf.i_forL ?_
  | with_reducible refine Pf.i_forT ?_
  | with_reducible refine Pf.i_par ?_
  | with_reducible refine Pf.i_put ?_
  | with_reducible refine Pf.i_make ?_
  | with_reducible refine Pf.i_meth ?_
  | with_reducible refine Pf.i_gcd ?_
  | with_reducible refine Pf.i_isiII ?_
  | with_reducible refine Pf.i_isiIB ?_
  | with_reducible refine Pf.i_isiBB ?_
  | with_reducible refine Pf.i_I (by with_unfolding_all fail "side") ?_
  | with_reducible refine Pf.i_lenI (by fail "sq") ?_
  | with_reducible refine Pf.i_lenL (by fail "sq") ?_
  | with_reducible refine Pf.i_tyL (by fail "sq") ?_
  | with_reducible refine Pf.i_ixI (by fail "sq") (by with_unfolding_all omega) (by with_unfolding_all omega) ?_
  | fail "no")
local macro_rules | `(tactic| fail "rdn") => `(tactic| with_reducible first
  | refine Pf.i_nm0 ?_
  | refine Pf.i_nm1 ?_
  | refine Pf.i_nm2 ?_
  | refine Pf.i_nm3 ?_
  | refine Pf.i_nm4 ?_
  | refine Pf.i_nm5 ?_
  | refine Pf.i_nm6 ?_
  | refine Pf.i_nm7 ?_
  | refine Pf.i_nm8 ?_
  | refine Pf.i_nm9 ?_
  | refine Pf.i_nm10 ?_
  | refine Pf.i_nm11 ?_
  | refine Pf.i_nm12 ?_
  | refine Pf.i_nm13 ?_
  | refine Pf.i_nm14 ?_
  | refine Pf.i_nm15 ?_
  | fail "no")
local macro_rules | `(tactic| fail "rd2") => `(tactic| first
  | fail "rd1"
  | (with_reducible show ∃ k, V.bl _ = V.bl k ∧ _; refine ⟨_, rfl, ?_⟩)
  | (with_reducible refine Pf.i_decT ?_ ?_; focus omega)
  | (with_reducible refine Pf.i_decF ?_ ?_; focus omega)
  | (with_reducible refine Pf.i_ndecT ?_ ?_; focus omega)
  | (with_reducible refine Pf.i_ndecF ?_ ?_; focus omega)
  | (with_reducible show Ends.nx _ _ _; dsimp only)
  | (with_reducible show Ends.rt _ _ _; dsimp only)
  | fail "no")
local macro_rules | `(tactic| fail "rd") => `(tactic| repeat fail "rd2")

section
variable {P : Program} {w : World} {K : PySem.W.Frag} {mg : Str → Option Value} {base : Heap}
/-- a cell of the script: some int -/
def spCell (K : PySem.W.Frag) : Sp := fun vs H Q _ => ∃ (a : Addr) (ns : List Int) (k : Int), vs = [.ref a, .int k] ∧ SqL K H a (ns.map V.int) ∧ 0 ≤ k ∧ ∀ r : Int, Q (.int r) H
theorem ok_law_cell (T : Txt K mg) : FnOk P w K mg base CX0 1 T.f_law_cell T.fd_law_cell ["script", "k"] (spCell K) := by
  refine T.F_law_cell.ok sc_law_cell (fun vs H Q E h => ?_) (fun cdv A outer s H vs Q E hr h => ?_)
  · obtain ⟨a, ns, k, rfl, _⟩ := h
    rfl
  · obtain ⟨a, ns, k, rfl, hS, h0, k1⟩ := h
    refine ⟨_, (pss_cons (ps_if (pt_cmpR op_lt (pv 1) (pe_callB call_lenN (by rfl) T.b_len (by decide +kernel) (pa_cons (pv 0) pa_nil)) (nomark _))
      (pss_one (ps_ret (pe_ix ix_list (pv 0) (pv 1) (fun _ _ => rfl))))
      pss_nil)
    (pss_one (ps_ret pe_int))), ?_⟩
    rw [st_law_cell]; try dsimp only [L2.Cx.nox, L2.cxOf]
    fail "rd"
    refine i_dec (fun hk => ?_) (fun hk => ?_)
    · fail "rd"
      exact k1 _
    · fail "rd"
      exact k1 _
/-- a list of draws -/
def Draws (ms : List Int) (n : Nat) : Prop := ms.length = n ∧ ∀ m ∈ ms, 0 ≤ m ∧ m < 27720
theorem Draws.nil : Draws [] 0 := ⟨rfl, fun _ h => nomatch h⟩
theorem Draws.more {ms : List Int} {n : Nat} (h : Draws ms n) {x : Int} : Draws (ms ++ [x % 27720]) (n + 1) := by
  refine ⟨by rw [List.length_append, h.1]; rfl, fun m hm => ?_⟩
  rcases List.mem_append.mp hm with hm | hm
  · exact h.2 m hm
  · rw [List.mem_singleton.mp hm]
    omega
theorem Draws.at {ms : List Int} {n : Nat} (h : Draws ms n) {i : Nat} (hi : i < n) : 0 ≤ ms.getD i 0 ∧ ms.getD i 0 < 27720 := by
  have hl : i < ms.length := by rw [h.1]; exact hi
  have e : ms.getD i 0 = ms[i] := by simp [List.getD, List.getElem?_eq_getElem hl]
  rw [e]
  exact h.2 _ (List.getElem_mem hl)
def spPool (K : PySem.W.Frag) : Sp := fun vs H Q _ => ∃ (a : Addr) (ns : List Int) (k n : Int), vs = [.ref a, .int k, .int n] ∧ SqL K H a (ns.map V.int) ∧ (0 ≤ k ∧ k < 1000) ∧ (0 ≤ n ∧ n < 1000) ∧
  ∀ (p : Addr) (ms : List Int) (H' : Hp), Draws ms n.toNat → H p = none → Same H H' → H' p = some (.lst (ms.map V.int)) → Q (.ref p) H'
theorem ok_law_pool (T : Txt K mg) : FnOk P w K mg base CX0 2 T.f_law_pool T.fd_law_pool ["script", "k", "count"] (spPool K) := by
  refine T.F_law_pool.ok sc_law_pool (fun vs H Q E h => ?_) (fun cdv A outer s H vs Q E hr h => ?_)
  · obtain ⟨a, ns, k, n, rfl, _⟩ := h
    rfl
  · obtain ⟨a, ns, k, n, rfl, hS, hk, hn, k1⟩ := h
    refine ⟨_, (pss_cons (ps_set (i := 3) sc_law_pool.nd rfl (by first | exact Or.inl rfl | exact Or.inr rfl) (pe_callB call_absN (by rfl) T.b_abs (by decide +kernel) (pa_cons (pe_call (ok_law_cell T) (hr.mono (by decide)) rfl T.g_law_cell T.F_law_cell.kp T.b_law_cell .nil pass0 (pa_cons (pv 0) (pa_cons (pv 1) pa_nil))) pa_nil)))
    (pss_cons (ps_set (i := 4) sc_law_pool.nd rfl (by first | exact Or.inl rfl | exact Or.inr rfl) (pe_lst pa_nil))
    (pss_cons (ps_if (pt_cmpR op_ge (pv 3) (pe_op op_pow pe_int pe_int) (nomark _))
      (pss_cons (ps_set (i := 3) sc_law_pool.nd rfl (by first | exact Or.inl rfl | exact Or.inr rfl) (pe_op op_sub (pv 3) (pe_op op_pow pe_int pe_int)))
    (pss_cons (ps_for PassesOwn.never rfl (pi_range1 rfl T.b_range (pa_cons (pv 2) pa_nil)) (pg_name (i := 5) sc_law_pool.nd rfl (by first | exact Or.inl rfl | exact Or.inr rfl))
      (pss_cons (ps_expr (pe_bm PySem.F.plainAttrs_list PySem.F.slot_list_append PySem.F.type_list_append mt_append (pv 4) (pa_cons (pe_op op_mod (pe_callTy call_intN (by rfl) T.b_int (by decide +kernel) (pa_cons (pv 3) pa_nil)) pe_int) pa_nil)))
    (pss_one (ps_set (i := 3) sc_law_pool.nd rfl (by first | exact Or.inl rfl | exact Or.inr rfl) (pe_op op_fdivA (pv 3) pe_int)))))
    (pss_one (ps_ret (pv 4)))))
      pss_nil)
    (pss_cons (ps_for PassesOwn.never rfl (pi_range1 rfl T.b_range (pa_cons (pv 2) pa_nil)) (pg_name (i := 5) sc_law_pool.nd rfl (by first | exact Or.inl rfl | exact Or.inr rfl))
      (pss_cons (ps_set (i := 6) sc_law_pool.nd rfl (by first | exact Or.inl rfl | exact Or.inr rfl) (pe_op op_mod (pe_callTy call_intN (by rfl) T.b_int (by decide +kernel) (pa_cons (pe_op op_add (pe_op op_add (pe_op op_add (pe_op op_mulX (pv 3) pe_int) (pe_op op_mulX (pe_op op_add (pv 5) pe_int) pe_int)) (pe_op op_mulX (pv 1) pe_int)) pe_int) pa_nil)) pe_int))
    (pss_cons (ps_set (i := 7) sc_law_pool.nd rfl (by first | exact Or.inl rfl | exact Or.inr rfl) (pe_op op_mod (pe_callTy call_intN (by rfl) T.b_int (by decide +kernel) (pa_cons (pe_op op_add (pe_op op_add (pe_op op_mulX (pv 6) (pv 6)) (pe_op op_mulX (pv 3) pe_int)) (pv 5)) pa_nil)) pe_int))
    (pss_cons (ps_set (i := 8) sc_law_pool.nd rfl (by first | exact Or.inl rfl | exact Or.inr rfl) (pe_op op_mod (pe_callTy call_intN (by rfl) T.b_int (by decide +kernel) (pa_cons (pe_op op_add (pe_op op_mulX (pv 7) (pv 7)) (pv 6)) pa_nil)) pe_int))
    (pss_one (ps_expr (pe_bm PySem.F.plainAttrs_list PySem.F.slot_list_append PySem.F.type_list_append mt_append (pv 4) (pa_cons (pe_op op_mod (pe_callTy call_intN (by rfl) T.b_int (by decide +kernel) (pa_cons (pe_op op_fdivA (pv 8) pe_int) pa_nil)) pe_int) pa_nil))))))))
    (pss_one (ps_ret (pv 4))))))), ?_⟩
    rw [st_law_pool]; try dsimp only [L2.Cx.nox, L2.cxOf]
    fail "rd"
    refine ⟨a, ns, k, rfl, hS, hk.1, fun r => ?_⟩
    fail "rd"
    refine ⟨sz_le (by decide), fun p np => ?_⟩
    have s0 : Same H (upd H p (.lst [])) := Sm.new np
    fail "rd"
    generalize hr' : (if r < 0 then -r else r) = x
    have hx : 0 ≤ x := by rw [← hr']; split <;> omega
    refine i_dec (fun hv => ?_) (fun hv => ?_)
    · fail "rd"
      refine i_FR1 (fun i σ' H' => ∃ (ms : List Int) (val : Int) (v5 : Option V), σ' = [some (.ref a), some (.int k), some (.int n), some (.int val), some (.ref p), v5, none, none, none] ∧
        Draws ms i ∧ Same H H' ∧ H' p = some (.lst (ms.map V.int))) (by omega) ⟨[], _, _, rfl, Draws.nil, s0, upd_same⟩ ?_ ?_
      · rintro i σ' H' hi ⟨ms, val, v5, rfl, hD, s1, hp⟩
        fail "rd"
        have hl := hD.1
        refine i_append hp (by rw [List.length_map]; omega) ?_
        fail "rd"
        exact ⟨_, _, _, rfl, hD.more, Sm.mut s1 np, by rw [upd_same, List.map_append]; rfl⟩
      · rintro σ' H' ⟨ms, val, v5, rfl, hD, s1, hp⟩
        fail "rd"
        exact k1 p ms H' hD np s1 hp
    · fail "rd"
      refine i_FR1 (fun i σ' H' => ∃ (ms : List Int) (v5 v6 v7 v8 : Option V), σ' = [some (.ref a), some (.int k), some (.int n), some (.int x), some (.ref p), v5, v6, v7, v8] ∧
        Draws ms i ∧ Same H H' ∧ H' p = some (.lst (ms.map V.int))) (by omega) ⟨[], _, _, _, _, rfl, Draws.nil, s0, upd_same⟩ ?_ ?_
      · rintro i σ' H' hi ⟨ms, v5, v6, v7, v8, rfl, hD, s1, hp⟩
        fail "rd"
        have hl := hD.1
        refine i_append hp (by rw [List.length_map]; omega) ?_
        fail "rd"
        exact ⟨_, _, _, _, _, rfl, hD.more, Sm.mut s1 np, by rw [upd_same, List.map_append]; rfl⟩
      · rintro σ' H' ⟨ms, v5, v6, v7, v8, rfl, hD, s1, hp⟩
        fail "rd"
        exact k1 p ms H' hD np s1 hp
/-- a whole number below 10 ** 9 in size -/
def spWhole (K : PySem.W.Frag) : Sp := fun vs H Q _ => ∃ (p : Addr) (ms : List Int) (i : Int), vs = [.ref p, .int i] ∧ SqL K H p (ms.map V.int) ∧ Draws ms 60 ∧ (0 ≤ i ∧ i < 57) ∧
  ∀ (r : Int) (H' : Hp), -1000000000 ≤ r ∧ r ≤ 1000000000 → Same H H' → Q (.int r) H'
theorem ok_law_whole (T : Txt K mg) : FnOk P w K mg base CX0 1 T.f_law_whole T.fd_law_whole ["pool", "i"] (spWhole K) := by
  refine T.F_law_whole.ok sc_law_whole (fun vs H Q E h => ?_) (fun cdv A outer s H vs Q E hr h => ?_)
  · obtain ⟨p, ms, i, rfl, _⟩ := h
    rfl
  · obtain ⟨p, ms, i, rfl, hS, hD, hi, k1⟩ := h
    have hl := hD.1
    refine ⟨_, (pss_cons (ps_set (i := 2) sc_law_whole.nd rfl (by first | exact Or.inl rfl | exact Or.inr rfl) (pe_lst (pa_cons pe_int (pa_cons pe_int (pa_cons pe_int (pa_cons (pe_op op_sub (pe_op op_mulX pe_int (pe_op op_pow pe_int pe_int)) pe_int) pa_nil))))))
    (pss_cons (ps_set (i := 3) sc_law_whole.nd rfl (by first | exact Or.inl rfl | exact Or.inr rfl) (pe_ix ix_list (pv 2) (pe_op op_mod (pe_callTy call_intN (by rfl) T.b_int (by decide +kernel) (pa_cons (pe_ix ix_list (pv 0) (pv 1) (fun _ _ => rfl)) pa_nil)) pe_int) (fun _ _ => rfl)))
    (pss_cons (ps_set (i := 4) sc_law_whole.nd rfl (by first | exact Or.inl rfl | exact Or.inr rfl) (pe_op op_add (pe_op op_mulX (pe_op op_add (pe_op op_mulX (pe_ix ix_list (pv 0) (pe_op op_add (pv 1) pe_int) (fun _ _ => rfl)) pe_int) (pe_ix ix_list (pv 0) (pe_op op_add (pv 1) pe_int) (fun _ _ => rfl))) pe_int) (pe_ix ix_list (pv 0) (pe_op op_add (pv 1) pe_int) (fun _ _ => rfl))))
    (pss_one (ps_ret (pe_op op_sub (pe_op op_mod (pe_callTy call_intN (by rfl) T.b_int (by decide +kernel) (pa_cons (pv 4) pa_nil)) (pv 3)) (pe_op op_fdivA (pv 3) pe_int))))))), ?_⟩
    rw [st_law_whole]; try dsimp only [L2.Cx.nox, L2.cxOf]
    fail "rd"
    refine ⟨sz_le (by decide), fun q nq => ?_⟩
    have s0 : Same H (upd H q (.lst [.int 7, .int 41, .int 2001, .int (2 * 10 ^ Int.toNat 9 - 1)])) := Sm.new nq
    fail "rd"
    generalize ms.getD i.toNat 0 = x
    have hm : ∃ s : Int, (0 < s ∧ s < 2000000000) ∧ atI [V.int 7, .int 41, .int 2001, .int (2 * 10 ^ Int.toNat 9 - 1)] (x % 4) = some (.int s) := by
      rcases (by omega : x % 4 = 0 ∨ x % 4 = 1 ∨ x % 4 = 2 ∨ x % 4 = 3) with e | e | e | e <;> rw [e]
      · exact ⟨7, by decide, rfl⟩
      · exact ⟨41, by decide, rfl⟩
      · exact ⟨2001, by decide, rfl⟩
      · exact ⟨2 * 10 ^ Int.toNat 9 - 1, by decide, rfl⟩
    obtain ⟨s, hs, ha⟩ := hm
    refine i_ixL (by fail "sq") ha ?_
    fail "rd"
    generalize (ms.getD (i + 1).toNat 0 * 27720 + ms.getD (i + 2).toNat 0) * 27720 + ms.getD (i + 3).toNat 0 = y
    refine k1 _ _ ?_ s0
    rw [Int.fdiv_eq_ediv_of_nonneg _ (by decide)]
    have h1 := Int.emod_nonneg y (show s ≠ 0 by omega)
    have h2 := Int.emod_lt_of_pos y hs.1
    omega
/-- a whole number below 10 ** 45 in size -/
def spWide (K : PySem.W.Frag) : Sp := fun vs H Q _ => ∃ (p : Addr) (ms : List Int) (i : Int), vs = [.ref p, .int i] ∧ SqL K H p (ms.map V.int) ∧ Draws ms 60 ∧ (0 ≤ i ∧ i < 49) ∧
  ∀ (r : Int) (H' : Hp), Sz 152 r → Same H H' → Q (.int r) H'
theorem ok_law_wide (T : Txt K mg) : FnOk P w K mg base CX0 1 T.f_law_wide T.fd_law_wide ["pool", "at"] (spWide K) := by
  refine T.F_law_wide.ok sc_law_wide (fun vs H Q E h => ?_) (fun cdv A outer s H vs Q E hr h => ?_)
  · obtain ⟨p, ms, i, rfl, _⟩ := h
    rfl
  · obtain ⟨p, ms, i, rfl, hS, hD, hi, k1⟩ := h
    have hl := hD.1
    refine ⟨_, (pss_cons (ps_set (i := 2) sc_law_wide.nd rfl (by first | exact Or.inl rfl | exact Or.inr rfl) (pe_lst (pa_cons pe_int (pa_cons pe_int (pa_cons pe_int (pa_cons (pe_op op_sub (pe_op op_mulX pe_int (pe_op op_pow pe_int pe_int)) pe_int) (pa_cons (pe_op op_sub (pe_op op_mulX pe_int (pe_op op_pow pe_int pe_int)) pe_int) pa_nil)))))))
    (pss_cons (ps_set (i := 3) sc_law_wide.nd rfl (by first | exact Or.inl rfl | exact Or.inr rfl) (pe_ix ix_list (pv 2) (pe_op op_mod (pe_callTy call_intN (by rfl) T.b_int (by decide +kernel) (pa_cons (pe_ix ix_list (pv 0) (pv 1) (fun _ _ => rfl)) pa_nil)) pe_int) (fun _ _ => rfl)))
    (pss_cons (ps_set (i := 4) sc_law_wide.nd rfl (by first | exact Or.inl rfl | exact Or.inr rfl) pe_int)
    (pss_cons (ps_for PassesOwn.never rfl (pi_range2 rfl T.b_range (pa_cons pe_int (pa_cons pe_int pa_nil))) (pg_name (i := 5) sc_law_wide.nd rfl (by first | exact Or.inl rfl | exact Or.inr rfl))
      (pss_one (ps_set (i := 4) sc_law_wide.nd rfl (by first | exact Or.inl rfl | exact Or.inr rfl) (pe_op op_add (pe_op op_mulX (pv 4) pe_int) (pe_ix ix_list (pv 0) (pe_op op_add (pv 1) (pv 5)) (fun _ _ => rfl))))))
    (pss_one (ps_ret (pe_op op_sub (pe_op op_mod (pe_callTy call_intN (by rfl) T.b_int (by decide +kernel) (pa_cons (pv 4) pa_nil)) (pv 3)) (pe_op op_fdivA (pv 3) pe_int)))))))), ?_⟩
    rw [st_law_wide]; try dsimp only [L2.Cx.nox, L2.cxOf]
    fail "rd"
    refine ⟨sz_le (by decide), fun q nq => ?_⟩
    have s0 : Same H (upd H q (.lst [.int 7, .int 41, .int 2001, .int (2 * 10 ^ Int.toNat 9 - 1), .int (2 * 10 ^ Int.toNat 45 - 1)])) := Sm.new nq
    fail "rd"
    generalize ms.getD i.toNat 0 = x
    have hm : ∃ s : Int, (0 < s ∧ s < 2 ^ 151) ∧ atI [V.int 7, .int 41, .int 2001, .int (2 * 10 ^ Int.toNat 9 - 1), .int (2 * 10 ^ Int.toNat 45 - 1)] (x % 5) = some (.int s) := by
      rcases (by omega : x % 5 = 0 ∨ x % 5 = 1 ∨ x % 5 = 2 ∨ x % 5 = 3 ∨ x % 5 = 4) with e | e | e | e | e <;> rw [e]
      · exact ⟨7, by decide, rfl⟩
      · exact ⟨41, by decide, rfl⟩
      · exact ⟨2001, by decide, rfl⟩
      · exact ⟨2 * 10 ^ Int.toNat 9 - 1, by decide, rfl⟩
      · exact ⟨2 * 10 ^ Int.toNat 45 - 1, by decide, rfl⟩
    obtain ⟨s, hs, ha⟩ := hm
    refine i_ixL (by fail "sq") ha ?_
    fail "rd"
    refine i_FR2 (fun j σ' H' => ∃ (dr : Int) (v5 : Option V), σ' = [some (.ref p), some (.int i), some (.ref q), some (.int s), some (.int dr), v5] ∧ Same H H') (by omega) ⟨_, _, rfl, s0⟩ ?_ ?_
    · rintro j σ' H' hj ⟨dr, v5, rfl, s1⟩
      fail "rd"
      exact ⟨_, _, rfl, s1⟩
    · rintro σ' H' ⟨dr, v5, rfl, s1⟩
      fail "rd"
      refine k1 _ _ ?_ s1
      rw [Int.fdiv_eq_ediv_of_nonneg _ (by decide)]
      have h1 := Int.emod_nonneg dr (show s ≠ 0 by omega)
      have h2 := Int.emod_lt_of_pos dr hs.1
      unfold Sz
      omega
/-- the greatest common divisor -/
def spCommon : Sp := fun vs H Q _ => ∃ a b : Int, vs = [.int a, .int b] ∧ Q (.int ((Nat.gcd a.natAbs b.natAbs : Nat) : Int)) H
theorem ok_law_common (T : Txt K mg) : FnOk P w K mg base CX0 1 T.f_law_common T.fd_law_common ["one", "other"] spCommon := by
  refine T.F_law_common.ok sc_law_common (fun vs H Q E h => ?_) (fun cdv A outer s H vs Q E hr h => ?_)
  · obtain ⟨a, b, rfl, _⟩ := h
    rfl
  · obtain ⟨a, b, rfl, k1⟩ := h
    refine ⟨_, (pss_cons (ps_set (i := 0) sc_law_common.nd rfl (by first | exact Or.inl rfl | exact Or.inr rfl) (pe_callB call_absN (by rfl) T.b_abs (by decide +kernel) (pa_cons (pv 0) pa_nil)))
    (pss_cons (ps_set (i := 1) sc_law_common.nd rfl (by first | exact Or.inl rfl | exact Or.inr rfl) (pe_callB call_absN (by rfl) T.b_abs (by decide +kernel) (pa_cons (pv 1) pa_nil)))
    (pss_cons (ps_while PassesOwn.never (pt_cmpR op_gt (pv 1) pe_int (nomark _))
      (pss_one (ps_par (i := 0) (j := 1) rfl sc_law_common.nd rfl rfl (by decide) rfl rfl (pa_cons (pv 1) (pa_cons (pe_op op_mod (pe_callTy call_intN (by rfl) T.b_int (by decide +kernel) (pa_cons (pv 0) pa_nil)) (pv 1)) pa_nil)) (by rfl))))
    (pss_one (ps_ret (pv 0)))))), ?_⟩
    rw [st_law_common]
    fail "rd"
    have ea : ∀ z : Int, (if z < 0 then -z else z) = (z.natAbs : Int) := fun z => by split <;> omega
    rw [ea, ea]
    refine i_while (fun m σ' H' => ∃ x : Nat, σ' = [some (.int x), some (.int m)] ∧ H' = H ∧ Nat.gcd x m = Nat.gcd a.natAbs b.natAbs) ⟨_, _, rfl, rfl, rfl⟩ ?_
    rintro m σ' H' ⟨x, rfl, rfl, hg⟩
    fail "rd"
    refine i_dec (fun hy => ?_) (fun hy => ?_)
    · refine i_turn ?_
      fail "rd"
      refine ⟨_, _, rfl, x % m, Nat.mod_lt _ (by omega), m, by simp, rfl, ?_⟩
      rw [← hg, Nat.gcd_comm x m, Nat.gcd_rec m x, Nat.gcd_comm]
    · have e : m = 0 := by omega
      subst e
      fail "rd"
      rw [Nat.gcd_zero_right] at hg
      rw [hg]
      exact k1
end
end K00
namespace K00
open PySem L2 Pf
local macro_rules | `(tactic| fail "sm") => `(tactic| with_reducible first
  | assumption
  | (apply Pf.Sm.new; focus assumption)
  | fail "no")
local macro_rules | `(tactic| fail "hp") => `(tactic| with_reducible first
  | assumption
  | ((show L2.upd _ _ _ _ = _); with_unfolding_all exact upd_same)
  | (apply Pf.same_at; (focus fail "sm"); fail "hp")
  | (apply Pf.upd_at; (focus (first | assumption | exact Ne.symm (by assumption))); fail "hp")
  | fail "no")
local macro_rules | `(tactic| fail "sq") => `(tactic| with_reducible first
  | assumption
  | (apply SqL.of; fail "hp")
  | (apply Same.seq; (focus fail "sm"); fail "sq")
  | fail "no")
local macro_rules | `(tactic| fail "sqT") => `(tactic| with_reducible first
  | assumption
  | (apply SqT.of; fail "hp")
  | (apply Pf.same_seqT; (focus fail "sm"); fail "sqT")
  | fail "no")
local macro_rules | `(tactic| fail "sz") => `(tactic| with_reducible first
  | assumption
  | (apply Pf.Sz.mul; (focus fail "sz"); focus fail "sz")
  | fail "no")
local macro_rules | `(tactic| fail "mulok") => `(tactic| first
  | exact Pf.mulZ (by fail "sz") (by fail "sz") (by decide) (by decide) (by decide)
  | exact Pf.mulR (by decide) (by decide)
  | exact Pf.mulL (by decide) (by decide)
  | exact Pf.mulR (by omega) (by omega)
  | exact Pf.mulL (by omega) (by omega)
  | fail "no")
local macro_rules | `(tactic| fail "side") => `(tactic| first
  | ((with_reducible show PySem.IntMulOk _ _); fail "mulok")
  | ((with_reducible show Pf.CDivA _ _); first | (with_reducible assumption) | exact ⟨by decide, by decide⟩)
  | ((with_reducible show CPow _ _); exact ⟨by decide, by decide, by decide⟩)
  | (show (0 : Int) < _; first | decide | omega)
  | (refine ⟨?_, ?_⟩ <;> first | decide | omega)
  | fail "no")
local macro_rules | `(tactic| fail "rd1") => `(tactic| first
  | with_reducible refine Pf.i_seq ?_
  | with_reducible refine Pf.i_asg ?_
  | with_reducible refine Pf.i_op ?_
  | (with_reducible show gName _ _ _ _ _; fail "rdn")
  | with_reducible refine Pf.i_var (by with_unfolding_all exact rfl) ?_
  | with_reducible refine Pf.i_c ?_
  | with_reducible refine Pf.i_I0 ?_
  | with_reducible refine Pf.i_cb ?_
  | with_reducible refine Pf.i_cons ?_
  | with_reducible refine Pf.i_nil ?_
  | with_reducible refine Pf.i_fld ?_
  | with_reducible refine Pf.i_if ?_
  | with_reducible refine Pf.i_test ?_
  | with_reducible refine Pf.i_eqI ?_
  | with_reducible refine Pf.i_neI ?_
  | with_reducible refine Pf.i_eqS ?_
  | with_reducible refine Pf.i_neS ?_
  | with_reducible refine Pf.i_eqB ?_
  | with_reducible refine Pf.i_neB ?_
  | with_reducible refine Pf.i_ret ?_
  | with_reducible refine Pf.i_drop ?_
  | with_reducible refine Pf.i_un ?_
  | with_reducible refine Pf.i_U ?_
  | with_reducible refine Pf.i_int ?_
  | with_reducible refine Pf.i_intB ?_
  | with_reducible refine Pf.i_bool ?_
  | with_reducible refine Pf.i_boolB ?_
  | with_reducible refine Pf.i_abs ?_
  | with_reducible refine Pf.i_B ?_
  | with_reducible refine Pf.i_and ?_
  | with_reducible refine Pf.i_or ?_
  | with_reducible refine Pf.i_not ?_
  | with_reducible refine Pf.i_andV ?_
  | with_reducible refine Pf.i_orV ?_
  | with_reducible refine Pf.i_notV ?_
  | with_reducible refine Pf.i_ifE ?_
  | with_reducible refine Pf.i_call ?_
  | with_reducible refine Pf.i_lst ?_
  | with_reducible refine Pf.i_tup ?_
  | with_reducible refine Pf.i_bm ?_
  | with_reducible refine Pf.i_bm0 ?_
  | with_reducible refine Pf.i_next ?_
  | with_reducible refine Pf.i_brk ?_
  | with_reducible refine Pf.i_cont ?_
  | with_reducible refine Pf.i_T ?_
  | with_reducible refine Pf.i_F ?_
  | with_reducible refine Pf.i_nT ?_
  | with_reducible refine Pf.i_nF ?_
  | with_reducible refine Pf.i_for1 ?_
  | with_reducible refine Pf.i_for2 ?_
  | with_reducible refine Pf.i_forL ?_
  | with_reducible refine Pf.i_forT ?_
  | with_reducible refine Pf.i_par ?_
  | with_reducible refine Pf.i_put ?_
  | with_reducible refine Pf.i_make ?_
  | with_reducible refine Pf.i_meth ?_
  | with_reducible refine Pf.i_gcd ?_
  | with_reducible refine Pf.i_isiII ?_
  | with_reducible refine Pf.i_isiIB ?_
  | with_reducible refine Pf.i_isiBB ?_
  | with_reducible refine Pf.i_I (by with_unfolding_all fail "side") ?_
  | with_reducible refine Pf.i_lenI (by fail "sq") ?_
  | with_reducible refine Pf.i_lenL (by fail "sq") ?_
  | with_reducible refine Pf.i_tyL (by fail "sq") ?_
  | with_reducible refine Pf.i_ixI (by fail "sq") (by with_unfolding_all omega) (by with_unfolding_all omega) ?_
  | fail "no")
local macro_rules | `(tactic| fail "rdn") => `(tactic| with_reducible first
  | refine Pf.i_nm0 ?_
  | refine Pf.i_nm1 ?_
  | refine Pf.i_nm2 ?_
  | refine Pf.i_nm3 ?_
  | refine Pf.i_nm4 ?_
  | refine Pf.i_nm5 ?_
  | refine Pf.i_nm6 ?_
  | refine Pf.i_nm7 ?_
  | refine Pf.i_nm8 ?_
  | refine Pf.i_nm9 ?_
  | refine Pf.i_nm10 ?_
  | refine Pf.i_nm11 ?_
  | refine Pf.i_nm12 ?_
  | refine Pf.i_nm13 ?_
  | refine Pf.i_nm14 ?_
  | refine Pf.i_nm15 ?_
  | fail "no")
local macro_rules | `(tactic| fail "rd2") => `(tactic| first
  | fail "rd1"
  | (with_reducible show ∃ k, V.bl _ = V.bl k ∧ _; refine ⟨_, rfl, ?_⟩)
  | (with_reducible refine Pf.i_decT ?_ ?_; focus omega)
  | (with_reducible refine Pf.i_decF ?_ ?_; focus omega)
  | (with_reducible refine Pf.i_ndecT ?_ ?_; focus omega)
  | (with_reducible refine Pf.i_ndecF ?_ ?_; focus omega)
  | (with_reducible show Ends.nx _ _ _; dsimp only)
  | (with_reducible show Ends.rt _ _ _; dsimp only)
  | fail "no")
local macro_rules | `(tactic| fail "rd") => `(tactic| repeat fail "rd2")

/-! a Share at an address -/
def shF (n d : Int) : List (Str × V) := putF "den" (.int d) (putF "num" (.int n) [])
theorem knd : ¬ (("num" : Str) = "den") := by decide +kernel
theorem shF_eq (n d : Int) : shF n d = ([("num", V.int n), ("den", V.int d)] : List (Str × V)) := by
  show (if ("num" : Str) = "den" then [(("num" : Str), V.int d)] else (("num" : Str), V.int n) :: putF "den" (V.int d) []) = _
  rw [if_neg knd]
  rfl
theorem shF_num (n d : Int) : (shF n d).lookup ("num" : Str) = some (.int n) := by
  unfold shF
  rw [lookup_putF, if_neg knd, lookup_putF, if_pos rfl]
theorem shF_den (n d : Int) : (shF n d).lookup ("den" : Str) = some (.int d) := by
  unfold shF
  rw [lookup_putF, if_pos rfl]
theorem shF_no (n d : Int) {m : Str} (h1 : ¬ m = "den") (h2 : ¬ m = "num") : (shF n d).lookup m = none := by
  unfold shF
  rw [lookup_putF, if_neg h1, lookup_putF, if_neg h2]
  rfl
structure Sh (C : Addr) (H : Hp) (p : Addr) (n d : Int) : Prop where
  ob : ∃ dx, H p = some (.ins C dx (shF n d))
  pos : 0 < d
theorem Sh.same {C : Addr} {H H' : Hp} {p : Addr} {n d : Int} (s : Same H H') (h : Sh C H p n d) : Sh C H' p n d := ⟨h.ob.imp fun _ e => s _ _ e, h.pos⟩
section
variable {K : PySem.W.Frag} {mg : Str → Option Value} {H : Hp} {Q : VK} {p q : Addr} {n d n2 d2 : Int} {sp : Sp} {E : XK} {σ : L2.St} {t : TA} {m : Str}
theorem i_num {T : Txt K mg} {K' : PySem.W.Frag} (h : Sh T.C_Share H p n d) (hK : K' = K) (k : Q (.int n) H) : rFld K' "num" (.ref p) H Q := by
  subst hK
  exact i_rfld h.ob.choose_spec T.cl_Share T.na_Share_num (shF_num _ _) k
theorem i_den {T : Txt K mg} {K' : PySem.W.Frag} (h : Sh T.C_Share H p n d) (hK : K' = K) (k : Q (.int d) H) : rFld K' "den" (.ref p) H Q := by
  subst hK
  exact i_rfld h.ob.choose_spec T.cl_Share T.na_Share_den (shF_den _ _) k
theorem i_isiSh {T : Txt K mg} {K' : PySem.W.Frag} (h : Sh T.C_Share H p n d) (hK : K' = K) (k : Q (.bl true) H) : rIsi K' [.ref p, .ref T.C_Share] H Q := by
  subst hK
  exact i_isi (.own _) (.base (.ins h.ob.choose_spec T.cl_Share T.ha_Share T.hn_get T.ht_get T.hm_Share)) T.kit_Share k
theorem i_isiShI {T : Txt K mg} {K' : PySem.W.Frag} (hK : K' = K) (k : Q (.bl false) H) : rIsi K' [.int n, .ref T.C_Share] H Q := by
  subst hK
  exact i_isi (.own _) (.base (.int _)) T.kii_Share k
theorem i_shOwn {C : Addr} (h : Sh C H p n d) (h2 : Sh C H q n2 d2) (k : sp [.ref p, .ref q] H Q E) : rOwn C sp E (.ref p) (.ref q) H Q := i_own h.ob.choose_spec h2.ob.choose_spec k
theorem i_shOwnI {C : Addr} {i : Int} (h : Sh C H p n d) (k : sp [.ref p, .int i] H Q E) : rOwnI C sp E (.ref p) (.int i) H Q := i_ownI h.ob.choose_spec k
theorem i_shIOwn {C : Addr} {i : Int} (h : Sh C H p n d) (k : sp [.ref p, .int i] H Q E) : rIOwn C sp E (.int i) (.ref p) H Q := i_Iown h.ob.choose_spec k
theorem i_shOwn1 {C : Addr} (h : Sh C H p n d) (k : sp [.ref p] H Q E) : rOwn1 C sp E (.ref p) H Q := i_own1 h.ob.choose_spec k
theorem i_shOwnC {C : Addr} (h : Sh C H p n d) (k : sp [.ref p] H Q E) : rOwnC C sp E [.ref p] H Q := i_ownC h.ob.choose_spec k
theorem i_shOwnCB {C : Addr} (h : Sh C H p n d) (k : sp [.ref p] H (fun v H' => ∃ b, v = .bl b ∧ Q v H') E) : rOwnCB C sp E [.ref p] H Q := i_ownCB h.ob.choose_spec k
theorem i_shMeth {C : Addr} (h : Sh C H p n d) (h1 : ¬ m = "den") (h2 : ¬ m = "num") (k : t σ H fun vs H2 => sp (.ref p :: vs) H2 Q E) : rMeth C m sp E t σ (.ref p) H Q := i_rmeth h.ob.choose_spec (shF_no _ _ h1 h2) k
end
local macro_rules | `(tactic| fail "sh") => `(tactic| with_reducible first
  | assumption
  | (apply Sh.same; (focus fail "sm"); fail "sh")
  | fail "no")
local macro_rules | `(tactic| fail "rd1") => `(tactic| first
  | with_reducible refine i_num (by fail "sh") (by with_unfolding_all exact rfl) ?_
  | with_reducible refine i_den (by fail "sh") (by with_unfolding_all exact rfl) ?_
  | with_reducible refine i_isiSh (by fail "sh") (by with_unfolding_all exact rfl) ?_
  | with_reducible refine i_isiShI (by with_unfolding_all exact rfl) ?_
  | with_reducible refine i_shOwn (by fail "sh") (by fail "sh") ?_
  | with_reducible refine i_shOwnI (by fail "sh") ?_
  | with_reducible refine i_shIOwn (by fail "sh") ?_
  | with_reducible refine i_shOwn1 (by fail "sh") ?_
  | with_reducible refine i_shOwnC (by fail "sh") ?_
  | with_reducible refine i_shOwnCB (by fail "sh") ?_
  | with_reducible refine i_shMeth (by fail "sh") (by with_unfolding_all decide +kernel) (by with_unfolding_all decide +kernel) ?_
  | fail "no")

section
variable {P : Program} {w : World} {K : PySem.W.Frag} {mg : Str → Option Value} {base : Heap}
def spInit (C : Addr) : Sp := fun vs H Q _ => ∃ (p dx : Addr) (n d : Int), vs = [.ref p, .int n, .int d] ∧ H p = some (.ins C dx []) ∧ d ≠ 0 ∧ Sz 1000 d ∧
  ∀ H', (∃ dx, H' p = some (.ins C dx (shF (nn n d) (nd n d)))) → (∀ b o, H b = some o → b ≠ p → H' b = some o) → Q .non H'
theorem ok_ShareD_initD (T : Txt K mg) : FnOk P w K mg base CX0 1 T.f_ShareD_initD T.fd_ShareD_initD ["self", "num", "den"] (spInit T.C_Share) := by
  refine T.F_ShareD_initD.ok (CX := CX0) sc_ShareD_initD (fun vs H Q E h => ?_) (fun cdv A outer s H vs Q E hr h => ?_)
  · obtain ⟨p, dx, n, d, rfl, _⟩ := h
    rfl
  · obtain ⟨p, dx, n, d, rfl, hp, hd, hz, k1⟩ := h
    refine ⟨_, (pss_cons (ps_if (pt_cmpR op_eq (pv 2) pe_int (nomark _))
      (pss_one ps_never)
      pss_nil)
    (pss_cons (ps_set (i := 3) sc_ShareD_initD.nd rfl (by first | exact Or.inl rfl | exact Or.inr rfl) (pe_callBfun cr_gcd (by rfl) T.b_gcd (pa_cons (pv 1) (pa_cons (pv 2) pa_nil))))
    (pss_cons (ps_if (pt_cmpR op_lt (pv 2) pe_int (nomark _))
      (pss_one (ps_set (i := 3) sc_ShareD_initD.nd rfl (by first | exact Or.inl rfl | exact Or.inr rfl) (pe_un un_neg (pv 3))))
      pss_nil)
    (pss_cons (ps_fld (pv 0) (pe_op op_fdivA (pv 1) (pv 3)) rfl)
    (pss_one (ps_fld (pv 0) (pe_op op_fdivA (pv 2) (pv 3)) rfl)))))).nox, ?_⟩
    rw [st_ShareD_initD]; try dsimp only [L2.Cx.nox, L2.cxOf]
    fail "rd"
    have hc : CDivA n (cg n d) := divA (b := 1000) (cg_ne hd) (Sz.of_le (cg_le n hd) hz) (by decide) (by decide)
    have hc2 : CDivA d (cg n d) := hc
    have go : ∀ H, H p = some (.ins T.C_Share dx []) → (∀ H', (∃ dx, H' p = some (.ins T.C_Share dx (shF (nn n d) (nd n d)))) → (∀ b o, H b = some o → b ≠ p → H' b = some o) → Q .non H') →
        Q .non (upd (upd H p (.ins T.C_Share dx (putF "num" (.int (n.fdiv (cg n d))) []))) p (.ins T.C_Share dx (putF "den" (.int (d.fdiv (cg n d))) (putF "num" (.int (n.fdiv (cg n d))) [])))) := fun H hp k1 =>
      k1 _ ⟨dx, upd_same⟩ fun b o e hb => by rw [upd_ne hb, upd_ne hb]; exact e
    have l1 : (putF "num" (V.int (n.fdiv (cg n d))) []).length < 1000 := by show 1 < 1000; decide
    refine i_dec (fun hn => ?_) (fun hn => ?_)
    · have ec : -((Nat.gcd n.natAbs d.natAbs : Nat) : Int) = cg n d := by unfold cg; rw [if_pos hn]
      fail "rd"
      rw [ec]
      fail "rd"
      refine i_rput hp T.cl_Share T.na_Share_num (by decide) ?_
      fail "rd"
      refine i_rput upd_same T.cl_Share T.na_Share_den l1 ?_
      exact go H hp k1
    · have ec : ((Nat.gcd n.natAbs d.natAbs : Nat) : Int) = cg n d := by unfold cg; rw [if_neg hn]
      fail "rd"
      rw [ec]
      fail "rd"
      refine i_rput hp T.cl_Share T.na_Share_num (by decide) ?_
      fail "rd"
      refine i_rput upd_same T.cl_Share T.na_Share_den l1 ?_
      exact go H hp k1
end
end K00
namespace K00
open PySem L2 Pf
local macro_rules | `(tactic| fail "sm") => `(tactic| with_reducible first
  | assumption
  | (apply Pf.Sm.new; focus assumption)
  | fail "no")
local macro_rules | `(tactic| fail "hp") => `(tactic| with_reducible first
  | assumption
  | ((show L2.upd _ _ _ _ = _); with_unfolding_all exact upd_same)
  | (apply Pf.same_at; (focus fail "sm"); fail "hp")
  | (apply Pf.upd_at; (focus (first | assumption | exact Ne.symm (by assumption))); fail "hp")
  | fail "no")
local macro_rules | `(tactic| fail "sq") => `(tactic| with_reducible first
  | assumption
  | (apply SqL.of; fail "hp")
  | (apply Same.seq; (focus fail "sm"); fail "sq")
  | fail "no")
local macro_rules | `(tactic| fail "sqT") => `(tactic| with_reducible first
  | assumption
  | (apply SqT.of; fail "hp")
  | (apply Pf.same_seqT; (focus fail "sm"); fail "sqT")
  | fail "no")
local macro_rules | `(tactic| fail "sz") => `(tactic| with_reducible first
  | assumption
  | (apply Pf.Sz.mul; (focus fail "sz"); focus fail "sz")
  | fail "no")
local macro_rules | `(tactic| fail "mulok") => `(tactic| first
  | exact Pf.mulZ (by fail "sz") (by fail "sz") (by decide) (by decide) (by decide)
  | exact Pf.mulR (by decide) (by decide)
  | exact Pf.mulL (by decide) (by decide)
  | exact Pf.mulR (by omega) (by omega)
  | exact Pf.mulL (by omega) (by omega)
  | fail "no")
local macro_rules | `(tactic| fail "side") => `(tactic| first
  | ((with_reducible show PySem.IntMulOk _ _); fail "mulok")
  | ((with_reducible show Pf.CDivA _ _); first | (with_reducible assumption) | exact ⟨by decide, by decide⟩)
  | ((with_reducible show CPow _ _); exact ⟨by decide, by decide, by decide⟩)
  | (show (0 : Int) < _; first | decide | omega)
  | (refine ⟨?_, ?_⟩ <;> first | decide | omega)
  | fail "no")
local macro_rules | `(tactic| fail "rd1") => `(tactic| first
  | with_reducible refine Pf.i_seq ?_
  | with_reducible refine Pf.i_asg ?_
  | with_reducible refine Pf.i_op ?_
  | (with_reducible show gName _ _ _ _ _; fail "rdn")
  | with_reducible refine Pf.i_var (by with_unfolding_all exact rfl) ?_
  | with_reducible refine Pf.i_c ?_
  | with_reducible refine Pf.i_I0 ?_
  | with_reducible refine Pf.i_cb ?_
  | with_reducible refine Pf.i_cons ?_
  | with_reducible refine Pf.i_nil ?_
  | with_reducible refine Pf.i_fld ?_
  | with_reducible refine Pf.i_if ?_
  | with_reducible refine Pf.i_test ?_
  | with_reducible refine Pf.i_eqI ?_
  | with_reducible refine Pf.i_neI ?_
  | with_reducible refine Pf.i_eqS ?_
  | with_reducible refine Pf.i_neS ?_
  | with_reducible refine Pf.i_eqB ?_
  | with_reducible refine Pf.i_neB ?_
  | with_reducible refine Pf.i_ret ?_
  | with_reducible refine Pf.i_drop ?_
  | with_reducible refine Pf.i_un ?_
  | with_reducible refine Pf.i_U ?_
  | with_reducible refine Pf.i_int ?_
  | with_reducible refine Pf.i_intB ?_
  | with_reducible refine Pf.i_bool ?_
  | with_reducible refine Pf.i_boolB ?_
  | with_reducible refine Pf.i_abs ?_
  | with_reducible refine Pf.i_B ?_
  | with_reducible refine Pf.i_and ?_
  | with_reducible refine Pf.i_or ?_
  | with_reducible refine Pf.i_not ?_
  | with_reducible refine Pf.i_andV ?_
  | with_reducible refine Pf.i_orV ?_
  | with_reducible refine Pf.i_notV ?_
  | with_reducible refine Pf.i_ifE ?_
  | with_reducible refine Pf.i_call ?_
  | with_reducible refine Pf.i_lst ?_
  | with_reducible refine Pf.i_tup ?_
  | with_reducible refine Pf.i_bm ?_
  | with_reducible refine Pf.i_bm0 ?_
  | with_reducible refine Pf.i_next ?_
  | with_reducible refine Pf.i_brk ?_
  | with_reducible refine Pf.i_cont ?_
  | with_reducible refine Pf.i_T ?_
  | with_reducible refine Pf.i_F ?_
  | with_reducible refine Pf.i_nT ?_
  | with_reducible refine Pf.i_nF ?_
  | with_reducible refine Pf.i_for1 ?_
  | with_reducible refine Pf.i_for2 ?_
  | with_reducible refine Pf.i_forL ?_
  | with_reducible refine Pf.i_forT ?_
  | with_reducible refine Pf.i_par ?_
  | with_reducible refine Pf.i_put ?_
  | with_reducible refine Pf.i_make ?_
  | with_reducible refine Pf.i_meth ?_
  | with_reducible refine Pf.i_gcd ?_
  | with_reducible refine Pf.i_isiII ?_
  | with_reducible refine Pf.i_isiIB ?_
  | with_reducible refine Pf.i_isiBB ?_
  | with_reducible refine Pf.i_I (by with_unfolding_all fail "side") ?_
  | with_reducible refine Pf.i_lenI (by fail "sq") ?_
  | with_reducible refine Pf.i_lenL (by fail "sq") ?_
  | with_reducible refine Pf.i_tyL (by fail "sq") ?_
  | with_reducible refine Pf.i_ixI (by fail "sq") (by with_unfolding_all omega) (by with_unfolding_all omega) ?_
  | fail "no")
local macro_rules | `(tactic| fail "rdn") => `(tactic| with_reducible first
  | refine Pf.i_nm0 ?_
  | refine Pf.i_nm1 ?_
  | refine Pf.i_nm2 ?_
  | refine Pf.i_nm3 ?_
  | refine Pf.i_nm4 ?_
  | refine Pf.i_nm5 ?_
  | refine Pf.i_nm6 ?_
  | refine Pf.i_nm7 ?_
  | refine Pf.i_nm8 ?_
  | refine Pf.i_nm9 ?_
  | refine Pf.i_nm10 ?_
  | refine Pf.i_nm11 ?_
  | refine Pf.i_nm12 ?_
  | refine Pf.i_nm13 ?_
  | refine Pf.i_nm14 ?_
  | refine Pf.i_nm15 ?_
  | fail "no")
local macro_rules | `(tactic| fail "rd2") => `(tactic| first
  | fail "rd1"
  | (with_reducible show ∃ k, V.bl _ = V.bl k ∧ _; refine ⟨_, rfl, ?_⟩)
  | (with_reducible refine Pf.i_decT ?_ ?_; focus omega)
  | (with_reducible refine Pf.i_decF ?_ ?_; focus omega)
  | (with_reducible refine Pf.i_ndecT ?_ ?_; focus omega)
  | (with_reducible refine Pf.i_ndecF ?_ ?_; focus omega)
  | (with_reducible show Ends.nx _ _ _; dsimp only)
  | (with_reducible show Ends.rt _ _ _; dsimp only)
  | fail "no")
local macro_rules | `(tactic| fail "rd") => `(tactic| repeat fail "rd2")

local macro_rules | `(tactic| fail "sh") => `(tactic| with_reducible first
  | assumption
  | (apply Sh.same; (focus fail "sm"); fail "sh")
  | fail "no")
local macro_rules | `(tactic| fail "rd1") => `(tactic| first
  | with_reducible refine i_num (by fail "sh") (by with_unfolding_all exact rfl) ?_
  | with_reducible refine i_den (by fail "sh") (by with_unfolding_all exact rfl) ?_
  | with_reducible refine i_isiSh (by fail "sh") (by with_unfolding_all exact rfl) ?_
  | with_reducible refine i_isiShI (by with_unfolding_all exact rfl) ?_
  | with_reducible refine i_shOwn (by fail "sh") (by fail "sh") ?_
  | with_reducible refine i_shOwnI (by fail "sh") ?_
  | with_reducible refine i_shIOwn (by fail "sh") ?_
  | with_reducible refine i_shOwn1 (by fail "sh") ?_
  | with_reducible refine i_shOwnC (by fail "sh") ?_
  | with_reducible refine i_shOwnCB (by fail "sh") ?_
  | with_reducible refine i_shMeth (by fail "sh") (by with_unfolding_all decide +kernel) (by with_unfolding_all decide +kernel) ?_
  | fail "no")

section
variable {P : Program} {w : World} {K : PySem.W.Frag} {mg : Str → Option Value} {base : Heap}
theorem i_newSh {C : Addr} {H : Hp} {Q : VK} {E : XK} {n d : Int} (hd : d ≠ 0) (hz : Sz 1000 d) (k : ∀ r H', H r = none → Same H H' → Sh C H' r (nn n d) (nd n d) → Q (.ref r) H') : rMake C (spInit C) [] E [.int n, .int d] H Q := by
  intro x dx hx hdx ne
  exact ⟨x, dx, n, d, rfl, upd_same, hd, hz, fun H' e kp => ⟨rfl, k x H' hx (Same.made hx hdx kp) ⟨e, nd_pos hd⟩⟩⟩
theorem i_newSh1 {C : Addr} {H : Hp} {Q : VK} {E : XK} {n : Int} (k : ∀ r H', H r = none → Same H H' → Sh C H' r (nn n 1) (nd n 1) → Q (.ref r) H') : rMake C (spInit C) [.int 1] E [.int n] H Q := by
  intro x dx hx hdx ne
  exact ⟨x, dx, n, 1, rfl, upd_same, by decide, (by unfold Sz; decide), fun H' e kp => ⟨rfl, k x H' hx (Same.made hx hdx kp) ⟨e, nd_pos (by decide)⟩⟩⟩
/-- two shares into a new one -/
def spBin (C : Addr) (N D : Int → Int → Int → Int → Int) : Sp := fun vs H Q _ => ∃ (p q : Addr) (n1 d1 n2 d2 : Int), vs = [.ref p, .ref q] ∧ Sh C H p n1 d1 ∧ Sh C H q n2 d2 ∧
  Sz 320 n1 ∧ Sz 320 d1 ∧ Sz 320 n2 ∧ Sz 320 d2 ∧ ∀ r H', Same H H' → Sh C H' r (nn (N n1 d1 n2 d2) (D n1 d1 n2 d2)) (nd (N n1 d1 n2 d2) (D n1 d1 n2 d2)) → Q (.ref r) H'
/-- a share and an int into a new one -/
def spInt (C : Addr) (N : Int → Int → Int) : Sp := fun vs H Q _ => ∃ (p : Addr) (n d k : Int), vs = [.ref p, .int k] ∧ Sh C H p n d ∧ Sz 320 n ∧ Sz 320 d ∧ Sz 320 k ∧
  ∀ r H', Same H H' → Sh C H' r (nn (N n k) d) (nd (N n k) d) → Q (.ref r) H'
/-- a share into a new one -/
def spOne (C : Addr) (N : Int → Int) : Sp := fun vs H Q _ => ∃ (p : Addr) (n d : Int), vs = [.ref p] ∧ Sh C H p n d ∧ Sz 320 n ∧ Sz 320 d ∧
  ∀ r H', Same H H' → Sh C H' r (nn (N n) d) (nd (N n) d) → Q (.ref r) H'
def spOr (s t : Sp) : Sp := fun vs H Q E => s vs H Q E ∨ t vs H Q E
theorem ok_ShareD_addD (T : Txt K mg) : FnOk P w K mg base CX0 3 T.f_ShareD_addD T.fd_ShareD_addD ["self", "other"] (spBin T.C_Share (fun n1 d1 n2 d2 => n1 * d2 + n2 * d1) (fun n1 d1 n2 d2 => d1 * d2)) := by
  refine T.F_ShareD_addD.ok sc_ShareD_addD (fun vs H Q E h => ?_) (fun cdv A outer s H vs Q E hr h => ?_)
  · obtain ⟨p, q, n1, d1, n2, d2, rfl, _⟩ := h
    rfl
  · obtain ⟨p, q, n1, d1, n2, d2, rfl, h1, h2, z1, z2, z3, z4, k1⟩ := h
    have p1 := h1.pos
    have p2 := h2.pos
    refine ⟨_, (pss_cons (ps_if (pt_not (pt_val (pe_callB call_isi (by rfl) T.b_isinstance (by decide +kernel) (pa_cons (pv 1) (pa_cons (pe_glob (v := .ref T.C_Share) rfl T.g_Share rfl) pa_nil)))))
      (pss_one ps_never)
      pss_nil)
    (pss_one (ps_ret (pe_make T.mk_Share (ok_ShareD_initD T) (hr.mono (by decide)) rfl T.g_Share T.b_ShareD_initD .nil pass0 (pa_cons (pe_op op_add (pe_op op_mulX (pe_fld (pv 0) rfl) (pe_fld (pv 1) rfl)) (pe_op op_mulX (pe_fld (pv 1) rfl) (pe_fld (pv 0) rfl))) (pa_cons (pe_op op_mulX (pe_fld (pv 0) rfl) (pe_fld (pv 1) rfl)) pa_nil)))))), ?_⟩
    rw [st_ShareD_addD]; try dsimp only [L2.Cx.nox, L2.cxOf]
    fail "rd"
    refine i_newSh (Int.mul_ne_zero (by omega) (by omega)) ((z2.mul z4).up) fun r H' hr s1 hs => ?_
    fail "rd"
    exact k1 r H' s1 hs
theorem ok_ShareD_subD (T : Txt K mg) : FnOk P w K mg base CX0 3 T.f_ShareD_subD T.fd_ShareD_subD ["self", "other"] (spBin T.C_Share (fun n1 d1 n2 d2 => n1 * d2 - n2 * d1) (fun n1 d1 n2 d2 => d1 * d2)) := by
  refine T.F_ShareD_subD.ok sc_ShareD_subD (fun vs H Q E h => ?_) (fun cdv A outer s H vs Q E hr h => ?_)
  · obtain ⟨p, q, n1, d1, n2, d2, rfl, _⟩ := h
    rfl
  · obtain ⟨p, q, n1, d1, n2, d2, rfl, h1, h2, z1, z2, z3, z4, k1⟩ := h
    have p1 := h1.pos
    have p2 := h2.pos
    refine ⟨_, (pss_cons (ps_if (pt_not (pt_val (pe_callB call_isi (by rfl) T.b_isinstance (by decide +kernel) (pa_cons (pv 1) (pa_cons (pe_glob (v := .ref T.C_Share) rfl T.g_Share rfl) pa_nil)))))
      (pss_one ps_never)
      pss_nil)
    (pss_one (ps_ret (pe_make T.mk_Share (ok_ShareD_initD T) (hr.mono (by decide)) rfl T.g_Share T.b_ShareD_initD .nil pass0 (pa_cons (pe_op op_sub (pe_op op_mulX (pe_fld (pv 0) rfl) (pe_fld (pv 1) rfl)) (pe_op op_mulX (pe_fld (pv 1) rfl) (pe_fld (pv 0) rfl))) (pa_cons (pe_op op_mulX (pe_fld (pv 0) rfl) (pe_fld (pv 1) rfl)) pa_nil)))))), ?_⟩
    rw [st_ShareD_subD]; try dsimp only [L2.Cx.nox, L2.cxOf]
    fail "rd"
    refine i_newSh (Int.mul_ne_zero (by omega) (by omega)) ((z2.mul z4).up) fun r H' hr s1 hs => ?_
    fail "rd"
    exact k1 r H' s1 hs
theorem ok_ShareD_rmulD (T : Txt K mg) : FnOk P w K mg base CX0 3 T.f_ShareD_rmulD T.fd_ShareD_rmulD ["self", "other"] (spInt T.C_Share (fun n k => k * n)) := by
  refine T.F_ShareD_rmulD.ok sc_ShareD_rmulD (fun vs H Q E h => ?_) (fun cdv A outer s H vs Q E hr h => ?_)
  · obtain ⟨p, n, d, k, rfl, _⟩ := h
    rfl
  · obtain ⟨p, n, d, k, rfl, h1, z1, z2, z3, k1⟩ := h
    have p1 := h1.pos
    refine ⟨_, (pss_cons (ps_if (pt_val (pe_callB call_isi (by rfl) T.b_isinstance (by decide +kernel) (pa_cons (pv 1) (pa_cons (pe_bltn (v := .ty "int") (by rfl) T.b_int (by decide +kernel) rfl) pa_nil))))
      (pss_one (ps_ret (pe_make T.mk_Share (ok_ShareD_initD T) (hr.mono (by decide)) rfl T.g_Share T.b_ShareD_initD .nil pass0 (pa_cons (pe_op op_mulX (pv 1) (pe_fld (pv 0) rfl)) (pa_cons (pe_fld (pv 0) rfl) pa_nil)))))
      pss_nil)
    (pss_one ps_never)), ?_⟩
    rw [st_ShareD_rmulD]; try dsimp only [L2.Cx.nox, L2.cxOf]
    fail "rd"
    refine i_newSh (by omega) (z2.up) fun r H' hr s1 hs => ?_
    fail "rd"
    exact k1 r H' s1 hs
theorem ok_ShareD_mulD (T : Txt K mg) : FnOk P w K mg base CX0 3 T.f_ShareD_mulD T.fd_ShareD_mulD ["self", "other"] (spOr (spBin T.C_Share (fun n1 d1 n2 d2 => n1 * n2) (fun n1 d1 n2 d2 => d1 * d2)) (spInt T.C_Share (fun n k => n * k))) := by
  refine T.F_ShareD_mulD.ok sc_ShareD_mulD (fun vs H Q E h => ?_) (fun cdv A outer s H vs Q E hr h => ?_)
  · rcases h with h | h
    · obtain ⟨p, q, n1, d1, n2, d2, rfl, _⟩ := h
      rfl
    · obtain ⟨p, n, d, k, rfl, _⟩ := h
      rfl
  · refine ⟨_, (pss_cons (ps_if (pt_val (pe_callB call_isi (by rfl) T.b_isinstance (by decide +kernel) (pa_cons (pv 1) (pa_cons (pe_glob (v := .ref T.C_Share) rfl T.g_Share rfl) pa_nil))))
      (pss_one (ps_ret (pe_make T.mk_Share (ok_ShareD_initD T) (hr.mono (by decide)) rfl T.g_Share T.b_ShareD_initD .nil pass0 (pa_cons (pe_op op_mulX (pe_fld (pv 0) rfl) (pe_fld (pv 1) rfl)) (pa_cons (pe_op op_mulX (pe_fld (pv 0) rfl) (pe_fld (pv 1) rfl)) pa_nil)))))
      pss_nil)
    (pss_cons (ps_if (pt_val (pe_callB call_isi (by rfl) T.b_isinstance (by decide +kernel) (pa_cons (pv 1) (pa_cons (pe_bltn (v := .ty "int") (by rfl) T.b_int (by decide +kernel) rfl) pa_nil))))
      (pss_one (ps_ret (pe_make T.mk_Share (ok_ShareD_initD T) (hr.mono (by decide)) rfl T.g_Share T.b_ShareD_initD .nil pass0 (pa_cons (pe_op op_mulX (pe_fld (pv 0) rfl) (pv 1)) (pa_cons (pe_fld (pv 0) rfl) pa_nil)))))
      pss_nil)
    (pss_one ps_never))), ?_⟩
    rcases h with h | h
    · obtain ⟨p, q, n1, d1, n2, d2, rfl, h1, h2, z1, z2, z3, z4, k1⟩ := h
      have p1 := h1.pos
      have p2 := h2.pos
      rw [st_ShareD_mulD]; try dsimp only [L2.Cx.nox, L2.cxOf]
      fail "rd"
      refine i_newSh (Int.mul_ne_zero (by omega) (by omega)) ((z2.mul z4).up) fun r H' hr s1 hs => ?_
      fail "rd"
      exact k1 r H' s1 hs
    · obtain ⟨p, n, d, k, rfl, h1, z1, z2, z3, k1⟩ := h
      have p1 := h1.pos
      rw [st_ShareD_mulD]; try dsimp only [L2.Cx.nox, L2.cxOf]
      fail "rd"
      refine i_newSh (by omega) (z2.up) fun r H' hr s1 hs => ?_
      fail "rd"
      exact k1 r H' s1 hs
theorem ok_ShareD_negD (T : Txt K mg) : FnOk P w K mg base CX0 3 T.f_ShareD_negD T.fd_ShareD_negD ["self"] (spOne T.C_Share (fun n => -n)) := by
  refine T.F_ShareD_negD.ok sc_ShareD_negD (fun vs H Q E h => ?_) (fun cdv A outer s H vs Q E hr h => ?_)
  · obtain ⟨p, n, d, rfl, _⟩ := h
    rfl
  · obtain ⟨p, n, d, rfl, h1, z1, z2, k1⟩ := h
    have p1 := h1.pos
    refine ⟨_, (pss_one (ps_ret (pe_make T.mk_Share (ok_ShareD_initD T) (hr.mono (by decide)) rfl T.g_Share T.b_ShareD_initD .nil pass0 (pa_cons (pe_un un_neg (pe_fld (pv 0) rfl)) (pa_cons (pe_fld (pv 0) rfl) pa_nil))))), ?_⟩
    rw [st_ShareD_negD]; try dsimp only [L2.Cx.nox, L2.cxOf]
    fail "rd"
    refine i_newSh (by omega) (z2.up) fun r H' hr s1 hs => ?_
    fail "rd"
    exact k1 r H' s1 hs
theorem ok_ShareD_absD (T : Txt K mg) : FnOk P w K mg base CX0 3 T.f_ShareD_absD T.fd_ShareD_absD ["self"] (spOne T.C_Share (fun n => iabs n)) := by
  refine T.F_ShareD_absD.ok sc_ShareD_absD (fun vs H Q E h => ?_) (fun cdv A outer s H vs Q E hr h => ?_)
  · obtain ⟨p, n, d, rfl, _⟩ := h
    rfl
  · obtain ⟨p, n, d, rfl, h1, z1, z2, k1⟩ := h
    have p1 := h1.pos
    refine ⟨_, (pss_one (ps_ret (pe_make T.mk_Share (ok_ShareD_initD T) (hr.mono (by decide)) rfl T.g_Share T.b_ShareD_initD .nil pass0 (pa_cons (pe_callB call_absN (by rfl) T.b_abs (by decide +kernel) (pa_cons (pe_fld (pv 0) rfl) pa_nil)) (pa_cons (pe_fld (pv 0) rfl) pa_nil))))), ?_⟩
    rw [st_ShareD_absD]; try dsimp only [L2.Cx.nox, L2.cxOf]
    fail "rd"
    refine i_newSh (by omega) (z2.up) fun r H' hr s1 hs => ?_
    fail "rd"
    exact k1 r H' s1 hs
def spBool (C : Addr) : Sp := fun vs H Q _ => ∃ (p : Addr) (n d : Int), vs = [.ref p] ∧ Sh C H p n d ∧ Q (.bl (n != 0)) H
theorem ok_ShareD_boolD (T : Txt K mg) : FnOk P w K mg base CX0 1 T.f_ShareD_boolD T.fd_ShareD_boolD ["self"] (spBool T.C_Share) := by
  refine T.F_ShareD_boolD.ok sc_ShareD_boolD (fun vs H Q E h => ?_) (fun cdv A outer s H vs Q E hr h => ?_)
  · obtain ⟨p, n, d, rfl, _⟩ := h
    rfl
  · obtain ⟨p, n, d, rfl, h1, k1⟩ := h
    refine ⟨_, (pss_one (ps_ret (pe_callTy call_boolN (by rfl) T.b_bool (by decide +kernel) (pa_cons (pe_fld (pv 0) rfl) pa_nil)))), ?_⟩
    rw [st_ShareD_boolD]; try dsimp only [L2.Cx.nox, L2.cxOf]
    fail "rd"
    exact k1
def spCmp (C : Addr) (B : Int → Int → Int → Int → Bool) : Sp := fun vs H Q _ => ∃ (p q : Addr) (n1 d1 n2 d2 : Int), vs = [.ref p, .ref q] ∧ Sh C H p n1 d1 ∧ Sh C H q n2 d2 ∧
  Sz 320 n1 ∧ Sz 320 d1 ∧ Sz 320 n2 ∧ Sz 320 d2 ∧ Q (.bl (B n1 d1 n2 d2)) H
theorem ok_Share_below (T : Txt K mg) : FnOk P w K mg base CX0 1 T.f_Share_below T.fd_Share_below ["self", "other"] (spCmp T.C_Share (fun n1 d1 n2 d2 => decide (n1 * d2 < n2 * d1))) := by
  refine T.F_Share_below.ok sc_Share_below (fun vs H Q E h => ?_) (fun cdv A outer s H vs Q E hr h => ?_)
  · obtain ⟨p, q, n1, d1, n2, d2, rfl, _⟩ := h
    rfl
  · obtain ⟨p, q, n1, d1, n2, d2, rfl, h1, h2, z1, z2, z3, z4, k1⟩ := h
    refine ⟨_, (pss_one (ps_ret (pe_cmpR op_lt (pe_op op_mulX (pe_fld (pv 0) rfl) (pe_fld (pv 1) rfl)) (pe_op op_mulX (pe_fld (pv 1) rfl) (pe_fld (pv 0) rfl)) (nomark _)))), ?_⟩
    rw [st_Share_below]; try dsimp only [L2.Cx.nox, L2.cxOf]
    fail "rd"
    exact k1
theorem ok_ShareD_eqD (T : Txt K mg) : FnOk P w K mg base CX0 1 T.f_ShareD_eqD T.fd_ShareD_eqD ["self", "other"] (spCmp T.C_Share (fun n1 d1 n2 d2 => decide (n1 = n2 ∧ d1 = d2))) := by
  refine T.F_ShareD_eqD.ok sc_ShareD_eqD (fun vs H Q E h => ?_) (fun cdv A outer s H vs Q E hr h => ?_)
  · obtain ⟨p, q, n1, d1, n2, d2, rfl, _⟩ := h
    rfl
  · obtain ⟨p, q, n1, d1, n2, d2, rfl, h1, h2, z1, z2, z3, z4, k1⟩ := h
    dsimp only at k1
    refine ⟨_, (pss_one (ps_ret (pe_and (pe_callB call_isi (by rfl) T.b_isinstance (by decide +kernel) (pa_cons (pv 1) (pa_cons (pe_glob (v := .ref T.C_Share) rfl T.g_Share rfl) pa_nil))) (pe_and (pe_cmpR op_eq (pe_fld (pv 0) rfl) (pe_fld (pv 1) rfl) (nomark _)) (pe_one (pe_cmpR op_eq (pe_fld (pv 0) rfl) (pe_fld (pv 1) rfl) (nomark _))))))), ?_⟩
    rw [st_ShareD_eqD]; try dsimp only [L2.Cx.nox, L2.cxOf]
    fail "rd"
    refine i_dec (fun e1 => ?_) (fun e1 => ?_)
    · fail "rd"
      rw [show decide (n1 = n2 ∧ d1 = d2) = decide (d1 = d2) by simp [e1]] at k1
      exact k1
    · fail "rd"
      rw [show decide (n1 = n2 ∧ d1 = d2) = false by simp [e1]] at k1
      exact k1
end
end K00
namespace K00
open PySem L2 Pf
local macro_rules | `(tactic| fail "sm") => `(tactic| with_reducible first
  | assumption
  | (apply Pf.Sm.new; focus assumption)
  | fail "no")
local macro_rules | `(tactic| fail "hp") => `(tactic| with_reducible first
  | assumption
  | ((show L2.upd _ _ _ _ = _); with_unfolding_all exact upd_same)
  | (apply Pf.same_at; (focus fail "sm"); fail "hp")
  | (apply Pf.upd_at; (focus (first | assumption | exact Ne.symm (by assumption))); fail "hp")
  | fail "no")
local macro_rules | `(tactic| fail "sq") => `(tactic| with_reducible first
  | assumption
  | (apply SqL.of; fail "hp")
  | (apply Same.seq; (focus fail "sm"); fail "sq")
  | fail "no")
local macro_rules | `(tactic| fail "sqT") => `(tactic| with_reducible first
  | assumption
  | (apply SqT.of; fail "hp")
  | (apply Pf.same_seqT; (focus fail "sm"); fail "sqT")
  | fail "no")
local macro_rules | `(tactic| fail "sz") => `(tactic| with_reducible first
  | assumption
  | (apply Pf.Sz.mul; (focus fail "sz"); focus fail "sz")
  | fail "no")
local macro_rules | `(tactic| fail "mulok") => `(tactic| first
  | exact Pf.mulZ (by fail "sz") (by fail "sz") (by decide) (by decide) (by decide)
  | exact Pf.mulR (by decide) (by decide)
  | exact Pf.mulL (by decide) (by decide)
  | exact Pf.mulR (by omega) (by omega)
  | exact Pf.mulL (by omega) (by omega)
  | fail "no")
local macro_rules | `(tactic| fail "side") => `(tactic| first
  | ((with_reducible show PySem.IntMulOk _ _); fail "mulok")
  | ((with_reducible show Pf.CDivA _ _); first | (with_reducible assumption) | exact ⟨by decide, by decide⟩)
  | ((with_reducible show CPow _ _); exact ⟨by decide, by decide, by decide⟩)
  | (show (0 : Int) < _; first | decide | omega)
  | (refine ⟨?_, ?_⟩ <;> first | decide | omega)
  | fail "no")
local macro_rules | `(tactic| fail "rd1") => `(tactic| first
  | with_reducible refine Pf.i_seq ?_
  | with_reducible refine Pf.i_asg ?_
  | with_reducible refine Pf.i_op ?_
  | (with_reducible show gName _ _ _ _ _; fail "rdn")
  | with_reducible refine Pf.i_var (by with_unfolding_all exact rfl) ?_
  | with_reducible refine Pf.i_c ?_
  | with_reducible refine Pf.i_I0 ?_
  | with_reducible refine Pf.i_cb ?_
  | with_reducible refine Pf.i_cons ?_
  | with_reducible refine Pf.i_nil ?_
  | with_reducible refine Pf.i_fld ?_
  | with_reducible refine Pf.i_if ?_
  | with_reducible refine Pf.i_test ?_
  | with_reducible refine Pf.i_eqI ?_
  | with_reducible refine Pf.i_neI ?_
  | with_reducible refine Pf.i_eqS ?_
  | with_reducible refine Pf.i_neS ?_
  | with_reducible refine Pf.i_eqB ?_
  | with_reducible refine Pf.i_neB ?_
  | with_reducible refine Pf.i_ret ?_
  | with_reducible refine Pf.i_drop ?_
  | with_reducible refine Pf.i_un ?_
  | with_reducible refine Pf.i_U ?_
  | with_reducible refine Pf.i_int ?_
  | with_reducible refine Pf.i_intB ?_
  | with_reducible refine Pf.i_bool ?_
  | with_reducible refine Pf.i_boolB ?_
  | with_reducible refine Pf.i_abs ?_
  | with_reducible refine Pf.i_B ?_
  | with_reducible refine Pf.i_and ?_
  | with_reducible refine Pf.i_or ?_
  | with_reducible refine Pf.i_not ?_
  | with_reducible refine Pf.i_andV ?_
  | with_reducible refine Pf.i_orV ?_
  | with_reducible refine Pf.i_notV ?_
  | with_reducible refine Pf.i_ifE ?_
  | with_reducible refine Pf.i_call ?_
  | with_reducible refine Pf.i_lst ?_
  | with_reducible refine Pf.i_tup ?_
  | with_reducible refine Pf.i_bm ?_
  | with_reducible refine Pf.i_bm0 ?_
  | with_reducible refine Pf.i_next ?_
  | with_reducible refine Pf.i_brk ?_
  | with_reducible refine Pf.i_cont ?_
  | with_reducible refine Pf.i_T ?_
  | with_reducible refine Pf.i_F ?_
  | with_reducible refine Pf.i_nT ?_
  | with_reducible refine Pf.i_nF ?_
  | with_reducible refine Pf.i_for1 ?_
  | with_reducible refine Pf.i_for2 ?_
  | with_reducible refine Pf.i_forL ?_
  | with_reducible refine Pf.i_forT ?_
  | with_reducible refine Pf.i_par ?_
  | with_reducible refine Pf.i_put ?_
  | with_reducible refine Pf.i_make ?_
  | with_reducible refine Pf.i_meth ?_
  | with_reducible refine Pf.i_gcd ?_
  | with_reducible refine Pf.i_isiII ?_
  | with_reducible refine Pf.i_isiIB ?_
  | with_reducible refine Pf.i_isiBB ?_
  | with_reducible refine Pf.i_I (by with_unfolding_all fail "side") ?_
  | with_reducible refine Pf.i_lenI (by fail "sq") ?_
  | with_reducible refine Pf.i_lenL (by fail "sq") ?_
  | with_reducible refine Pf.i_tyL (by fail "sq") ?_
  | with_reducible refine Pf.i_ixI (by fail "sq") (by with_unfolding_all omega) (by with_unfolding_all omega) ?_
  | fail "no")
local macro_rules | `(tactic| fail "rdn") => `(tactic| with_reducible first
  | refine Pf.i_nm0 ?_
  | refine Pf.i_nm1 ?_
  | refine Pf.i_nm2 ?_
  | refine Pf.i_nm3 ?_
  | refine Pf.i_nm4 ?_
  | refine Pf.i_nm5 ?_
  | refine Pf.i_nm6 ?_
  | refine Pf.i_nm7 ?_
  | refine Pf.i_nm8 ?_
  | refine Pf.i_nm9 ?_
  | refine Pf.i_nm10 ?_
  | refine Pf.i_nm11 ?_
  | refine Pf.i_nm12 ?_
  | refine Pf.i_nm13 ?_
  | refine Pf.i_nm14 ?_
  | refine Pf.i_nm15 ?_
  | fail "no")
local macro_rules | `(tactic| fail "rd2") => `(tactic| first
  | fail "rd1"
  | (with_reducible show ∃ k, V.bl _ = V.bl k ∧ _; refine ⟨_, rfl, ?_⟩)
  | (with_reducible refine Pf.i_decT ?_ ?_; focus omega)
  | (with_reducible refine Pf.i_decF ?_ ?_; focus omega)
  | (with_reducible refine Pf.i_ndecT ?_ ?_; focus omega)
  | (with_reducible refine Pf.i_ndecF ?_ ?_; focus omega)
  | (with_reducible show Ends.nx _ _ _; dsimp only)
  | (with_reducible show Ends.rt _ _ _; dsimp only)
  | fail "no")
local macro_rules | `(tactic| fail "rd") => `(tactic| repeat fail "rd2")

local macro_rules | `(tactic| fail "sh") => `(tactic| with_reducible first
  | assumption
  | (apply Sh.same; (focus fail "sm"); fail "sh")
  | fail "no")
local macro_rules | `(tactic| fail "rd1") => `(tactic| first
  | with_reducible refine i_num (by fail "sh") (by with_unfolding_all exact rfl) ?_
  | with_reducible refine i_den (by fail "sh") (by with_unfolding_all exact rfl) ?_
  | with_reducible refine i_isiSh (by fail "sh") (by with_unfolding_all exact rfl) ?_
  | with_reducible refine i_isiShI (by with_unfolding_all exact rfl) ?_
  | with_reducible refine i_shOwn (by fail "sh") (by fail "sh") ?_
  | with_reducible refine i_shOwnI (by fail "sh") ?_
  | with_reducible refine i_shIOwn (by fail "sh") ?_
  | with_reducible refine i_shOwn1 (by fail "sh") ?_
  | with_reducible refine i_shOwnC (by fail "sh") ?_
  | with_reducible refine i_shOwnCB (by fail "sh") ?_
  | with_reducible refine i_shMeth (by fail "sh") (by with_unfolding_all decide +kernel) (by with_unfolding_all decide +kernel) ?_
  | fail "no")

section
variable {P : Program} {w : World} {K : PySem.W.Frag} {mg : Str → Option Value} {base : Heap}
def spIs (C : Addr) : Sp := fun vs H Q _ => ∃ (p : Addr) (n' d' n d : Int), vs = [.ref p, .int n, .int d] ∧ Sh C H p n' d' ∧ (n' = nn n d ∧ d' = nd n d) ∧ d ≠ 0 ∧ Sz 1000 n ∧ Sz 1000 d ∧ Q (.bl true) H
theorem i_is {C : Addr} {H : Hp} {Q : VK} {E : XK} {p : Addr} {n' d' n d : Int} (h : Sh C H p n' d') (e : n' = nn n d ∧ d' = nd n d) (hd : d ≠ 0) (z1 : Sz 1000 n) (z2 : Sz 1000 d) (k : Q (.bl true) H) :
    spIs C [.ref p, .int n, .int d] H Q E := ⟨p, n', d', n, d, rfl, h, e, hd, z1, z2, k⟩
theorem ok_law_is (T : Txt K mg) : FnOk P w K mg base CX0 2 T.f_law_is T.fd_law_is ["found", "num", "den"] (spIs T.C_Share) := by
  refine T.F_law_is.ok sc_law_is (fun vs H Q E h => ?_) (fun cdv A outer s H vs Q E hr h => ?_)
  · obtain ⟨p, n', d', n, d, rfl, _⟩ := h
    rfl
  · obtain ⟨p, n', d', n, d, rfl, h1, ⟨rfl, rfl⟩, hd, z1, z2, k1⟩ := h
    have y1 : Sz 1000 (nn n d) := Sz.of_le (nn_le n hd) z1
    have y2 : Sz 1000 (nd n d) := Sz.of_le (nd_le n hd) z2
    have y3 : Sz 1000 (cg n d) := Sz.of_le (cg_le n hd) z2
    refine ⟨_, (pss_cons (ps_if (pt_not (pt_val (pe_callB call_isi (by rfl) T.b_isinstance (by decide +kernel) (pa_cons (pv 0) (pa_cons (pe_glob (v := .ref T.C_Share) rfl T.g_Share rfl) pa_nil)))))
      (pss_one (ps_ret pe_bl))
      pss_nil)
    (pss_cons (ps_if (PW.pt (pw_or (pt_not (pt_val (pe_callB call_isi (by rfl) T.b_isinstance (by decide +kernel) (pa_cons (pe_fld (pv 0) rfl) (pa_cons (pe_bltn (v := .ty "int") (by rfl) T.b_int (by decide +kernel) rfl) pa_nil))))) (pw_or1 (pt_val (pe_callB call_isi (by rfl) T.b_isinstance (by decide +kernel) (pa_cons (pe_fld (pv 0) rfl) (pa_cons (pe_bltn (v := .ty "bool") (by rfl) T.b_bool (by decide +kernel) rfl) pa_nil)))))))
      (pss_one (ps_ret pe_bl))
      pss_nil)
    (pss_cons (ps_if (PW.pt (pw_or (pt_not (pt_val (pe_callB call_isi (by rfl) T.b_isinstance (by decide +kernel) (pa_cons (pe_fld (pv 0) rfl) (pa_cons (pe_bltn (v := .ty "int") (by rfl) T.b_int (by decide +kernel) rfl) pa_nil))))) (pw_or1 (pt_val (pe_callB call_isi (by rfl) T.b_isinstance (by decide +kernel) (pa_cons (pe_fld (pv 0) rfl) (pa_cons (pe_bltn (v := .ty "bool") (by rfl) T.b_bool (by decide +kernel) rfl) pa_nil)))))))
      (pss_one (ps_ret pe_bl))
      pss_nil)
    (pss_cons (ps_set (i := 3) sc_law_is.nd rfl (by first | exact Or.inl rfl | exact Or.inr rfl) (pe_call (ok_law_common T) (hr.mono (by decide)) rfl T.g_law_common T.F_law_common.kp T.b_law_common .nil pass0 (pa_cons (pv 1) (pa_cons (pv 2) pa_nil))))
    (pss_cons (ps_if (pt_cmpR op_lt (pv 2) pe_int (nomark _))
      (pss_one (ps_set (i := 3) sc_law_is.nd rfl (by first | exact Or.inl rfl | exact Or.inr rfl) (pe_un un_neg (pv 3))))
      pss_nil)
    (pss_one (ps_ret (pe_and (pe_cmpR op_eq (pe_op op_mulX (pe_fld (pv 0) rfl) (pv 3)) (pv 1) (nomark _)) (pe_one (pe_cmpR op_eq (pe_op op_mulX (pe_fld (pv 0) rfl) (pv 3)) (pv 2) (nomark _))))))))))), ?_⟩
    rw [st_law_is]; try dsimp only [L2.Cx.nox, L2.cxOf]
    fail "rd"
    refine ⟨n, d, rfl, ?_⟩
    fail "rd"
    refine i_dec (fun hn => ?_) (fun hn => ?_)
    · have ec : -((Nat.gcd n.natAbs d.natAbs : Nat) : Int) = cg n d := by unfold cg; rw [if_pos hn]
      fail "rd"
      rw [ec]
      fail "rd"
      refine i_decT (nn_mul n d) ?_
      fail "rd"
      rw [decide_eq_true (nd_mul n d)]
      exact k1
    · have ec : ((Nat.gcd n.natAbs d.natAbs : Nat) : Int) = cg n d := by unfold cg; rw [if_neg hn]
      fail "rd"
      rw [ec]
      fail "rd"
      refine i_decT (nn_mul n d) ?_
      fail "rd"
      rw [decide_eq_true (nd_mul n d)]
      exact k1
/-- the two shares of a law -/
structure Two (C : Addr) (H : Hp) (x y : Addr) (a b c d : Int) : Prop where
  hx : Sh C H x (nn a b) (nd a b)
  hy : Sh C H y (nn c d) (nd c d)
  hb : b ≠ 0
  hd : d ≠ 0
  za : Sz 160 a
  zb : Sz 160 b
  zc : Sz 160 c
  zd : Sz 160 d
section
variable {C : Addr} {H H' : Hp} {x y : Addr} {a b c d k : Int} {Q : VK} {E : XK}
theorem Two.same (s : Same H H') (h : Two C H x y a b c d) : Two C H' x y a b c d := ⟨h.hx.same s, h.hy.same s, h.hb, h.hd, h.za, h.zb, h.zc, h.zd⟩
theorem Two.n1 (h : Two C H x y a b c d) : Sz 320 (nn a b) := (Sz.of_le (nn_le a h.hb) h.za).up
theorem Two.d1 (h : Two C H x y a b c d) : Sz 320 (nd a b) := (Sz.of_le (nd_le a h.hb) h.zb).up
theorem Two.n2 (h : Two C H x y a b c d) : Sz 320 (nn c d) := (Sz.of_le (nn_le c h.hd) h.zc).up
theorem Two.d2 (h : Two C H x y a b c d) : Sz 320 (nd c d) := (Sz.of_le (nd_le c h.hd) h.zd).up
theorem big {i j : Int} (hi : Sz 160 i) (hj : Sz 160 j) : Sz 1000 (i * j) := (hi.mul hj).up
theorem bigS {i j k l : Int} (hi : Sz 160 i) (hj : Sz 160 j) (hk : Sz 160 k) (hl : Sz 160 l) : Sz 1000 (i * j + k * l) ∧ Sz 1000 (i * j - k * l) := by
  have h := (hi.mul hj).add (hk.mul hl)
  exact ⟨h.1.up, h.2.up⟩
/-- two shares by a method: what comes is theirs, in other terms -/
theorem i_bin {N D : Int → Int → Int → Int → Int} {p q : Addr} {n1 d1 n2 d2 : Int} (h1 : Sh C H p n1 d1) (h2 : Sh C H q n2 d2) (z1 : Sz 320 n1) (z2 : Sz 320 d1) (z3 : Sz 320 n2) (z4 : Sz 320 d2)
    (k : ∀ r H', Same H H' → Sh C H' r (nn (N n1 d1 n2 d2) (D n1 d1 n2 d2)) (nd (N n1 d1 n2 d2) (D n1 d1 n2 d2)) → Q (.ref r) H') : spBin C N D [.ref p, .ref q] H Q E := ⟨p, q, n1, d1, n2, d2, rfl, h1, h2, z1, z2, z3, z4, k⟩
theorem i_bint {N : Int → Int → Int} {p : Addr} {n1 d1 k : Int} (h1 : Sh C H p n1 d1) (z1 : Sz 320 n1) (z2 : Sz 320 d1) (z3 : Sz 320 k)
    (g : ∀ r H', Same H H' → Sh C H' r (nn (N n1 k) d1) (nd (N n1 k) d1) → Q (.ref r) H') : spInt C N [.ref p, .int k] H Q E := ⟨p, n1, d1, k, rfl, h1, z1, z2, z3, g⟩
theorem i_one {N : Int → Int} {p : Addr} {n1 d1 : Int} (h1 : Sh C H p n1 d1) (z1 : Sz 320 n1) (z2 : Sz 320 d1)
    (g : ∀ r H', Same H H' → Sh C H' r (nn (N n1) d1) (nd (N n1) d1) → Q (.ref r) H') : spOne C N [.ref p] H Q E := ⟨p, n1, d1, rfl, h1, z1, z2, g⟩
end
def spSums (C : Addr) : Sp := fun vs H Q _ => ∃ (x y : Addr) (a b c d : Int), vs = [.ref x, .ref y, .int a, .int b, .int c, .int d] ∧ Two C H x y a b c d ∧ ∀ H', Same H H' → Q (.bl true) H'
theorem ok_law_sums (T : Txt K mg) : FnOk P w K mg base CX0 4 T.f_law_sums T.fd_law_sums ["x", "y", "a", "b", "c", "d"] (spSums T.C_Share) := by
  refine T.F_law_sums.ok sc_law_sums (fun vs H Q E h => ?_) (fun cdv A outer s H vs Q E hr h => ?_)
  · obtain ⟨x, y, a, b, c, d, rfl, _⟩ := h
    rfl
  · obtain ⟨x, y, a, b, c, d, rfl, W, k1⟩ := h
    obtain ⟨za, zb, zc, zd⟩ := (⟨W.za, W.zb, W.zc, W.zd⟩ : Sz 160 a ∧ Sz 160 b ∧ Sz 160 c ∧ Sz 160 d)
    have hbd : b * d ≠ 0 := Int.mul_ne_zero W.hb W.hd
    have hdb : d * b ≠ 0 := Int.mul_ne_zero W.hd W.hb
    refine ⟨_, (pss_cons (ps_if (PW.pt (pw_or (pt_not (pt_val (pe_call (ok_law_is T) (hr.mono (by decide)) rfl T.g_law_is T.F_law_is.kp T.b_law_is .nil pass0 (pa_cons (pe_op (op_own T.sf_Share T.M_ShareD_addD (ok_ShareD_addD T) (hr.mono (by decide)) T.b_ShareD_addD pass0) (pv 0) (pv 1)) (pa_cons (pe_op op_add (pe_op op_mulX (pv 2) (pv 5)) (pe_op op_mulX (pv 4) (pv 3))) (pa_cons (pe_op op_mulX (pv 3) (pv 5)) pa_nil)))))) (pw_or1 (pt_not (pt_val (pe_call (ok_law_is T) (hr.mono (by decide)) rfl T.g_law_is T.F_law_is.kp T.b_law_is .nil pass0 (pa_cons (pe_op (op_own T.sf_Share T.M_ShareD_addD (ok_ShareD_addD T) (hr.mono (by decide)) T.b_ShareD_addD pass0) (pv 1) (pv 0)) (pa_cons (pe_op op_add (pe_op op_mulX (pv 4) (pv 3)) (pe_op op_mulX (pv 2) (pv 5))) (pa_cons (pe_op op_mulX (pv 5) (pv 3)) pa_nil)))))))))
      (pss_one (ps_ret pe_bl))
      pss_nil)
    (pss_cons (ps_if (PW.pt (pw_or (pt_not (pt_val (pe_call (ok_law_is T) (hr.mono (by decide)) rfl T.g_law_is T.F_law_is.kp T.b_law_is .nil pass0 (pa_cons (pe_op (op_own T.sf_Share T.M_ShareD_subD (ok_ShareD_subD T) (hr.mono (by decide)) T.b_ShareD_subD pass0) (pv 0) (pv 1)) (pa_cons (pe_op op_sub (pe_op op_mulX (pv 2) (pv 5)) (pe_op op_mulX (pv 4) (pv 3))) (pa_cons (pe_op op_mulX (pv 3) (pv 5)) pa_nil)))))) (pw_or1 (pt_not (pt_val (pe_call (ok_law_is T) (hr.mono (by decide)) rfl T.g_law_is T.F_law_is.kp T.b_law_is .nil pass0 (pa_cons (pe_op (op_own T.sf_Share T.M_ShareD_subD (ok_ShareD_subD T) (hr.mono (by decide)) T.b_ShareD_subD pass0) (pv 1) (pv 0)) (pa_cons (pe_op op_sub (pe_op op_mulX (pv 4) (pv 3)) (pe_op op_mulX (pv 2) (pv 5))) (pa_cons (pe_op op_mulX (pv 5) (pv 3)) pa_nil)))))))))
      (pss_one (ps_ret pe_bl))
      pss_nil)
    (pss_one (ps_ret (pe_call (ok_law_is T) (hr.mono (by decide)) rfl T.g_law_is T.F_law_is.kp T.b_law_is .nil pass0 (pa_cons (pe_op (op_own T.sf_Share T.M_ShareD_subD (ok_ShareD_subD T) (hr.mono (by decide)) T.b_ShareD_subD pass0) (pv 0) (pv 0)) (pa_cons pe_int (pa_cons pe_int pa_nil)))))))), ?_⟩
    have hx := W.hx
    have hy := W.hy
    rw [st_law_sums]; try dsimp only [L2.Cx.nox, L2.cxOf]
    fail "rd"
    refine i_bin W.hx W.hy W.n1 W.d1 W.n2 W.d2 fun r H1 s1 hs => ?_
    fail "rd"
    refine i_is hs (add_same W.hb W.hd) hbd (bigS za zd zc zb).1 (big zb zd) ?_
    fail "rd"
    have W1 := W.same s1
    refine i_bin W1.hy W1.hx W.n2 W.d2 W.n1 W.d1 fun r2 H2 s2 hs2 => ?_
    fail "rd"
    refine i_is hs2 (add_same W.hd W.hb) hdb (bigS zc zb za zd).1 (big zd zb) ?_
    fail "rd"
    have W2 := W1.same s2
    refine i_bin W2.hx W2.hy W.n1 W.d1 W.n2 W.d2 fun r3 H3 s3 hs3 => ?_
    fail "rd"
    refine i_is hs3 (sub_same W.hb W.hd) hbd (bigS za zd zc zb).2 (big zb zd) ?_
    fail "rd"
    have W3 := W2.same s3
    refine i_bin W3.hy W3.hx W.n2 W.d2 W.n1 W.d1 fun r4 H4 s4 hs4 => ?_
    fail "rd"
    refine i_is hs4 (sub_same W.hd W.hb) hdb (bigS zc zb za zd).2 (big zd zb) ?_
    fail "rd"
    have W4 := W3.same s4
    refine i_bin W4.hx W4.hx W.n1 W.d1 W.n1 W.d1 fun r5 H5 s5 hs5 => ?_
    fail "rd"
    refine i_is hs5 (self_sub W.hb) (by decide) (by unfold Sz; decide) (by unfold Sz; decide) ?_
    fail "rd"
    exact k1 _ ((((s1.trans s2).trans s3).trans s4).trans s5)
def spProds (C : Addr) : Sp := fun vs H Q _ => ∃ (x y : Addr) (k a b c d : Int), vs = [.ref x, .ref y, .int k, .int a, .int b, .int c, .int d] ∧ Two C H x y a b c d ∧ Sz 160 k ∧ ∀ H', Same H H' → Q (.bl true) H'
theorem ok_law_products (T : Txt K mg) : FnOk P w K mg base CX0 5 T.f_law_products T.fd_law_products ["x", "y", "k", "a", "b", "c", "d"] (spProds T.C_Share) := by
  refine T.F_law_products.ok sc_law_products (fun vs H Q E h => ?_) (fun cdv A outer s H vs Q E hr h => ?_)
  · obtain ⟨x, y, k, a, b, c, d, rfl, _⟩ := h
    rfl
  · obtain ⟨x, y, k, a, b, c, d, rfl, W, zk, k1⟩ := h
    obtain ⟨za, zb, zc, zd⟩ := (⟨W.za, W.zb, W.zc, W.zd⟩ : Sz 160 a ∧ Sz 160 b ∧ Sz 160 c ∧ Sz 160 d)
    have hbd : b * d ≠ 0 := Int.mul_ne_zero W.hb W.hd
    have hdb : d * b ≠ 0 := Int.mul_ne_zero W.hd W.hb
    have zk3 : Sz 320 k := zk.up
    have up : ∀ {i : Int}, Sz 160 i → Sz 1000 i := fun h => h.up
    have upn : ∀ {i : Int}, Sz 160 i → Sz 1000 (-i) := fun h => h.neg.up
    have upa : ∀ {i : Int}, Sz 160 i → Sz 1000 (if i < 0 then -i else i) := fun h => h.iabs.up
    have hx := W.hx
    have hy := W.hy
    refine ⟨_, (pss_cons (ps_if (PW.pt (pw_or (pt_not (pt_val (pe_call (ok_law_is T) (hr.mono (by decide)) rfl T.g_law_is T.F_law_is.kp T.b_law_is .nil pass0 (pa_cons (pe_op (op_own T.sf_Share T.M_ShareD_mulD (ok_ShareD_mulD T) (hr.mono (by decide)) T.b_ShareD_mulD pass0) (pv 0) (pv 1)) (pa_cons (pe_op op_mulX (pv 3) (pv 5)) (pa_cons (pe_op op_mulX (pv 4) (pv 6)) pa_nil)))))) (pw_or1 (pt_not (pt_val (pe_call (ok_law_is T) (hr.mono (by decide)) rfl T.g_law_is T.F_law_is.kp T.b_law_is .nil pass0 (pa_cons (pe_op (op_own T.sf_Share T.M_ShareD_mulD (ok_ShareD_mulD T) (hr.mono (by decide)) T.b_ShareD_mulD pass0) (pv 1) (pv 0)) (pa_cons (pe_op op_mulX (pv 5) (pv 3)) (pa_cons (pe_op op_mulX (pv 6) (pv 4)) pa_nil)))))))))
      (pss_one (ps_ret pe_bl))
      pss_nil)
    (pss_cons (ps_if (PW.pt (pw_or (pt_not (pt_val (pe_call (ok_law_is T) (hr.mono (by decide)) rfl T.g_law_is T.F_law_is.kp T.b_law_is .nil pass0 (pa_cons (pe_op (op_ownI T.rm_Share T.sf_Share T.M_ShareD_mulD (ok_ShareD_mulD T) (hr.mono (by decide)) T.b_ShareD_mulD pass0) (pv 0) (pv 2)) (pa_cons (pe_op op_mulX (pv 3) (pv 2)) (pa_cons (pv 4) pa_nil)))))) (pw_or (pt_not (pt_val (pe_call (ok_law_is T) (hr.mono (by decide)) rfl T.g_law_is T.F_law_is.kp T.b_law_is .nil pass0 (pa_cons (pe_op (op_Iown T.rm_Share T.sf_Share T.M_ShareD_mulD T.M_ShareD_rmulD (ok_ShareD_rmulD T) (hr.mono (by decide)) T.b_ShareD_rmulD pass0) (pv 2) (pv 0)) (pa_cons (pe_op op_mulX (pv 2) (pv 3)) (pa_cons (pv 4) pa_nil)))))) (pw_or1 (pt_not (pt_val (pe_call (ok_law_is T) (hr.mono (by decide)) rfl T.g_law_is T.F_law_is.kp T.b_law_is .nil pass0 (pa_cons (pe_op (op_Iown T.rm_Share T.sf_Share T.M_ShareD_mulD T.M_ShareD_rmulD (ok_ShareD_rmulD T) (hr.mono (by decide)) T.b_ShareD_rmulD pass0) (pv 2) (pv 1)) (pa_cons (pe_op op_mulX (pv 2) (pv 5)) (pa_cons (pv 6) pa_nil))))))))))
      (pss_one (ps_ret pe_bl))
      pss_nil)
    (pss_cons (ps_if (PW.pt (pw_or (pt_not (pt_val (pe_call (ok_law_is T) (hr.mono (by decide)) rfl T.g_law_is T.F_law_is.kp T.b_law_is .nil pass0 (pa_cons (pe_un (un_ownNeg T.M_ShareD_negD (ok_ShareD_negD T) (hr.mono (by decide)) T.b_ShareD_negD pass0) (pv 0)) (pa_cons (pe_un un_neg (pv 3)) (pa_cons (pv 4) pa_nil)))))) (pw_or1 (pt_not (pt_val (pe_call (ok_law_is T) (hr.mono (by decide)) rfl T.g_law_is T.F_law_is.kp T.b_law_is .nil pass0 (pa_cons (pe_un (un_ownNeg T.M_ShareD_negD (ok_ShareD_negD T) (hr.mono (by decide)) T.b_ShareD_negD pass0) (pv 1)) (pa_cons (pe_un un_neg (pv 5)) (pa_cons (pv 6) pa_nil)))))))))
      (pss_one (ps_ret pe_bl))
      pss_nil)
    (pss_one (ps_ret (pe_and (pe_call (ok_law_is T) (hr.mono (by decide)) rfl T.g_law_is T.F_law_is.kp T.b_law_is .nil pass0 (pa_cons (pe_callB (cb_ownAbs T.M_ShareD_absD (ok_ShareD_absD T) (hr.mono (by decide)) T.b_ShareD_absD pass0) (by rfl) T.b_abs (by decide +kernel) (pa_cons (pv 0) pa_nil)) (pa_cons (pe_callB call_absN (by rfl) T.b_abs (by decide +kernel) (pa_cons (pv 3) pa_nil)) (pa_cons (pe_callB call_absN (by rfl) T.b_abs (by decide +kernel) (pa_cons (pv 4) pa_nil)) pa_nil)))) (pe_one (pe_call (ok_law_is T) (hr.mono (by decide)) rfl T.g_law_is T.F_law_is.kp T.b_law_is .nil pass0 (pa_cons (pe_callB (cb_ownAbs T.M_ShareD_absD (ok_ShareD_absD T) (hr.mono (by decide)) T.b_ShareD_absD pass0) (by rfl) T.b_abs (by decide +kernel) (pa_cons (pv 1) pa_nil)) (pa_cons (pe_callB call_absN (by rfl) T.b_abs (by decide +kernel) (pa_cons (pv 5) pa_nil)) (pa_cons (pe_callB call_absN (by rfl) T.b_abs (by decide +kernel) (pa_cons (pv 6) pa_nil)) pa_nil))))))))))), ?_⟩
    rw [st_law_products]; try dsimp only [L2.Cx.nox, L2.cxOf]
    fail "rd"
    refine .inl (i_bin W.hx W.hy W.n1 W.d1 W.n2 W.d2 fun r H1 s1 hs => ?_)
    fail "rd"
    refine i_is hs (mul_same W.hb W.hd) hbd (big za zc) (big zb zd) ?_
    fail "rd"
    have W1 := W.same s1
    refine .inl (i_bin W1.hy W1.hx W.n2 W.d2 W.n1 W.d1 fun r2 H2 s2 hs2 => ?_)
    fail "rd"
    refine i_is hs2 (mul_same W.hd W.hb) hdb (big zc za) (big zd zb) ?_
    fail "rd"
    have W2 := W1.same s2
    refine .inr (i_bint W2.hx W.n1 W.d1 zk3 fun r3 H3 s3 hs3 => ?_)
    fail "rd"
    refine i_is hs3 (mulk_same W.hb) W.hb (big za zk) (up zb) ?_
    fail "rd"
    have W3 := W2.same s3
    refine i_bint W3.hx W.n1 W.d1 zk3 fun r4 H4 s4 hs4 => ?_
    fail "rd"
    refine i_is hs4 (by rw [Int.mul_comm k (nn a b), Int.mul_comm k a]; exact mulk_same W.hb) W.hb (big zk za) (up zb) ?_
    fail "rd"
    have W4 := W3.same s4
    refine i_bint W4.hy W.n2 W.d2 zk3 fun r5 H5 s5 hs5 => ?_
    fail "rd"
    refine i_is hs5 (by rw [Int.mul_comm k (nn c d), Int.mul_comm k c]; exact mulk_same W.hd) W.hd (big zk zc) (up zd) ?_
    fail "rd"
    have W5 := W4.same s5
    refine i_one W5.hx W.n1 W.d1 fun r6 H6 s6 hs6 => ?_
    fail "rd"
    refine i_is hs6 (neg_same W.hb) W.hb (upn za) (up zb) ?_
    fail "rd"
    have W6 := W5.same s6
    refine i_one W6.hy W.n2 W.d2 fun r7 H7 s7 hs7 => ?_
    fail "rd"
    refine i_is hs7 (neg_same W.hd) W.hd (upn zc) (up zd) ?_
    fail "rd"
    have W7 := W6.same s7
    refine i_one W7.hx W.n1 W.d1 fun r8 H8 s8 hs8 => ?_
    fail "rd"
    refine i_is hs8 (abs_same W.hb) (by have := W.hb; split <;> omega) (upa za) (upa zb) ?_
    fail "rd"
    have W8 := W7.same s8
    refine i_one W8.hy W.n2 W.d2 fun r9 H9 s9 hs9 => ?_
    fail "rd"
    refine i_is hs9 (abs_same W.hd) (by have := W.hd; split <;> omega) (upa zc) (upa zd) ?_
    fail "rd"
    exact k1 _ ((((((((s1.trans s2).trans s3).trans s4).trans s5).trans s6).trans s7).trans s8).trans s9)
end
end K00
namespace K00
open PySem L2 Pf
local macro_rules | `(tactic| fail "sm") => `(tactic| with_reducible first
  | assumption
  | (apply Pf.Sm.new; focus assumption)
  | fail "no")
local macro_rules | `(tactic| fail "hp") => `(tactic| with_reducible first
  | assumption
  | ((show L2.upd _ _ _ _ = _); with_unfolding_all exact upd_same)
  | (apply Pf.same_at; (focus fail "sm"); fail "hp")
  | (apply Pf.upd_at; (focus (first | assumption | exact Ne.symm (by assumption))); fail "hp")
  | fail "no")
local macro_rules | `(tactic| fail "sq") => `(tactic| with_reducible first
  | assumption
  | (apply SqL.of; fail "hp")
  | (apply Same.seq; (focus fail "sm"); fail "sq")
  | fail "no")
local macro_rules | `(tactic| fail "sqT") => `(tactic| with_reducible first
  | assumption
  | (apply SqT.of; fail "hp")
  | (apply Pf.same_seqT; (focus fail "sm"); fail "sqT")
  | fail "no")
local macro_rules | `(tactic| fail "sz") => `(tactic| with_reducible first
  | assumption
  | (apply Pf.Sz.mul; (focus fail "sz"); focus fail "sz")
  | fail "no")
local macro_rules | `(tactic| fail "mulok") => `(tactic| first
  | exact Pf.mulZ (by fail "sz") (by fail "sz") (by decide) (by decide) (by decide)
  | exact Pf.mulR (by decide) (by decide)
  | exact Pf.mulL (by decide) (by decide)
  | exact Pf.mulR (by omega) (by omega)
  | exact Pf.mulL (by omega) (by omega)
  | fail "no")
local macro_rules | `(tactic| fail "side") => `(tactic| first
  | ((with_reducible show PySem.IntMulOk _ _); fail "mulok")
  | ((with_reducible show Pf.CDivA _ _); first | (with_reducible assumption) | exact ⟨by decide, by decide⟩)
  | ((with_reducible show CPow _ _); exact ⟨by decide, by decide, by decide⟩)
  | (show (0 : Int) < _; first | decide | omega)
  | (refine ⟨?_, ?_⟩ <;> first | decide | omega)
  | fail "no")
local macro_rules | `(tactic| fail "rd1") => `(tactic| first
  | with_reducible refine Pf.i_seq ?_
  | with_reducible refine Pf.i_asg ?_
  | with_reducible refine Pf.i_op ?_
  | (with_reducible show gName _ _ _ _ _; fail "rdn")
  | with_reducible refine Pf.i_var (by with_unfolding_all exact rfl) ?_
  | with_reducible refine Pf.i_c ?_
  | with_reducible refine Pf.i_I0 ?_
  | with_reducible refine Pf.i_cb ?_
  | with_reducible refine Pf.i_cons ?_
  | with_reducible refine Pf.i_nil ?_
  | with_reducible refine Pf.i_fld ?_
  | with_reducible refine Pf.i_if ?_
  | with_reducible refine Pf.i_test ?_
  | with_reducible refine Pf.i_eqI ?_
  | with_reducible refine Pf.i_neI ?_
  | with_reducible refine Pf.i_eqS ?_
  | with_reducible refine Pf.i_neS ?_
  | with_reducible refine Pf.i_eqB ?_
  | with_reducible refine Pf.i_neB ?_
  | with_reducible refine Pf.i_ret ?_
  | with_reducible refine Pf.i_drop ?_
  | with_reducible refine Pf.i_un ?_
  | with_reducible refine Pf.i_U ?_
  | with_reducible refine Pf.i_int ?_
  | with_reducible refine Pf.i_intB ?_
  | with_reducible refine Pf.i_bool ?_
  | with_reducible refine Pf.i_boolB ?_
  | with_reducible refine Pf.i_abs ?_
  | with_reducible refine Pf.i_B ?_
  | with_reducible refine Pf.i_and ?_
  | with_reducible refine Pf.i_or ?_
  | with_reducible refine Pf.i_not ?_
  | with_reducible refine Pf.i_andV ?_
  | with_reducible refine Pf.i_orV ?_
  | with_reducible refine Pf.i_notV ?_
  | with_reducible refine Pf.i_ifE ?_
  | with_reducible refine Pf.i_call ?_
  | with_reducible refine Pf.i_lst ?_
  | with_reducible refine Pf.i_tup ?_
  | with_reducible refine Pf.i_bm ?_
  | with_reducible refine Pf.i_bm0 ?_
  | with_reducible refine Pf.i_next ?_
  | with_reducible refine Pf.i_brk ?_
  | with_reducible refine Pf.i_cont ?_
  | with_reducible refine Pf.i_T ?_
  | with_reducible refine Pf.i_F ?_
  | with_reducible refine Pf.i_nT ?_
  | with_reducible refine Pf.i_nF ?_
  | with_reducible refine Pf.i_for1 ?_
  | with_reducible refine Pf.i_for2 ?_
  | with_reducible refine Pf.i_forL ?_
  | with_reducible refine Pf.i_forT ?_
  | with_reducible refine Pf.i_par ?_
  | with_reducible refine Pf.i_put ?_
  | with_reducible refine Pf.i_make ?_
  | with_reducible refine Pf.i_meth ?_
  | with_reducible refine Pf.i_gcd ?_
  | with_reducible refine Pf.i_isiII ?_
  | with_reducible refine Pf.i_isiIB ?_
  | with_reducible refine Pf.i_isiBB ?_
  | with_reducible refine Pf.i_I (by with_unfolding_all fail "side") ?_
  | with_reducible refine Pf.i_lenI (by fail "sq") ?_
  | with_reducible refine Pf.i_lenL (by fail "sq") ?_
  | with_reducible refine Pf.i_tyL (by fail "sq") ?_
  | with_reducible refine Pf.i_ixI (by fail "sq") (by with_unfolding_all omega) (by with_unfolding_all omega) ?_
  | fail "no")
local macro_rules | `(tactic| fail "rdn") => `(tactic| with_reducible first
  | refine Pf.i_nm0 ?_
  | refine Pf.i_nm1 ?_
  | refine Pf.i_nm2 ?_
  | refine Pf.i_nm3 ?_
  | refine Pf.i_nm4 ?_
  | refine Pf.i_nm5 ?_
  | refine Pf.i_nm6 ?_
  | refine Pf.i_nm7 ?_
  | refine Pf.i_nm8 ?_
  | refine Pf.i_nm9 ?_
  | refine Pf.i_nm10 ?_
  | refine Pf.i_nm11 ?_
  | refine Pf.i_nm12 ?_
  | refine Pf.i_nm13 ?_
  | refine Pf.i_nm14 ?_
  | refine Pf.i_nm15 ?_
  | fail "no")
local macro_rules | `(tactic| fail "rd2") => `(tactic| first
  | fail "rd1"
  | (with_reducible show ∃ k, V.bl _ = V.bl k ∧ _; refine ⟨_, rfl, ?_⟩)
  | (with_reducible refine Pf.i_decT ?_ ?_; focus omega)
  | (with_reducible refine Pf.i_decF ?_ ?_; focus omega)
  | (with_reducible refine Pf.i_ndecT ?_ ?_; focus omega)
  | (with_reducible refine Pf.i_ndecF ?_ ?_; focus omega)
  | (with_reducible show Ends.nx _ _ _; dsimp only)
  | (with_reducible show Ends.rt _ _ _; dsimp only)
  | fail "no")
local macro_rules | `(tactic| fail "rd") => `(tactic| repeat fail "rd2")

local macro_rules | `(tactic| fail "sh") => `(tactic| with_reducible first
  | assumption
  | (apply Sh.same; (focus fail "sm"); fail "sh")
  | fail "no")
local macro_rules | `(tactic| fail "rd1") => `(tactic| first
  | with_reducible refine i_num (by fail "sh") (by with_unfolding_all exact rfl) ?_
  | with_reducible refine i_den (by fail "sh") (by with_unfolding_all exact rfl) ?_
  | with_reducible refine i_isiSh (by fail "sh") (by with_unfolding_all exact rfl) ?_
  | with_reducible refine i_isiShI (by with_unfolding_all exact rfl) ?_
  | with_reducible refine i_shOwn (by fail "sh") (by fail "sh") ?_
  | with_reducible refine i_shOwnI (by fail "sh") ?_
  | with_reducible refine i_shIOwn (by fail "sh") ?_
  | with_reducible refine i_shOwn1 (by fail "sh") ?_
  | with_reducible refine i_shOwnC (by fail "sh") ?_
  | with_reducible refine i_shOwnCB (by fail "sh") ?_
  | with_reducible refine i_shMeth (by fail "sh") (by with_unfolding_all decide +kernel) (by with_unfolding_all decide +kernel) ?_
  | fail "no")

section
variable {P : Program} {w : World} {K : PySem.W.Frag} {mg : Str → Option Value} {base : Heap}
theorem i_cmp {C : Addr} {H : Hp} {Q : VK} {E : XK} {B : Int → Int → Int → Int → Bool} {p q : Addr} {n1 d1 n2 d2 : Int} (h1 : Sh C H p n1 d1) (h2 : Sh C H q n2 d2) (z1 : Sz 320 n1) (z2 : Sz 320 d1) (z3 : Sz 320 n2) (z4 : Sz 320 d2)
    (k : Q (.bl (B n1 d1 n2 d2)) H) : spCmp C B [.ref p, .ref q] H Q E := ⟨p, q, n1, d1, n2, d2, rfl, h1, h2, z1, z2, z3, z4, k⟩
theorem i_sbool {C : Addr} {H : Hp} {Q : VK} {E : XK} {p : Addr} {n d : Int} (h : Sh C H p n d) (k : Q (.bl (n != 0)) H) : spBool C [.ref p] H Q E := ⟨p, n, d, rfl, h, k⟩
theorem nn01 : nn 0 1 = 0 := by decide
/-- what is told, and what is due -/
def told (a b c d m : Int) : List Bool := [decide (nn a b = nn c d ∧ nd a b = nd c d), decide (nn c d = nn a b ∧ nd c d = nd a b), decide (nn a b * nd c d < nn c d * nd a b), decide (nn c d * nd a b < nn a b * nd c d), decide (nn a b * nd a b < nn a b * nd a b), nn a b != 0, nn c d != 0, m != 0]
def due (a b c d : Int) : List Bool := [decide (a * b * d * d = c * d * b * b), decide (a * b * d * d = c * d * b * b), decide (a * b * d * d < c * d * b * b), decide (c * d * b * b < a * b * d * d), false, !decide (a = 0), !decide (c = 0), false]
theorem told_due {a b c d m : Int} (hb : b ≠ 0) (hd : d ≠ 0) (hm : m = 0) : told a b c d m = due a b c d := by
  unfold told due
  have e1 : decide (nn a b = nn c d ∧ nd a b = nd c d) = decide (a * b * d * d = c * d * b * b) := decide_eq_decide.mpr (eq_same hb hd)
  have e2 : decide (nn c d = nn a b ∧ nd c d = nd a b) = decide (a * b * d * d = c * d * b * b) := by
    rw [← e1]
    exact decide_eq_decide.mpr ⟨fun h => ⟨h.1.symm, h.2.symm⟩, fun h => ⟨h.1.symm, h.2.symm⟩⟩
  have e3 : decide (nn a b * nd c d < nn c d * nd a b) = decide (a * b * d * d < c * d * b * b) := decide_eq_decide.mpr (lt_same hb hd)
  have e4 : decide (nn c d * nd a b < nn a b * nd c d) = decide (c * d * b * b < a * b * d * d) := decide_eq_decide.mpr (lt_same hd hb)
  have e5 : decide (nn a b * nd a b < nn a b * nd a b) = false := decide_eq_false (Int.lt_irrefl _)
  have z : ∀ x y : Int, y ≠ 0 → (nn x y != 0) = !decide (x = 0) := fun x y h => by
    rw [show (nn x y != 0) = !decide (nn x y = 0) by rw [Bool.eq_iff_iff]; simp, decide_eq_decide.mpr (zero_same h)]
  rw [e1, e2, e3, e4, e5, z a b hb, z c d hd, hm]
  rfl
theorem eqv_bools (bs : List Bool) (h : SeqAt.shaped (.list (bools bs)) = true) : PyData.eqv (.list (bools bs)) (.list (bools bs)) = true := SeqAt.eqv_refl _ (SeqAt.canLay_of_shaped h)
def spComp (C : Addr) : Sp := fun vs H Q _ => ∃ (x y : Addr) (a b c d : Int), vs = [.ref x, .ref y, .int a, .int b, .int c, .int d] ∧ Two C H x y a b c d ∧ ∀ H', Same H H' → Q (.bl true) H'
theorem ok_law_compared (T : Txt K mg) : FnOk P w K mg base CX0 4 T.f_law_compared T.fd_law_compared ["x", "y", "a", "b", "c", "d"] (spComp T.C_Share) := by
  refine T.F_law_compared.ok sc_law_compared (fun vs H Q E h => ?_) (fun cdv A outer s H vs Q E hr h => ?_)
  · obtain ⟨x, y, a, b, c, d, rfl, _⟩ := h
    rfl
  · obtain ⟨x, y, a, b, c, d, rfl, W, k1⟩ := h
    obtain ⟨za, zb, zc, zd⟩ := (⟨W.za, W.zb, W.zc, W.zd⟩ : Sz 160 a ∧ Sz 160 b ∧ Sz 160 c ∧ Sz 160 d)
    refine ⟨_, (pss_cons (ps_set (i := 6) sc_law_compared.nd rfl (by first | exact Or.inl rfl | exact Or.inr rfl) (pe_lst (pa_cons (pe_cmpR (op_ownEq T.nf_Share T.M_ShareD_eqD (ok_ShareD_eqD T) (hr.mono (by decide)) T.b_ShareD_eqD pass0) (pv 0) (pv 1) (nomark _)) (pa_cons (pe_cmpR (op_ownEq T.nf_Share T.M_ShareD_eqD (ok_ShareD_eqD T) (hr.mono (by decide)) T.b_ShareD_eqD pass0) (pv 1) (pv 0) (nomark _)) (pa_cons (pe_meth (pv 0) T.cl_Share T.M_Share_below (ok_Share_below T) (hr.mono (by decide)) T.b_Share_below .nil pass0 (pa_cons (pv 1) pa_nil)) (pa_cons (pe_meth (pv 1) T.cl_Share T.M_Share_below (ok_Share_below T) (hr.mono (by decide)) T.b_Share_below .nil pass0 (pa_cons (pv 0) pa_nil)) (pa_cons (pe_meth (pv 0) T.cl_Share T.M_Share_below (ok_Share_below T) (hr.mono (by decide)) T.b_Share_below .nil pass0 (pa_cons (pv 0) pa_nil)) (pa_cons (pe_callTy (cb_ownBool T.M_ShareD_boolD (ok_ShareD_boolD T) (hr.mono (by decide)) T.b_ShareD_boolD pass0) (by rfl) T.b_bool (by decide +kernel) (pa_cons (pv 0) pa_nil)) (pa_cons (pe_callTy (cb_ownBool T.M_ShareD_boolD (ok_ShareD_boolD T) (hr.mono (by decide)) T.b_ShareD_boolD pass0) (by rfl) T.b_bool (by decide +kernel) (pa_cons (pv 1) pa_nil)) (pa_cons (pe_callTy (cb_ownBool T.M_ShareD_boolD (ok_ShareD_boolD T) (hr.mono (by decide)) T.b_ShareD_boolD pass0) (by rfl) T.b_bool (by decide +kernel) (pa_cons (pe_op (op_own T.sf_Share T.M_ShareD_subD (ok_ShareD_subD T) (hr.mono (by decide)) T.b_ShareD_subD pass0) (pv 0) (pv 0)) pa_nil)) pa_nil))))))))))
    (pss_cons (ps_for PassesOwn.never rfl (pi_list (pv 6)) (pg_name (i := 7) sc_law_compared.nd rfl (by first | exact Or.inl rfl | exact Or.inr rfl))
      (pss_one (ps_if (pt_not (pt_val (pe_callB call_isi (by rfl) T.b_isinstance (by decide +kernel) (pa_cons (pv 7) (pa_cons (pe_bltn (v := .ty "bool") (by rfl) T.b_bool (by decide +kernel) rfl) pa_nil)))))
      (pss_one (ps_ret pe_bl))
      pss_nil)))
    (pss_cons (ps_set (i := 8) sc_law_compared.nd rfl (by first | exact Or.inl rfl | exact Or.inr rfl) (pe_op op_mulX (pe_op op_mulX (pe_op op_mulX (pv 2) (pv 3)) (pv 5)) (pv 5)))
    (pss_cons (ps_set (i := 9) sc_law_compared.nd rfl (by first | exact Or.inl rfl | exact Or.inr rfl) (pe_op op_mulX (pe_op op_mulX (pe_op op_mulX (pv 4) (pv 5)) (pv 3)) (pv 3)))
    (pss_one (ps_ret (pe_cmpR (op_eqD hr.units) (pv 6) (pe_lst (pa_cons (pe_cmpR op_eq (pv 8) (pv 9) (nomark _)) (pa_cons (pe_cmpR op_eq (pv 8) (pv 9) (nomark _)) (pa_cons (pe_cmpR op_lt (pv 8) (pv 9) (nomark _)) (pa_cons (pe_cmpR op_lt (pv 9) (pv 8) (nomark _)) (pa_cons pe_bl (pa_cons (pe_cmpR op_ne (pv 2) pe_int (nomark _)) (pa_cons (pe_cmpR op_ne (pv 4) pe_int (nomark _)) (pa_cons pe_bl pa_nil))))))))) (nomark _)))))))), ?_⟩
    have hx := W.hx
    have hy := W.hy
    rw [st_law_compared]; try dsimp only [L2.Cx.nox, L2.cxOf]
    fail "rd"
    refine i_cmp W.hx W.hy W.n1 W.d1 W.n2 W.d2 ?_
    fail "rd"
    refine i_cmp W.hy W.hx W.n2 W.d2 W.n1 W.d1 ?_
    fail "rd"
    refine i_cmp W.hx W.hy W.n1 W.d1 W.n2 W.d2 ?_
    fail "rd"
    refine i_cmp W.hy W.hx W.n2 W.d2 W.n1 W.d1 ?_
    fail "rd"
    refine i_cmp W.hx W.hx W.n1 W.d1 W.n1 W.d1 ?_
    fail "rd"
    refine i_sbool W.hx ⟨_, rfl, ?_⟩
    fail "rd"
    refine i_sbool W.hy ⟨_, rfl, ?_⟩
    fail "rd"
    refine i_bin W.hx W.hx W.n1 W.d1 W.n1 W.d1 fun r H1 s1 hs => ?_
    fail "rd"
    refine i_sbool hs ⟨_, rfl, ?_⟩
    fail "rd"
    refine ⟨sz_le (by show 8 ≤ 100000; decide), fun q nq => ?_⟩
    generalize hm : nn (nn a b * nd a b - nn a b * nd a b) (nd a b * nd a b) = m
    have hm0 : m = 0 := by rw [← hm, (self_sub (a := a) W.hb).1, nn01]
    have e0 : upd H1 q (.lst ((told a b c d m).map V.bl)) = upd H1 q (.lst ((told a b c d m).map V.bl)) := rfl
    have s2 : Same H1 (upd H1 q (.lst ((told a b c d m).map V.bl))) := Sm.new nq
    have hq : (upd H1 q (.lst ((told a b c d m).map V.bl))) q = some (.lst ((told a b c d m).map V.bl)) := upd_same
    show (gName 6 (V.ref q) _ (upd H1 q (.lst ((told a b c d m).map V.bl))) _ : Prop)
    generalize upd H1 q (.lst ((told a b c d m).map V.bl)) = H2 at s2 hq
    clear e0
    fail "rd"
    refine i_FLs ((told a b c d m).map V.bl) (fun i σ' H' => ∃ v7 : Option V, σ' = [some (.ref x), some (.ref y), some (.int a), some (.int b), some (.int c), some (.int d), some (.ref q), v7, none, none] ∧ H' = H2) (by fail "sq") ⟨_, rfl, rfl⟩ ?_ ?_ ?_
    · rintro i σ' H' _ ⟨v7, rfl, rfl⟩
      fail "sq"
    · rintro i v σ' H' hi ⟨v7, rfl, rfl⟩
      obtain ⟨bb, rfl⟩ : ∃ bb, v = V.bl bb := by
        rw [List.getElem?_map] at hi
        cases e : (told a b c d m)[i]? with
        | none => rw [e] at hi; cases hi
        | some z => rw [e] at hi; exact ⟨z, (Option.some.inj hi).symm⟩
      fail "rd"
      exact ⟨_, rfl, rfl⟩
    · rintro σ' H' ⟨v7, rfl, rfl⟩
      fail "rd"
      refine ⟨sz_le (by show 8 ≤ 100000; decide), fun r2 nr => ?_⟩
      have s3 : Same H' (upd H' r2 (.lst ((due a b c d).map V.bl))) := Sm.new nr
      have hq3 := s3 _ _ hq
      have hr3 : (upd H' r2 (.lst ((due a b c d).map V.bl))) r2 = some (.lst ((due a b c d).map V.bl)) := upd_same
      show rEqD K (.ref q) (.ref r2) (upd H' r2 (.lst ((due a b c d).map V.bl))) _
      generalize upd H' r2 (.lst ((due a b c d).map V.bl)) = H3 at s3 hq3 hr3
      rw [told_due W.hb W.hd hm0] at hq3
      have hsh : SeqAt.shaped (.list (bools (due a b c d))) = true := rfl
      refine ⟨.list (bools (due a b c d)), .list (bools (due a b c d)), .lst (.of hq3) (dp_bools _), .lst (.of hr3) (dp_bools _), hsh, hsh, ?_⟩
      rw [eqv_bools _ hsh]
      exact k1 _ ((s1.trans s2).trans s3)
end
end K00
namespace K00
open PySem L2 Pf
local macro_rules | `(tactic| fail "sm") => `(tactic| with_reducible first
  | assumption
  | (apply Pf.Sm.new; focus assumption)
  | fail "no")
local macro_rules | `(tactic| fail "hp") => `(tactic| with_reducible first
  | assumption
  | ((show L2.upd _ _ _ _ = _); with_unfolding_all exact upd_same)
  | (apply Pf.same_at; (focus fail "sm"); fail "hp")
  | (apply Pf.upd_at; (focus (first | assumption | exact Ne.symm (by assumption))); fail "hp")
  | fail "no")
local macro_rules | `(tactic| fail "sq") => `(tactic| with_reducible first
  | assumption
  | (apply SqL.of; fail "hp")
  | (apply Same.seq; (focus fail "sm"); fail "sq")
  | fail "no")
local macro_rules | `(tactic| fail "sqT") => `(tactic| with_reducible first
  | assumption
  | (apply SqT.of; fail "hp")
  | (apply Pf.same_seqT; (focus fail "sm"); fail "sqT")
  | fail "no")
local macro_rules | `(tactic| fail "sz") => `(tactic| with_reducible first
  | assumption
  | (apply Pf.Sz.mul; (focus fail "sz"); focus fail "sz")
  | fail "no")
local macro_rules | `(tactic| fail "mulok") => `(tactic| first
  | exact Pf.mulZ (by fail "sz") (by fail "sz") (by decide) (by decide) (by decide)
  | exact Pf.mulR (by decide) (by decide)
  | exact Pf.mulL (by decide) (by decide)
  | exact Pf.mulR (by omega) (by omega)
  | exact Pf.mulL (by omega) (by omega)
  | fail "no")
local macro_rules | `(tactic| fail "side") => `(tactic| first
  | ((with_reducible show PySem.IntMulOk _ _); fail "mulok")
  | ((with_reducible show Pf.CDivA _ _); first | (with_reducible assumption) | exact ⟨by decide, by decide⟩)
  | ((with_reducible show CPow _ _); exact ⟨by decide, by decide, by decide⟩)
  | (show (0 : Int) < _; first | decide | omega)
  | (refine ⟨?_, ?_⟩ <;> first | decide | omega)
  | fail "no")
local macro_rules | `(tactic| fail "rd1") => `(tactic| first
  | with_reducible refine Pf.i_seq ?_
  | with_reducible refine Pf.i_asg ?_
  | with_reducible refine Pf.i_op ?_
  | (with_reducible show gName _ _ _ _ _; fail "rdn")
  | with_reducible refine Pf.i_var (by with_unfolding_all exact rfl) ?_
  | with_reducible refine Pf.i_c ?_
  | with_reducible refine Pf.i_I0 ?_
  | with_reducible refine Pf.i_cb ?_
  | with_reducible refine Pf.i_cons ?_
  | with_reducible refine Pf.i_nil ?_
  | with_reducible refine Pf.i_fld ?_
  | with_reducible refine Pf.i_if ?_
  | with_reducible refine Pf.i_test ?_
  | with_reducible refine Pf.i_eqI ?_
  | with_reducible refine Pf.i_neI ?_
  | with_reducible refine Pf.i_eqS ?_
  | with_reducible refine Pf.i_neS ?_
  | with_reducible refine Pf.i_eqB ?_
  | with_reducible refine Pf.i_neB ?_
  | with_reducible refine Pf.i_ret ?_
  | with_reducible refine Pf.i_drop ?_
  | with_reducible refine Pf.i_un ?_
  | with_reducible refine Pf.i_U ?_
  | with_reducible refine Pf.i_int ?_
  | with_reducible refine Pf.i_intB ?_
  | with_reducible refine Pf.i_bool ?_
  | with_reducible refine Pf.i_boolB ?_
  | with_reducible refine Pf.i_abs ?_
  | with_reducible refine Pf.i_B ?_
  | with_reducible refine Pf.i_and ?_
  | with_reducible refine Pf.i_or ?_
  | with_reducible refine Pf.i_not ?_
  | with_reducible refine Pf.i_andV ?_
  | with_reducible refine Pf.i_orV ?_
  | with_reducible refine Pf.i_notV ?_
  | with_reducible refine Pf.i_ifE ?_
  | with_reducible refine Pf.i_call ?_
  | with_reducible refine Pf.i_lst ?_
  | with_reducible refine Pf.i_tup ?_
  | with_reducible refine Pf.i_bm ?_
  | with_reducible refine Pf.i_bm0 ?_
  | with_reducible refine Pf.i_next ?_
  | with_reducible refine Pf.i_brk ?_
  | with_reducible refine Pf.i_cont ?_
  | with_reducible refine Pf.i_T ?_
  | with_reducible refine Pf.i_F ?_
  | with_reducible refine Pf.i_nT ?_
  | with_reducible refine Pf.i_nF ?_
  | with_reducible refine Pf.i_for1 ?_
  | with_reducible refine Pf.i_for2 ?_
  | with_reducible refine Pf.i_forL ?_
  | with_reducible refine Pf.i_forT ?_
  | with_reducible refine Pf.i_par ?_
  | with_reducible refine Pf.i_put ?_
  | with_reducible refine Pf.i_make ?_
  | with_reducible refine Pf.i_meth ?_
  | with_reducible refine Pf.i_gcd ?_
  | with_reducible refine Pf.i_isiII ?_
  | with_reducible refine Pf.i_isiIB ?_
  | with_reducible refine Pf.i_isiBB ?_
  | with_reducible refine Pf.i_I (by with_unfolding_all fail "side") ?_
  | with_reducible refine Pf.i_lenI (by fail "sq") ?_
  | with_reducible refine Pf.i_lenL (by fail "sq") ?_
  | with_reducible refine Pf.i_tyL (by fail "sq") ?_
  | with_reducible refine Pf.i_ixI (by fail "sq") (by with_unfolding_all omega) (by with_unfolding_all omega) ?_
  | fail "no")
local macro_rules | `(tactic| fail "rdn") => `(tactic| with_reducible first
  | refine Pf.i_nm0 ?_
  | refine Pf.i_nm1 ?_
  | refine Pf.i_nm2 ?_
  | refine Pf.i_nm3 ?_
  | refine Pf.i_nm4 ?_
  | refine Pf.i_nm5 ?_
  | refine Pf.i_nm6 ?_
  | refine Pf.i_nm7 ?_
  | refine Pf.i_nm8 ?_
  | refine Pf.i_nm9 ?_
  | refine Pf.i_nm10 ?_
  | refine Pf.i_nm11 ?_
  | refine Pf.i_nm12 ?_
  | refine Pf.i_nm13 ?_
  | refine Pf.i_nm14 ?_
  | refine Pf.i_nm15 ?_
  | fail "no")
local macro_rules | `(tactic| fail "rd2") => `(tactic| first
  | fail "rd1"
  | (with_reducible show ∃ k, V.bl _ = V.bl k ∧ _; refine ⟨_, rfl, ?_⟩)
  | (with_reducible refine Pf.i_decT ?_ ?_; focus omega)
  | (with_reducible refine Pf.i_decF ?_ ?_; focus omega)
  | (with_reducible refine Pf.i_ndecT ?_ ?_; focus omega)
  | (with_reducible refine Pf.i_ndecF ?_ ?_; focus omega)
  | (with_reducible show Ends.nx _ _ _; dsimp only)
  | (with_reducible show Ends.rt _ _ _; dsimp only)
  | fail "no")
local macro_rules | `(tactic| fail "rd") => `(tactic| repeat fail "rd2")

local macro_rules | `(tactic| fail "sh") => `(tactic| with_reducible first
  | assumption
  | (apply Sh.same; (focus fail "sm"); fail "sh")
  | fail "no")
local macro_rules | `(tactic| fail "rd1") => `(tactic| first
  | with_reducible refine i_num (by fail "sh") (by with_unfolding_all exact rfl) ?_
  | with_reducible refine i_den (by fail "sh") (by with_unfolding_all exact rfl) ?_
  | with_reducible refine i_isiSh (by fail "sh") (by with_unfolding_all exact rfl) ?_
  | with_reducible refine i_isiShI (by with_unfolding_all exact rfl) ?_
  | with_reducible refine i_shOwn (by fail "sh") (by fail "sh") ?_
  | with_reducible refine i_shOwnI (by fail "sh") ?_
  | with_reducible refine i_shIOwn (by fail "sh") ?_
  | with_reducible refine i_shOwn1 (by fail "sh") ?_
  | with_reducible refine i_shOwnC (by fail "sh") ?_
  | with_reducible refine i_shOwnCB (by fail "sh") ?_
  | with_reducible refine i_shMeth (by fail "sh") (by with_unfolding_all decide +kernel) (by with_unfolding_all decide +kernel) ?_
  | fail "no")

section
variable {P : Program} {w : World} {K : PySem.W.Frag} {mg : Str → Option Value} {base : Heap}
theorem ok_law (T : Txt K mg) : FnOk P w K mg base CX0 6 T.f_law T.fd_law ["script"] (spLaw K) := by
  refine T.F_law.ok sc_law (fun vs H Q E h => ?_) (fun cdv A outer s H vs Q E hr h => ?_)
  · obtain ⟨sa, ns, rfl, _⟩ := h
    rfl
  · obtain ⟨sa, ns, rfl, hS, hlen, k1⟩ := h
    refine ⟨_, (pss_cons (ps_set (i := 1) sc_law.nd rfl (by first | exact Or.inl rfl | exact Or.inr rfl) (pe_call (ok_law_pool T) (hr.mono (by decide)) rfl T.g_law_pool T.F_law_pool.kp T.b_law_pool .nil pass0 (pa_cons (pv 0) (pa_cons pe_int (pa_cons pe_int pa_nil)))))
    (pss_cons (ps_set (i := 2) sc_law.nd rfl (by first | exact Or.inl rfl | exact Or.inr rfl) (pe_call (ok_law_wide T) (hr.mono (by decide)) rfl T.g_law_wide T.F_law_wide.kp T.b_law_wide .nil pass0 (pa_cons (pv 1) (pa_cons pe_int pa_nil))))
    (pss_cons (ps_set (i := 3) sc_law.nd rfl (by first | exact Or.inl rfl | exact Or.inr rfl) (pe_call (ok_law_wide T) (hr.mono (by decide)) rfl T.g_law_wide T.F_law_wide.kp T.b_law_wide .nil pass0 (pa_cons (pv 1) (pa_cons pe_int pa_nil))))
    (pss_cons (ps_set (i := 4) sc_law.nd rfl (by first | exact Or.inl rfl | exact Or.inr rfl) (pe_call (ok_law_wide T) (hr.mono (by decide)) rfl T.g_law_wide T.F_law_wide.kp T.b_law_wide .nil pass0 (pa_cons (pv 1) (pa_cons pe_int pa_nil))))
    (pss_cons (ps_set (i := 5) sc_law.nd rfl (by first | exact Or.inl rfl | exact Or.inr rfl) (pe_call (ok_law_wide T) (hr.mono (by decide)) rfl T.g_law_wide T.F_law_wide.kp T.b_law_wide .nil pass0 (pa_cons (pv 1) (pa_cons pe_int pa_nil))))
    (pss_cons (ps_set (i := 6) sc_law.nd rfl (by first | exact Or.inl rfl | exact Or.inr rfl) (pe_call (ok_law_whole T) (hr.mono (by decide)) rfl T.g_law_whole T.F_law_whole.kp T.b_law_whole .nil pass0 (pa_cons (pv 1) (pa_cons pe_int pa_nil))))
    (Evl.pss_cut (ps_if (pt_cmpR op_eq (pv 3) pe_int (nomark _))
      (pss_one (ps_set (i := 3) sc_law.nd rfl (by first | exact Or.inl rfl | exact Or.inr rfl) pe_int))
      pss_nil)
    (Evl.pss_cut (ps_if (pt_cmpR op_eq (pv 5) pe_int (nomark _))
      (pss_one (ps_set (i := 5) sc_law.nd rfl (by first | exact Or.inl rfl | exact Or.inr rfl) pe_int))
      pss_nil)
    (Evl.pss_cut (ps_if (pt_cmpR op_eq (pe_op op_mod (pe_callTy call_intN (by rfl) T.b_int (by decide +kernel) (pa_cons (pe_ix ix_list (pv 1) pe_int (fun _ _ => rfl)) pa_nil)) pe_int) pe_int (nomark _))
      (pss_cons (ps_set (i := 7) sc_law.nd rfl (by first | exact Or.inl rfl | exact Or.inr rfl) (pe_ix ix_list (pe_lst (pa_cons pe_int (pa_cons pe_int (pa_cons pe_int (pa_cons (pe_un un_neg pe_int) (pa_cons (pe_un un_neg pe_int) (pa_cons (pe_un un_neg pe_int) (pa_cons pe_int (pa_cons pe_int pa_nil))))))))) (pe_op op_mod (pe_callTy call_intN (by rfl) T.b_int (by decide +kernel) (pa_cons (pe_ix ix_list (pv 1) pe_int (fun _ _ => rfl)) pa_nil)) pe_int) (fun _ _ => rfl)))
    (pss_cons (ps_set (i := 4) sc_law.nd rfl (by first | exact Or.inl rfl | exact Or.inr rfl) (pe_op op_mulX (pv 2) (pv 7)))
    (pss_one (ps_set (i := 5) sc_law.nd rfl (by first | exact Or.inl rfl | exact Or.inr rfl) (pe_op op_mulX (pv 3) (pv 7))))))
      pss_nil)
    (pss_cons (ps_set (i := 8) sc_law.nd rfl (by first | exact Or.inl rfl | exact Or.inr rfl) (pe_make T.mk_Share (ok_ShareD_initD T) (hr.mono (by decide)) rfl T.g_Share T.b_ShareD_initD .nil pass0 (pa_cons (pv 2) (pa_cons (pv 3) pa_nil))))
    (pss_cons (ps_set (i := 9) sc_law.nd rfl (by first | exact Or.inl rfl | exact Or.inr rfl) (pe_make T.mk_Share (ok_ShareD_initD T) (hr.mono (by decide)) rfl T.g_Share T.b_ShareD_initD .nil pass0 (pa_cons (pv 4) (pa_cons (pv 5) pa_nil))))
    (pss_cons (ps_if (PW.pt (pw_or (pt_not (pt_val (pe_call (ok_law_is T) (hr.mono (by decide)) rfl T.g_law_is T.F_law_is.kp T.b_law_is .nil pass0 (pa_cons (pv 8) (pa_cons (pv 2) (pa_cons (pv 3) pa_nil)))))) (pw_or (pt_not (pt_val (pe_call (ok_law_is T) (hr.mono (by decide)) rfl T.g_law_is T.F_law_is.kp T.b_law_is .nil pass0 (pa_cons (pv 9) (pa_cons (pv 4) (pa_cons (pv 5) pa_nil)))))) (pw_or1 (pt_not (pt_val (pe_call (ok_law_is T) (hr.mono (by decide)) rfl T.g_law_is T.F_law_is.kp T.b_law_is .nil pass0 (pa_cons (pe_make T.mk_Share (ok_ShareD_initD T) (hr.mono (by decide)) rfl T.g_Share T.b1_ShareD_initD T.d1_ShareD_initD pass0 (pa_cons (pv 2) pa_nil)) (pa_cons (pv 2) (pa_cons pe_int pa_nil))))))))))
      (pss_one (ps_ret pe_bl))
      pss_nil)
    (pss_cons (ps_if (PW.pt (pw_or (pt_not (pt_val (pe_call (ok_law_sums T) (hr.mono (by decide)) rfl T.g_law_sums T.F_law_sums.kp T.b_law_sums .nil pass0 (pa_cons (pv 8) (pa_cons (pv 9) (pa_cons (pv 2) (pa_cons (pv 3) (pa_cons (pv 4) (pa_cons (pv 5) pa_nil))))))))) (pw_or1 (pt_not (pt_val (pe_call (ok_law_products T) (hr.mono (by decide)) rfl T.g_law_products T.F_law_products.kp T.b_law_products .nil pass0 (pa_cons (pv 8) (pa_cons (pv 9) (pa_cons (pv 6) (pa_cons (pv 2) (pa_cons (pv 3) (pa_cons (pv 4) (pa_cons (pv 5) pa_nil)))))))))))))
      (pss_one (ps_ret pe_bl))
      pss_nil)
    (pss_cons (ps_if (pt_not (pt_val (pe_call (ok_law_compared T) (hr.mono (by decide)) rfl T.g_law_compared T.F_law_compared.kp T.b_law_compared .nil pass0 (pa_cons (pv 8) (pa_cons (pv 9) (pa_cons (pv 2) (pa_cons (pv 3) (pa_cons (pv 4) (pa_cons (pv 5) pa_nil)))))))))
      (pss_one (ps_ret pe_bl))
      pss_nil)
    (pss_cons (ps_if (PW.pt (pw_or (pt_not (pt_val (pe_call (ok_law_is T) (hr.mono (by decide)) rfl T.g_law_is T.F_law_is.kp T.b_law_is .nil pass0 (pa_cons (pv 8) (pa_cons (pv 2) (pa_cons (pv 3) pa_nil)))))) (pw_or1 (pt_not (pt_val (pe_call (ok_law_is T) (hr.mono (by decide)) rfl T.g_law_is T.F_law_is.kp T.b_law_is .nil pass0 (pa_cons (pv 9) (pa_cons (pv 4) (pa_cons (pv 5) pa_nil)))))))))
      (pss_one (ps_ret pe_bl))
      pss_nil)
    (pss_one (ps_ret (pe_and (pe_call (ok_law_sums T) (hr.mono (by decide)) rfl T.g_law_sums T.F_law_sums.kp T.b_law_sums .nil pass0 (pa_cons (pv 8) (pa_cons (pv 9) (pa_cons (pv 2) (pa_cons (pv 3) (pa_cons (pv 4) (pa_cons (pv 5) pa_nil))))))) (pe_one (pe_call (ok_law_compared T) (hr.mono (by decide)) rfl T.g_law_compared T.F_law_compared.kp T.b_law_compared .nil pass0 (pa_cons (pv 8) (pa_cons (pv 9) (pa_cons (pv 2) (pa_cons (pv 3) (pa_cons (pv 4) (pa_cons (pv 5) pa_nil)))))))))))))))))))))))))), ?_⟩
    rw [st_law]; try dsimp only [L2.Cx.nox, L2.cxOf]
    fail "rd"
    refine ⟨sa, ns, 0, 60, rfl, hS, by decide, by decide, fun p ms H1 hD hp0 s1 hp => ?_⟩
    have hD : Draws ms 60 := hD
    have hl := hD.1
    fail "rd"
    refine ⟨p, ms, 0, rfl, by fail "sq", hD, by decide, fun a H2 za s2 => ?_⟩
    fail "rd"
    refine ⟨p, ms, 12, rfl, by fail "sq", hD, by decide, fun b0 H3 zb0 s3 => ?_⟩
    fail "rd"
    refine ⟨p, ms, 24, rfl, by fail "sq", hD, by decide, fun c0 H4 zc0 s4 => ?_⟩
    fail "rd"
    refine ⟨p, ms, 36, rfl, by fail "sq", hD, by decide, fun d00 H5 zd00 s5 => ?_⟩
    fail "rd"
    refine ⟨p, ms, 48, rfl, by fail "sq", hD, by decide, fun k H6 zk s6 => ?_⟩
    fail "rd"
    -- b, d: not zero
    refine ⟨fun σ' H' => ∃ b : Int, σ' = [some (.ref sa), some (.ref p), some (.int a), some (.int b), some (.int c0), some (.int d00), some (.int k), none, none, none] ∧ H' = H6 ∧ b ≠ 0 ∧ Sz 152 b, ?_, ?_⟩
    · fail "rd"
      refine i_dec (fun hz => ?_) (fun hz => ?_)
      · fail "rd"
        exact ⟨1, rfl, rfl, by decide, by unfold Sz; decide⟩
      · fail "rd"
        exact ⟨b0, rfl, rfl, hz, zb0⟩
    rintro σ' H' ⟨b, rfl, rfl, hb, zb⟩
    fail "rd"
    refine ⟨fun σ' H'' => ∃ d : Int, σ' = [some (.ref sa), some (.ref p), some (.int a), some (.int b), some (.int c0), some (.int d), some (.int k), none, none, none] ∧ H'' = H' ∧ d ≠ 0 ∧ Sz 152 d, ?_, ?_⟩
    · fail "rd"
      refine i_dec (fun hz => ?_) (fun hz => ?_)
      · fail "rd"
        exact ⟨1, rfl, rfl, by decide, by unfold Sz; decide⟩
      · fail "rd"
        exact ⟨d00, rfl, rfl, hz, zd00⟩
    rintro σ' H'' ⟨d0, rfl, rfl, hd0, zd0⟩
    fail "rd"
    have up : ∀ {i : Int}, Sz 152 i → Sz 160 i := fun h => h.up
    refine ⟨fun σ' H3 => ∃ (c d : Int) (v7 : Option V), σ' = [some (.ref sa), some (.ref p), some (.int a), some (.int b), some (.int c), some (.int d), some (.int k), v7, none, none] ∧ Same H'' H3 ∧ d ≠ 0 ∧ Sz 160 c ∧ Sz 160 d, ?_, ?_⟩
    · fail "rd"
      refine i_dec (fun hz => ?_) (fun hz => ?_)
      · fail "rd"
        refine ⟨sz_le (by decide), fun q nq => ?_⟩
        have s7 : Same H'' (upd H'' q (.lst [.int 2, .int 3, .int 12, .int (-1), .int (-2), .int (-5), .int 1, .int 7])) := Sm.new nq
        fail "rd"
        generalize ms.getD (Int.toNat 53) 0 = z
        have hm : ∃ t : Int, (t ≠ 0 ∧ t.natAbs ≤ 12) ∧ atI [V.int 2, .int 3, .int 12, .int (-1), .int (-2), .int (-5), .int 1, .int 7] (z % 8) = some (.int t) := by
          rcases (by omega : z % 8 = 0 ∨ z % 8 = 1 ∨ z % 8 = 2 ∨ z % 8 = 3 ∨ z % 8 = 4 ∨ z % 8 = 5 ∨ z % 8 = 6 ∨ z % 8 = 7) with e | e | e | e | e | e | e | e <;> rw [e]
          · exact ⟨2, by decide, rfl⟩
          · exact ⟨3, by decide, rfl⟩
          · exact ⟨12, by decide, rfl⟩
          · exact ⟨-1, by decide, rfl⟩
          · exact ⟨-2, by decide, rfl⟩
          · exact ⟨-5, by decide, rfl⟩
          · exact ⟨1, by decide, rfl⟩
          · exact ⟨7, by decide, rfl⟩
        obtain ⟨t, ⟨ht, hz12⟩, hat⟩ := hm
        refine i_ixL (by fail "sq") hat ?_
        have ht1 : -(2 ^ 64) < t := by omega
        have ht2 : t < 2 ^ 64 := by omega
        have tw : ∀ i : Int, Sz 152 i → Sz 160 (i * t) := fun i hi => by
          have h4 : Sz 4 t := by unfold Sz; omega
          exact (hi.mul h4).up
        fail "rd"
        exact ⟨_, _, _, rfl, s7, Int.mul_ne_zero hb ht, tw a za, tw b zb⟩
      · fail "rd"
        exact ⟨_, _, _, rfl, Same.refl _, hd0, up zc0, up zd0⟩
    rintro σ' H7 ⟨c, d, v7, rfl, s7, hd, zc, zd⟩
    fail "rd"
    have za := up za
    have zb := up zb
    have up2 : ∀ {i : Int}, Sz 160 i → Sz 1000 i := fun h => h.up
    refine i_newSh hb (up2 zb) fun x H8 hx s8 hX => ?_
    fail "rd"
    refine i_newSh hd (up2 zd) fun y H9 hy s9 hY => ?_
    have hX9 := hX.same s9
    have W : Two T.C_Share H9 x y a b c d := ⟨hX9, hY, hb, hd, za, zb, zc, zd⟩
    fail "rd"
    refine i_is hX9 ⟨rfl, rfl⟩ hb (up2 za) (up2 zb) ?_
    fail "rd"
    refine i_is hY ⟨rfl, rfl⟩ hd (up2 zc) (up2 zd) ?_
    fail "rd"
    refine i_newSh1 fun u H10 hu s10 hU => ?_
    fail "rd"
    refine i_is hU ⟨rfl, rfl⟩ (by decide) (up2 za) (by unfold Sz; decide) ?_
    fail "rd"
    have W10 := W.same s10
    refine ⟨x, y, a, b, c, d, rfl, W10, fun H11 s11 => ?_⟩
    fail "rd"
    have W11 := W10.same s11
    refine ⟨x, y, k, a, b, c, d, rfl, W11, by unfold Sz; omega, fun H12 s12 => ?_⟩
    fail "rd"
    have W12 := W11.same s12
    refine ⟨x, y, a, b, c, d, rfl, W12, fun H13 s13 => ?_⟩
    fail "rd"
    have W13 := W12.same s13
    refine i_is W13.hx ⟨rfl, rfl⟩ hb (up2 za) (up2 zb) ?_
    fail "rd"
    refine i_is W13.hy ⟨rfl, rfl⟩ hd (up2 zc) (up2 zd) ?_
    fail "rd"
    refine ⟨x, y, a, b, c, d, rfl, W13, fun H14 s14 => ?_⟩
    fail "rd"
    have W14 := W13.same s14
    refine ⟨x, y, a, b, c, d, rfl, W14, fun H15 s15 => ?_⟩
    fail "rd"
    exact k1 _
end
end K00
namespace K00
open PySem L2 Pf
theorem binds0 {K : PySem.W.Frag} {fd : FuncData} {ps : List Str} (h : ∃ ds, Vals [] ds ∧ Binds K fd ps ds) : Binds K fd ps [] := by
  obtain ⟨ds, r, b⟩ := h
  cases r
  exact b
theorem kit_self (K : PySem.W.Frag) (t : Value) : PySem.W.kitOne K t t = some true := if_pos (by simp)
theorem kit_other {K : PySem.W.Frag} {t : String} {C : Addr} {b : Option Bool} (h2 : PySem.W.isClsIn K C = true) (h3 : PySem.W.typeIn K (.ref C) = some (.type "type")) (h4 : PySem.W.subIn K (.type t) (.ref C) = b) : PySem.W.kitOne K (.type t) (.ref C) = b := by
  have e2 : ((PySem.W.clsIn K C).isSome && PySem.W.typeIn K (.ref C) == some (.type "type")) = true := by
    have h2' : (PySem.W.clsIn K C).isSome = true := h2
    rw [h2', h3]
    rfl
  unfold PySem.W.kitOne
  rw [show (Value.type t == Value.ref C) = false from beq_eq_false_iff_ne.mpr (by intro h; cases h)]
  show (if ((PySem.W.clsIn K C).isSome && PySem.W.typeIn K (.ref C) == some (.type "type")) = true then PySem.W.subIn K (.type t) (.ref C) else none) = b
  rw [if_pos e2, h4]
theorem all_mk {l : PySem.W.OpenLaw} {w : World} {K : PySem.W.Frag} {h : Heap} {mg : Str → Option Value} {fa : Addr} (X : K.In h) (G : h.Ns mainGlobals mg) (hfa : mg "law" = some (.ref fa))
    {f_ShareD_initD : Addr} {od_ShareD_initD an_ShareD_initD : Option Addr} {sl_ShareD_initD : Array (Option Value)} {oc_ShareD_initD kV_ShareD_initD dc_ShareD_initD pm_ShareD_initD cd_ShareD_initD ct_ShareD_initD : Value}
    {t_ShareD_initD : Addr} {to_ShareD_initD : Obj} {ti_ShareD_initD : List Value} {tn_ShareD_initD : Nat}
    {f_Share_below : Addr} {od_Share_below an_Share_below : Option Addr} {sl_Share_below : Array (Option Value)} {oc_Share_below kV_Share_below dc_Share_below pm_Share_below cd_Share_below ct_Share_below : Value}
    {f_ShareD_addD : Addr} {od_ShareD_addD an_ShareD_addD : Option Addr} {sl_ShareD_addD : Array (Option Value)} {oc_ShareD_addD kV_ShareD_addD dc_ShareD_addD pm_ShareD_addD cd_ShareD_addD ct_ShareD_addD : Value}
    {f_ShareD_subD : Addr} {od_ShareD_subD an_ShareD_subD : Option Addr} {sl_ShareD_subD : Array (Option Value)} {oc_ShareD_subD kV_ShareD_subD dc_ShareD_subD pm_ShareD_subD cd_ShareD_subD ct_ShareD_subD : Value}
    {f_ShareD_mulD : Addr} {od_ShareD_mulD an_ShareD_mulD : Option Addr} {sl_ShareD_mulD : Array (Option Value)} {oc_ShareD_mulD kV_ShareD_mulD dc_ShareD_mulD pm_ShareD_mulD cd_ShareD_mulD ct_ShareD_mulD : Value}
    {f_ShareD_rmulD : Addr} {od_ShareD_rmulD an_ShareD_rmulD : Option Addr} {sl_ShareD_rmulD : Array (Option Value)} {oc_ShareD_rmulD kV_ShareD_rmulD dc_ShareD_rmulD pm_ShareD_rmulD cd_ShareD_rmulD ct_ShareD_rmulD : Value}
    {f_ShareD_negD : Addr} {od_ShareD_negD an_ShareD_negD : Option Addr} {sl_ShareD_negD : Array (Option Value)} {oc_ShareD_negD kV_ShareD_negD dc_ShareD_negD pm_ShareD_negD cd_ShareD_negD ct_ShareD_negD : Value}
    {f_ShareD_absD : Addr} {od_ShareD_absD an_ShareD_absD : Option Addr} {sl_ShareD_absD : Array (Option Value)} {oc_ShareD_absD kV_ShareD_absD dc_ShareD_absD pm_ShareD_absD cd_ShareD_absD ct_ShareD_absD : Value}
    {f_ShareD_boolD : Addr} {od_ShareD_boolD an_ShareD_boolD : Option Addr} {sl_ShareD_boolD : Array (Option Value)} {oc_ShareD_boolD kV_ShareD_boolD dc_ShareD_boolD pm_ShareD_boolD cd_ShareD_boolD ct_ShareD_boolD : Value}
    {f_ShareD_eqD : Addr} {od_ShareD_eqD an_ShareD_eqD : Option Addr} {sl_ShareD_eqD : Array (Option Value)} {oc_ShareD_eqD kV_ShareD_eqD dc_ShareD_eqD pm_ShareD_eqD cd_ShareD_eqD ct_ShareD_eqD : Value}
    {f_law_cell : Addr} {od_law_cell an_law_cell : Option Addr} {sl_law_cell : Array (Option Value)} {oc_law_cell kV_law_cell dc_law_cell pm_law_cell cd_law_cell ct_law_cell : Value}
    {f_law_pool : Addr} {od_law_pool an_law_pool : Option Addr} {sl_law_pool : Array (Option Value)} {oc_law_pool kV_law_pool dc_law_pool pm_law_pool cd_law_pool ct_law_pool : Value}
    {f_law_whole : Addr} {od_law_whole an_law_whole : Option Addr} {sl_law_whole : Array (Option Value)} {oc_law_whole kV_law_whole dc_law_whole pm_law_whole cd_law_whole ct_law_whole : Value}
    {f_law_wide : Addr} {od_law_wide an_law_wide : Option Addr} {sl_law_wide : Array (Option Value)} {oc_law_wide kV_law_wide dc_law_wide pm_law_wide cd_law_wide ct_law_wide : Value}
    {f_law_common : Addr} {od_law_common an_law_common : Option Addr} {sl_law_common : Array (Option Value)} {oc_law_common kV_law_common dc_law_common pm_law_common cd_law_common ct_law_common : Value}
    {f_law_is : Addr} {od_law_is an_law_is : Option Addr} {sl_law_is : Array (Option Value)} {oc_law_is kV_law_is dc_law_is pm_law_is cd_law_is ct_law_is : Value}
    {f_law_sums : Addr} {od_law_sums an_law_sums : Option Addr} {sl_law_sums : Array (Option Value)} {oc_law_sums kV_law_sums dc_law_sums pm_law_sums cd_law_sums ct_law_sums : Value}
    {f_law_products : Addr} {od_law_products an_law_products : Option Addr} {sl_law_products : Array (Option Value)} {oc_law_products kV_law_products dc_law_products pm_law_products cd_law_products ct_law_products : Value}
    {f_law_compared : Addr} {od_law_compared an_law_compared : Option Addr} {sl_law_compared : Array (Option Value)} {oc_law_compared kV_law_compared dc_law_compared pm_law_compared cd_law_compared ct_law_compared : Value}
    {f_law : Addr} {od_law an_law : Option Addr} {sl_law : Array (Option Value)} {oc_law kV_law dc_law pm_law cd_law ct_law : Value}
    {C_Share : Addr}
    {rr_Share : Addr} {ri_Share : Option Value}
    (g_Share : PySem.W.nsIn K mainGlobals "Share" = some (some (.ref C_Share)))
    (a_ShareD_initD : PySem.W.findIn K (.ref C_Share) "__init__" = some (some (.ref f_ShareD_initD)))
    (i_ShareD_initD : PySem.W.isFn K (.ref f_ShareD_initD) = true)
    (l_ShareD_initD : K.lookup f_ShareD_initD = some ⟨oc_ShareD_initD, od_ShareD_initD, .func (PySem.W.fnOf "__init__" "Share.__init__" (defArgs s_ShareD_initD) (defBody s_ShareD_initD) (defScope s_ShareD_initD) (.ref t_ShareD_initD) kV_ShareD_initD dc_ShareD_initD pm_ShareD_initD an_ShareD_initD cd_ShareD_initD ct_ShareD_initD), sl_ShareD_initD⟩)
    (c_ShareD_initD : PySem.W.codeIn K cd_ShareD_initD "Share.__init__" = true)
    (k_ShareD_initD : PySem.W.keepIn K (.ref f_ShareD_initD) = true)
    (t1_ShareD_initD : K.lookup t_ShareD_initD = some to_ShareD_initD)
    (t2_ShareD_initD : to_ShareD_initD.data = .seq ti_ShareD_initD.toArray tn_ShareD_initD)
    (t3_ShareD_initD : Vals [V.int 1] ti_ShareD_initD)
    (a_Share_below : PySem.W.findIn K (.ref C_Share) "below" = some (some (.ref f_Share_below)))
    (i_Share_below : PySem.W.isFn K (.ref f_Share_below) = true)
    (l_Share_below : K.lookup f_Share_below = some ⟨oc_Share_below, od_Share_below, .func (PySem.W.fnOf "below" "Share.below" (defArgs s_Share_below) (defBody s_Share_below) (defScope s_Share_below) .none kV_Share_below dc_Share_below pm_Share_below an_Share_below cd_Share_below ct_Share_below), sl_Share_below⟩)
    (c_Share_below : PySem.W.codeIn K cd_Share_below "Share.below" = true)
    (k_Share_below : PySem.W.keepIn K (.ref f_Share_below) = true)
    (a_ShareD_addD : PySem.W.findIn K (.ref C_Share) "__add__" = some (some (.ref f_ShareD_addD)))
    (i_ShareD_addD : PySem.W.isFn K (.ref f_ShareD_addD) = true)
    (l_ShareD_addD : K.lookup f_ShareD_addD = some ⟨oc_ShareD_addD, od_ShareD_addD, .func (PySem.W.fnOf "__add__" "Share.__add__" (defArgs s_ShareD_addD) (defBody s_ShareD_addD) (defScope s_ShareD_addD) .none kV_ShareD_addD dc_ShareD_addD pm_ShareD_addD an_ShareD_addD cd_ShareD_addD ct_ShareD_addD), sl_ShareD_addD⟩)
    (c_ShareD_addD : PySem.W.codeIn K cd_ShareD_addD "Share.__add__" = true)
    (k_ShareD_addD : PySem.W.keepIn K (.ref f_ShareD_addD) = true)
    (a_ShareD_subD : PySem.W.findIn K (.ref C_Share) "__sub__" = some (some (.ref f_ShareD_subD)))
    (i_ShareD_subD : PySem.W.isFn K (.ref f_ShareD_subD) = true)
    (l_ShareD_subD : K.lookup f_ShareD_subD = some ⟨oc_ShareD_subD, od_ShareD_subD, .func (PySem.W.fnOf "__sub__" "Share.__sub__" (defArgs s_ShareD_subD) (defBody s_ShareD_subD) (defScope s_ShareD_subD) .none kV_ShareD_subD dc_ShareD_subD pm_ShareD_subD an_ShareD_subD cd_ShareD_subD ct_ShareD_subD), sl_ShareD_subD⟩)
    (c_ShareD_subD : PySem.W.codeIn K cd_ShareD_subD "Share.__sub__" = true)
    (k_ShareD_subD : PySem.W.keepIn K (.ref f_ShareD_subD) = true)
    (a_ShareD_mulD : PySem.W.findIn K (.ref C_Share) "__mul__" = some (some (.ref f_ShareD_mulD)))
    (i_ShareD_mulD : PySem.W.isFn K (.ref f_ShareD_mulD) = true)
    (l_ShareD_mulD : K.lookup f_ShareD_mulD = some ⟨oc_ShareD_mulD, od_ShareD_mulD, .func (PySem.W.fnOf "__mul__" "Share.__mul__" (defArgs s_ShareD_mulD) (defBody s_ShareD_mulD) (defScope s_ShareD_mulD) .none kV_ShareD_mulD dc_ShareD_mulD pm_ShareD_mulD an_ShareD_mulD cd_ShareD_mulD ct_ShareD_mulD), sl_ShareD_mulD⟩)
    (c_ShareD_mulD : PySem.W.codeIn K cd_ShareD_mulD "Share.__mul__" = true)
    (k_ShareD_mulD : PySem.W.keepIn K (.ref f_ShareD_mulD) = true)
    (a_ShareD_rmulD : PySem.W.findIn K (.ref C_Share) "__rmul__" = some (some (.ref f_ShareD_rmulD)))
    (i_ShareD_rmulD : PySem.W.isFn K (.ref f_ShareD_rmulD) = true)
    (l_ShareD_rmulD : K.lookup f_ShareD_rmulD = some ⟨oc_ShareD_rmulD, od_ShareD_rmulD, .func (PySem.W.fnOf "__rmul__" "Share.__rmul__" (defArgs s_ShareD_rmulD) (defBody s_ShareD_rmulD) (defScope s_ShareD_rmulD) .none kV_ShareD_rmulD dc_ShareD_rmulD pm_ShareD_rmulD an_ShareD_rmulD cd_ShareD_rmulD ct_ShareD_rmulD), sl_ShareD_rmulD⟩)
    (c_ShareD_rmulD : PySem.W.codeIn K cd_ShareD_rmulD "Share.__rmul__" = true)
    (k_ShareD_rmulD : PySem.W.keepIn K (.ref f_ShareD_rmulD) = true)
    (a_ShareD_negD : PySem.W.findIn K (.ref C_Share) "__neg__" = some (some (.ref f_ShareD_negD)))
    (i_ShareD_negD : PySem.W.isFn K (.ref f_ShareD_negD) = true)
    (l_ShareD_negD : K.lookup f_ShareD_negD = some ⟨oc_ShareD_negD, od_ShareD_negD, .func (PySem.W.fnOf "__neg__" "Share.__neg__" (defArgs s_ShareD_negD) (defBody s_ShareD_negD) (defScope s_ShareD_negD) .none kV_ShareD_negD dc_ShareD_negD pm_ShareD_negD an_ShareD_negD cd_ShareD_negD ct_ShareD_negD), sl_ShareD_negD⟩)
    (c_ShareD_negD : PySem.W.codeIn K cd_ShareD_negD "Share.__neg__" = true)
    (k_ShareD_negD : PySem.W.keepIn K (.ref f_ShareD_negD) = true)
    (a_ShareD_absD : PySem.W.findIn K (.ref C_Share) "__abs__" = some (some (.ref f_ShareD_absD)))
    (i_ShareD_absD : PySem.W.isFn K (.ref f_ShareD_absD) = true)
    (l_ShareD_absD : K.lookup f_ShareD_absD = some ⟨oc_ShareD_absD, od_ShareD_absD, .func (PySem.W.fnOf "__abs__" "Share.__abs__" (defArgs s_ShareD_absD) (defBody s_ShareD_absD) (defScope s_ShareD_absD) .none kV_ShareD_absD dc_ShareD_absD pm_ShareD_absD an_ShareD_absD cd_ShareD_absD ct_ShareD_absD), sl_ShareD_absD⟩)
    (c_ShareD_absD : PySem.W.codeIn K cd_ShareD_absD "Share.__abs__" = true)
    (k_ShareD_absD : PySem.W.keepIn K (.ref f_ShareD_absD) = true)
    (a_ShareD_boolD : PySem.W.findIn K (.ref C_Share) "__bool__" = some (some (.ref f_ShareD_boolD)))
    (i_ShareD_boolD : PySem.W.isFn K (.ref f_ShareD_boolD) = true)
    (l_ShareD_boolD : K.lookup f_ShareD_boolD = some ⟨oc_ShareD_boolD, od_ShareD_boolD, .func (PySem.W.fnOf "__bool__" "Share.__bool__" (defArgs s_ShareD_boolD) (defBody s_ShareD_boolD) (defScope s_ShareD_boolD) .none kV_ShareD_boolD dc_ShareD_boolD pm_ShareD_boolD an_ShareD_boolD cd_ShareD_boolD ct_ShareD_boolD), sl_ShareD_boolD⟩)
    (c_ShareD_boolD : PySem.W.codeIn K cd_ShareD_boolD "Share.__bool__" = true)
    (k_ShareD_boolD : PySem.W.keepIn K (.ref f_ShareD_boolD) = true)
    (a_ShareD_eqD : PySem.W.findIn K (.ref C_Share) "__eq__" = some (some (.ref f_ShareD_eqD)))
    (i_ShareD_eqD : PySem.W.isFn K (.ref f_ShareD_eqD) = true)
    (l_ShareD_eqD : K.lookup f_ShareD_eqD = some ⟨oc_ShareD_eqD, od_ShareD_eqD, .func (PySem.W.fnOf "__eq__" "Share.__eq__" (defArgs s_ShareD_eqD) (defBody s_ShareD_eqD) (defScope s_ShareD_eqD) .none kV_ShareD_eqD dc_ShareD_eqD pm_ShareD_eqD an_ShareD_eqD cd_ShareD_eqD ct_ShareD_eqD), sl_ShareD_eqD⟩)
    (c_ShareD_eqD : PySem.W.codeIn K cd_ShareD_eqD "Share.__eq__" = true)
    (k_ShareD_eqD : PySem.W.keepIn K (.ref f_ShareD_eqD) = true)
    (a_law_cell : PySem.W.nsIn K mainGlobals "_law_cell" = some (some (.ref f_law_cell)))
    (l_law_cell : K.lookup f_law_cell = some ⟨oc_law_cell, od_law_cell, .func (PySem.W.fnOf "_law_cell" "_law_cell" (defArgs s_law_cell) (defBody s_law_cell) (defScope s_law_cell) .none kV_law_cell dc_law_cell pm_law_cell an_law_cell cd_law_cell ct_law_cell), sl_law_cell⟩)
    (c_law_cell : PySem.W.codeIn K cd_law_cell "_law_cell" = true)
    (k_law_cell : PySem.W.keepIn K (.ref f_law_cell) = true)
    (a_law_pool : PySem.W.nsIn K mainGlobals "_law_pool" = some (some (.ref f_law_pool)))
    (l_law_pool : K.lookup f_law_pool = some ⟨oc_law_pool, od_law_pool, .func (PySem.W.fnOf "_law_pool" "_law_pool" (defArgs s_law_pool) (defBody s_law_pool) (defScope s_law_pool) .none kV_law_pool dc_law_pool pm_law_pool an_law_pool cd_law_pool ct_law_pool), sl_law_pool⟩)
    (c_law_pool : PySem.W.codeIn K cd_law_pool "_law_pool" = true)
    (k_law_pool : PySem.W.keepIn K (.ref f_law_pool) = true)
    (a_law_whole : PySem.W.nsIn K mainGlobals "_law_whole" = some (some (.ref f_law_whole)))
    (l_law_whole : K.lookup f_law_whole = some ⟨oc_law_whole, od_law_whole, .func (PySem.W.fnOf "_law_whole" "_law_whole" (defArgs s_law_whole) (defBody s_law_whole) (defScope s_law_whole) .none kV_law_whole dc_law_whole pm_law_whole an_law_whole cd_law_whole ct_law_whole), sl_law_whole⟩)
    (c_law_whole : PySem.W.codeIn K cd_law_whole "_law_whole" = true)
    (k_law_whole : PySem.W.keepIn K (.ref f_law_whole) = true)
    (a_law_wide : PySem.W.nsIn K mainGlobals "_law_wide" = some (some (.ref f_law_wide)))
    (l_law_wide : K.lookup f_law_wide = some ⟨oc_law_wide, od_law_wide, .func (PySem.W.fnOf "_law_wide" "_law_wide" (defArgs s_law_wide) (defBody s_law_wide) (defScope s_law_wide) .none kV_law_wide dc_law_wide pm_law_wide an_law_wide cd_law_wide ct_law_wide), sl_law_wide⟩)
    (c_law_wide : PySem.W.codeIn K cd_law_wide "_law_wide" = true)
    (k_law_wide : PySem.W.keepIn K (.ref f_law_wide) = true)
    (a_law_common : PySem.W.nsIn K mainGlobals "_law_common" = some (some (.ref f_law_common)))
    (l_law_common : K.lookup f_law_common = some ⟨oc_law_common, od_law_common, .func (PySem.W.fnOf "_law_common" "_law_common" (defArgs s_law_common) (defBody s_law_common) (defScope s_law_common) .none kV_law_common dc_law_common pm_law_common an_law_common cd_law_common ct_law_common), sl_law_common⟩)
    (c_law_common : PySem.W.codeIn K cd_law_common "_law_common" = true)
    (k_law_common : PySem.W.keepIn K (.ref f_law_common) = true)
    (a_law_is : PySem.W.nsIn K mainGlobals "_law_is" = some (some (.ref f_law_is)))
    (l_law_is : K.lookup f_law_is = some ⟨oc_law_is, od_law_is, .func (PySem.W.fnOf "_law_is" "_law_is" (defArgs s_law_is) (defBody s_law_is) (defScope s_law_is) .none kV_law_is dc_law_is pm_law_is an_law_is cd_law_is ct_law_is), sl_law_is⟩)
    (c_law_is : PySem.W.codeIn K cd_law_is "_law_is" = true)
    (k_law_is : PySem.W.keepIn K (.ref f_law_is) = true)
    (a_law_sums : PySem.W.nsIn K mainGlobals "_law_sums" = some (some (.ref f_law_sums)))
    (l_law_sums : K.lookup f_law_sums = some ⟨oc_law_sums, od_law_sums, .func (PySem.W.fnOf "_law_sums" "_law_sums" (defArgs s_law_sums) (defBody s_law_sums) (defScope s_law_sums) .none kV_law_sums dc_law_sums pm_law_sums an_law_sums cd_law_sums ct_law_sums), sl_law_sums⟩)
    (c_law_sums : PySem.W.codeIn K cd_law_sums "_law_sums" = true)
    (k_law_sums : PySem.W.keepIn K (.ref f_law_sums) = true)
    (a_law_products : PySem.W.nsIn K mainGlobals "_law_products" = some (some (.ref f_law_products)))
    (l_law_products : K.lookup f_law_products = some ⟨oc_law_products, od_law_products, .func (PySem.W.fnOf "_law_products" "_law_products" (defArgs s_law_products) (defBody s_law_products) (defScope s_law_products) .none kV_law_products dc_law_products pm_law_products an_law_products cd_law_products ct_law_products), sl_law_products⟩)
    (c_law_products : PySem.W.codeIn K cd_law_products "_law_products" = true)
    (k_law_products : PySem.W.keepIn K (.ref f_law_products) = true)
    (a_law_compared : PySem.W.nsIn K mainGlobals "_law_compared" = some (some (.ref f_law_compared)))
    (l_law_compared : K.lookup f_law_compared = some ⟨oc_law_compared, od_law_compared, .func (PySem.W.fnOf "_law_compared" "_law_compared" (defArgs s_law_compared) (defBody s_law_compared) (defScope s_law_compared) .none kV_law_compared dc_law_compared pm_law_compared an_law_compared cd_law_compared ct_law_compared), sl_law_compared⟩)
    (c_law_compared : PySem.W.codeIn K cd_law_compared "_law_compared" = true)
    (k_law_compared : PySem.W.keepIn K (.ref f_law_compared) = true)
    (a_law : PySem.W.nsIn K mainGlobals "law" = some (some (.ref f_law)))
    (l_law : K.lookup f_law = some ⟨oc_law, od_law, .func (PySem.W.fnOf "law" "law" (defArgs s_law) (defBody s_law) (defScope s_law) .none kV_law dc_law pm_law an_law cd_law ct_law), sl_law⟩)
    (c_law : PySem.W.codeIn K cd_law "law" = true)
    (k_law : PySem.W.keepIn K (.ref f_law) = true)
    (pg_Share : PySem.W.plainGet K C_Share Str.empty = true)
    (hd_Share : PySem.W.hasDictIn K C_Share = true)
    (po_Share : PySem.W.plainOver K C_Share = true)
    (sa_Share : PySem.W.findIn K (.ref C_Share) "__setattr__" = some (some (.builtin "object.__setattr__")))
    (mkc_Share : PySem.W.makesIn K C_Share = true)
    (kc_Share : PySem.W.keepIn K (.ref C_Share) = true)
    (sf_Share : PySem.W.selfFirst K C_Share = true)
    (nf_Share : PySem.W.notFirst K C_Share (.ref C_Share) = true)
    (ha_Share : PySem.W.findIn K (.ref C_Share) "__class__" = some (some (.builtin "object.__class__")))
    (hm_Share : PySem.W.mroIn K C_Share (.type "object") = some true)
    (ic_Share : PySem.W.isClsIn K C_Share = true)
    (ty_Share : PySem.W.typeIn K (.ref C_Share) = some (.type "type"))
    (su_Share : PySem.W.subIn K (.type "int") (.ref C_Share) = some false)
    (r1_Share : PySem.W.findIn K (.ref C_Share) (dunderR "mul") = some (some (.ref rr_Share)))
    (r2_Share : PySem.W.findIn K (.type "int") (PySem.dunder "mul") = some (some (.builtin "int.__mul__")))
    (r3_Share : PySem.W.findIn K (.type "int") (dunderR "mul") = some ri_Share)
    (r4_Share : PySem.W.subIn K (.type "int") (.ref C_Share) = some false)
    (r5_Share : PySem.W.subIn K (.ref C_Share) (.type "int") = some false)
    (na_Share_num : PySem.W.findIn K (.ref C_Share) "num" = some none)
    (na_Share_den : PySem.W.findIn K (.ref C_Share) "den" = some none)
    (hn_get : PySem.W.specialIn K (.builtin "object.__class__") "__get__" = some (some (.builtin "getset_descriptor.__get__")))
    (ht_get : PySem.W.takesIn K (.builtin "object.__class__") = some true)
    (z_gcd : PySem.W.nsIn K mainGlobals "gcd" = some (some (.builtin "math.gcd")))
    (z_isinstance : PySem.W.nsIn K mainGlobals "isinstance" = some none)
    (z_int : PySem.W.nsIn K mainGlobals "int" = some none)
    (z_abs : PySem.W.nsIn K mainGlobals "abs" = some none)
    (z_bool : PySem.W.nsIn K mainGlobals "bool" = some none)
    (z_len : PySem.W.nsIn K mainGlobals "len" = some none)
    (z_range : PySem.W.nsIn K mainGlobals "range" = some none)
    : ∃ fd : FuncData, (∀ (s : Shared) (v : Value), BindsTo s fd ⟨[v], []⟩ [("script", v)]) ∧ ∀ base : Heap, K.In base → base.Ns mainGlobals mg → FnOk l.prog w K mg base CX0 6 fa fd ["script"] (spLaw K) := by
  have e := hfa.symm.trans (PySem.W.mg_of X G a_law)
  cases e
  have F_ShareD_initD : FunD K "__init__" "Share.__init__" (defArgs s_ShareD_initD) (defBody s_ShareD_initD) (defScope s_ShareD_initD) [V.int 1] [] f_ShareD_initD _ := ⟨⟨oc_ShareD_initD, od_ShareD_initD, .ref t_ShareD_initD, kV_ShareD_initD, dc_ShareD_initD, pm_ShareD_initD, an_ShareD_initD, cd_ShareD_initD, ct_ShareD_initD, sl_ShareD_initD, rfl, l_ShareD_initD, c_ShareD_initD, .inr ⟨by simp, t_ShareD_initD, to_ShareD_initD, ti_ShareD_initD, tn_ShareD_initD, rfl, t1_ShareD_initD, t2_ShareD_initD, t3_ShareD_initD⟩, .inl rfl⟩, k_ShareD_initD⟩
  have B_ShareD_initD := F_ShareD_initD.binds1 (ps := ["self", "num", "den"]) 3 1 (by simp) rfl fun _ _ _ _ _ _ _ us its hl hd => match us, its, hl, hd with | [_, _, _], [_], _, _ => ⟨_, rfl, rfl⟩
  have B0_ShareD_initD := binds0 B_ShareD_initD
  have B1_ShareD_initD := F_ShareD_initD.binds1 (ps := ["self", "num", "den"]) 2 0 (by simp) rfl fun _ _ _ _ _ _ _ us its hl hd => match us, its, hl, hd with | [_, _], [_], _, _ => ⟨_, rfl, rfl⟩
  have F_Share_below := fun_mk (st := s_Share_below) l_Share_below c_Share_below k_Share_below
  have B_Share_below := F_Share_below.binds (ps := ["self", "other"]) fun _ _ _ _ _ _ us hl => match us, hl with | [_, _], _ => rfl
  have F_ShareD_addD := fun_mk (st := s_ShareD_addD) l_ShareD_addD c_ShareD_addD k_ShareD_addD
  have B_ShareD_addD := F_ShareD_addD.binds (ps := ["self", "other"]) fun _ _ _ _ _ _ us hl => match us, hl with | [_, _], _ => rfl
  have F_ShareD_subD := fun_mk (st := s_ShareD_subD) l_ShareD_subD c_ShareD_subD k_ShareD_subD
  have B_ShareD_subD := F_ShareD_subD.binds (ps := ["self", "other"]) fun _ _ _ _ _ _ us hl => match us, hl with | [_, _], _ => rfl
  have F_ShareD_mulD := fun_mk (st := s_ShareD_mulD) l_ShareD_mulD c_ShareD_mulD k_ShareD_mulD
  have B_ShareD_mulD := F_ShareD_mulD.binds (ps := ["self", "other"]) fun _ _ _ _ _ _ us hl => match us, hl with | [_, _], _ => rfl
  have F_ShareD_rmulD := fun_mk (st := s_ShareD_rmulD) l_ShareD_rmulD c_ShareD_rmulD k_ShareD_rmulD
  have B_ShareD_rmulD := F_ShareD_rmulD.binds (ps := ["self", "other"]) fun _ _ _ _ _ _ us hl => match us, hl with | [_, _], _ => rfl
  have F_ShareD_negD := fun_mk (st := s_ShareD_negD) l_ShareD_negD c_ShareD_negD k_ShareD_negD
  have B_ShareD_negD := F_ShareD_negD.binds (ps := ["self"]) fun _ _ _ _ _ _ us hl => match us, hl with | [_], _ => rfl
  have F_ShareD_absD := fun_mk (st := s_ShareD_absD) l_ShareD_absD c_ShareD_absD k_ShareD_absD
  have B_ShareD_absD := F_ShareD_absD.binds (ps := ["self"]) fun _ _ _ _ _ _ us hl => match us, hl with | [_], _ => rfl
  have F_ShareD_boolD := fun_mk (st := s_ShareD_boolD) l_ShareD_boolD c_ShareD_boolD k_ShareD_boolD
  have B_ShareD_boolD := F_ShareD_boolD.binds (ps := ["self"]) fun _ _ _ _ _ _ us hl => match us, hl with | [_], _ => rfl
  have F_ShareD_eqD := fun_mk (st := s_ShareD_eqD) l_ShareD_eqD c_ShareD_eqD k_ShareD_eqD
  have B_ShareD_eqD := F_ShareD_eqD.binds (ps := ["self", "other"]) fun _ _ _ _ _ _ us hl => match us, hl with | [_, _], _ => rfl
  have F_law_cell := fun_mk (st := s_law_cell) l_law_cell c_law_cell k_law_cell
  have B_law_cell := F_law_cell.binds (ps := ["script", "k"]) fun _ _ _ _ _ _ us hl => match us, hl with | [_, _], _ => rfl
  have F_law_pool := fun_mk (st := s_law_pool) l_law_pool c_law_pool k_law_pool
  have B_law_pool := F_law_pool.binds (ps := ["script", "k", "count"]) fun _ _ _ _ _ _ us hl => match us, hl with | [_, _, _], _ => rfl
  have F_law_whole := fun_mk (st := s_law_whole) l_law_whole c_law_whole k_law_whole
  have B_law_whole := F_law_whole.binds (ps := ["pool", "i"]) fun _ _ _ _ _ _ us hl => match us, hl with | [_, _], _ => rfl
  have F_law_wide := fun_mk (st := s_law_wide) l_law_wide c_law_wide k_law_wide
  have B_law_wide := F_law_wide.binds (ps := ["pool", "at"]) fun _ _ _ _ _ _ us hl => match us, hl with | [_, _], _ => rfl
  have F_law_common := fun_mk (st := s_law_common) l_law_common c_law_common k_law_common
  have B_law_common := F_law_common.binds (ps := ["one", "other"]) fun _ _ _ _ _ _ us hl => match us, hl with | [_, _], _ => rfl
  have F_law_is := fun_mk (st := s_law_is) l_law_is c_law_is k_law_is
  have B_law_is := F_law_is.binds (ps := ["found", "num", "den"]) fun _ _ _ _ _ _ us hl => match us, hl with | [_, _, _], _ => rfl
  have F_law_sums := fun_mk (st := s_law_sums) l_law_sums c_law_sums k_law_sums
  have B_law_sums := F_law_sums.binds (ps := ["x", "y", "a", "b", "c", "d"]) fun _ _ _ _ _ _ us hl => match us, hl with | [_, _, _, _, _, _], _ => rfl
  have F_law_products := fun_mk (st := s_law_products) l_law_products c_law_products k_law_products
  have B_law_products := F_law_products.binds (ps := ["x", "y", "k", "a", "b", "c", "d"]) fun _ _ _ _ _ _ us hl => match us, hl with | [_, _, _, _, _, _, _], _ => rfl
  have F_law_compared := fun_mk (st := s_law_compared) l_law_compared c_law_compared k_law_compared
  have B_law_compared := F_law_compared.binds (ps := ["x", "y", "a", "b", "c", "d"]) fun _ _ _ _ _ _ us hl => match us, hl with | [_, _, _, _, _, _], _ => rfl
  have F_law := fun_mk (st := s_law) l_law c_law k_law
  have B_law := F_law.binds (ps := ["script"]) fun _ _ _ _ _ _ us hl => match us, hl with | [_], _ => rfl
  let T : Txt K mg := {
    f_ShareD_initD := f_ShareD_initD, fd_ShareD_initD := _, F_ShareD_initD := F_ShareD_initD, b_ShareD_initD := B0_ShareD_initD,
    ds1_ShareD_initD := B1_ShareD_initD.choose, d1_ShareD_initD := B1_ShareD_initD.choose_spec.1, b1_ShareD_initD := B1_ShareD_initD.choose_spec.2,
    f_Share_below := f_Share_below, fd_Share_below := _, F_Share_below := F_Share_below, b_Share_below := B_Share_below,
    f_ShareD_addD := f_ShareD_addD, fd_ShareD_addD := _, F_ShareD_addD := F_ShareD_addD, b_ShareD_addD := B_ShareD_addD,
    f_ShareD_subD := f_ShareD_subD, fd_ShareD_subD := _, F_ShareD_subD := F_ShareD_subD, b_ShareD_subD := B_ShareD_subD,
    f_ShareD_mulD := f_ShareD_mulD, fd_ShareD_mulD := _, F_ShareD_mulD := F_ShareD_mulD, b_ShareD_mulD := B_ShareD_mulD,
    f_ShareD_rmulD := f_ShareD_rmulD, fd_ShareD_rmulD := _, F_ShareD_rmulD := F_ShareD_rmulD, b_ShareD_rmulD := B_ShareD_rmulD,
    f_ShareD_negD := f_ShareD_negD, fd_ShareD_negD := _, F_ShareD_negD := F_ShareD_negD, b_ShareD_negD := B_ShareD_negD,
    f_ShareD_absD := f_ShareD_absD, fd_ShareD_absD := _, F_ShareD_absD := F_ShareD_absD, b_ShareD_absD := B_ShareD_absD,
    f_ShareD_boolD := f_ShareD_boolD, fd_ShareD_boolD := _, F_ShareD_boolD := F_ShareD_boolD, b_ShareD_boolD := B_ShareD_boolD,
    f_ShareD_eqD := f_ShareD_eqD, fd_ShareD_eqD := _, F_ShareD_eqD := F_ShareD_eqD, b_ShareD_eqD := B_ShareD_eqD,
    f_law_cell := f_law_cell, fd_law_cell := _, F_law_cell := F_law_cell, b_law_cell := B_law_cell,
    g_law_cell := PySem.W.mg_of X G a_law_cell,
    f_law_pool := f_law_pool, fd_law_pool := _, F_law_pool := F_law_pool, b_law_pool := B_law_pool,
    g_law_pool := PySem.W.mg_of X G a_law_pool,
    f_law_whole := f_law_whole, fd_law_whole := _, F_law_whole := F_law_whole, b_law_whole := B_law_whole,
    g_law_whole := PySem.W.mg_of X G a_law_whole,
    f_law_wide := f_law_wide, fd_law_wide := _, F_law_wide := F_law_wide, b_law_wide := B_law_wide,
    g_law_wide := PySem.W.mg_of X G a_law_wide,
    f_law_common := f_law_common, fd_law_common := _, F_law_common := F_law_common, b_law_common := B_law_common,
    g_law_common := PySem.W.mg_of X G a_law_common,
    f_law_is := f_law_is, fd_law_is := _, F_law_is := F_law_is, b_law_is := B_law_is,
    g_law_is := PySem.W.mg_of X G a_law_is,
    f_law_sums := f_law_sums, fd_law_sums := _, F_law_sums := F_law_sums, b_law_sums := B_law_sums,
    g_law_sums := PySem.W.mg_of X G a_law_sums,
    f_law_products := f_law_products, fd_law_products := _, F_law_products := F_law_products, b_law_products := B_law_products,
    g_law_products := PySem.W.mg_of X G a_law_products,
    f_law_compared := f_law_compared, fd_law_compared := _, F_law_compared := F_law_compared, b_law_compared := B_law_compared,
    g_law_compared := PySem.W.mg_of X G a_law_compared,
    f_law := fa, fd_law := _, F_law := F_law, b_law := B_law,
    g_law := PySem.W.mg_of X G a_law,
    C_Share := C_Share, g_Share := PySem.W.mg_of X G g_Share, cl_Share := ⟨pg_Share, hd_Share, po_Share, sa_Share⟩,
    mk_Share := ⟨mkc_Share, a_ShareD_initD, i_ShareD_initD, kc_Share⟩,
    sf_Share := sf_Share, nf_Share := nf_Share, ha_Share := ha_Share, hm_Share := hm_Share, kit_Share := kit_self K _, kii_Share := kit_other ic_Share ty_Share su_Share,
    rm_Share := ⟨⟨rr_Share, r1_Share⟩, r2_Share, ⟨ri_Share, r3_Share⟩, r4_Share, r5_Share⟩,
    na_Share_num := na_Share_num,
    na_Share_den := na_Share_den,
    M_Share_below := ⟨a_Share_below, i_Share_below, k_Share_below⟩,
    M_ShareD_addD := ⟨a_ShareD_addD, i_ShareD_addD, k_ShareD_addD⟩,
    M_ShareD_subD := ⟨a_ShareD_subD, i_ShareD_subD, k_ShareD_subD⟩,
    M_ShareD_mulD := ⟨a_ShareD_mulD, i_ShareD_mulD, k_ShareD_mulD⟩,
    M_ShareD_rmulD := ⟨a_ShareD_rmulD, i_ShareD_rmulD, k_ShareD_rmulD⟩,
    M_ShareD_negD := ⟨a_ShareD_negD, i_ShareD_negD, k_ShareD_negD⟩,
    M_ShareD_absD := ⟨a_ShareD_absD, i_ShareD_absD, k_ShareD_absD⟩,
    M_ShareD_boolD := ⟨a_ShareD_boolD, i_ShareD_boolD, k_ShareD_boolD⟩,
    M_ShareD_eqD := ⟨a_ShareD_eqD, i_ShareD_eqD, k_ShareD_eqD⟩,
    hn_get := hn_get, ht_get := ht_get,
    b_gcd := PySem.W.mg_of X G z_gcd,
    b_isinstance := PySem.W.mg_none_of X G z_isinstance,
    b_int := PySem.W.mg_none_of X G z_int,
    b_abs := PySem.W.mg_none_of X G z_abs,
    b_bool := PySem.W.mg_none_of X G z_bool,
    b_len := PySem.W.mg_none_of X G z_len,
    b_range := PySem.W.mg_none_of X G z_range }
  exact ⟨PySem.W.fnOf "law" "law" (defArgs s_law) (defBody s_law) (defScope s_law) .none kV_law dc_law pm_law an_law cd_law ct_law, fun s v => .of_eq rfl, fun base _ _ => ok_law (base := base) T⟩
theorem walk {l : PySem.W.OpenLaw} {q : Program} {loose : List Str} {XP : (Str → Option Value) → Heap → Prop} {YP : World → Heap → Prop} {d : DefRec} {K : Params → PySem.W.Frag} (hn : l.most = some 63) (hdf : d.params.defaults = [])
    (hY : ∀ (w : World) (h : Heap), YP w h → (K w.params).In h)
    (F : ∀ (w : World) (mg : Str → Option Value) (fa : Addr) (h : Heap), (K w.params).In h → h.Ns mainGlobals mg → mg d.name = some (.ref fa) →
      ∃ fd : FuncData, (∀ (s : Shared) (u : Value), BindsTo s fd ⟨[u], []⟩ [("script", u)]) ∧ ∀ base : Heap, (K w.params).In base → base.Ns mainGlobals mg → FnOk l.prog w (K w.params) mg base CX0 6 fa fd ["script"] (spLaw (K w.params))) :
    PySem.W.WalkO q loose XP YP l.row.toRowW d [] (fun f vs => PySem.call f vs) :=
  L2.walk_of (n := 63) (k := 6) (x := "script") (CX := fun _ => CX0) (sp := fun w => spLaw (K w.params)) hn (by decide) hdf ⟨rfl, by decide, by decide⟩ hY F (fun _ _ a ns hl _ hS => ⟨a, ns, rfl, hS, hl, fun _ => rfl⟩) fun _ _ _ _ _ z => z

end K00
open PySem PySem.W PyProof.Rows
set_option maxRecDepth 100000 in
set_option maxHeartbeats 0 in
theorem PySem.Challenge.cw_unbrokenrows_k00_share_arithmetic_holds : PySem.Challenge.rw_unbrokenrows_k00_share_arithmetic.Holds := by
  w_on; o_law; k_head; (case hw => w_witness2)
  k_fill
  refine K00.walk (l := PySem.Challenge.rw_unbrokenrows_k00_share_arithmetic) rfl rfl (fun w h Y => PySem.W.kIn_of Y) ?F
  case F =>
    intro w mg fa h KX G hmg
    refine' K00.all_mk KX G hmg ?g_Share ?a_ShareD_initD ?i_ShareD_initD ?l_ShareD_initD ?c_ShareD_initD ?k_ShareD_initD ?t1_ShareD_initD ?t2_ShareD_initD ?t3_ShareD_initD ?a_Share_below ?i_Share_below ?l_Share_below ?c_Share_below ?k_Share_below ?a_ShareD_addD ?i_ShareD_addD ?l_ShareD_addD ?c_ShareD_addD ?k_ShareD_addD ?a_ShareD_subD ?i_ShareD_subD ?l_ShareD_subD ?c_ShareD_subD ?k_ShareD_subD ?a_ShareD_mulD ?i_ShareD_mulD ?l_ShareD_mulD ?c_ShareD_mulD ?k_ShareD_mulD ?a_ShareD_rmulD ?i_ShareD_rmulD ?l_ShareD_rmulD ?c_ShareD_rmulD ?k_ShareD_rmulD ?a_ShareD_negD ?i_ShareD_negD ?l_ShareD_negD ?c_ShareD_negD ?k_ShareD_negD ?a_ShareD_absD ?i_ShareD_absD ?l_ShareD_absD ?c_ShareD_absD ?k_ShareD_absD ?a_ShareD_boolD ?i_ShareD_boolD ?l_ShareD_boolD ?c_ShareD_boolD ?k_ShareD_boolD ?a_ShareD_eqD ?i_ShareD_eqD ?l_ShareD_eqD ?c_ShareD_eqD ?k_ShareD_eqD ?a_law_cell ?l_law_cell ?c_law_cell ?k_law_cell ?a_law_pool ?l_law_pool ?c_law_pool ?k_law_pool ?a_law_whole ?l_law_whole ?c_law_whole ?k_law_whole ?a_law_wide ?l_law_wide ?c_law_wide ?k_law_wide ?a_law_common ?l_law_common ?c_law_common ?k_law_common ?a_law_is ?l_law_is ?c_law_is ?k_law_is ?a_law_sums ?l_law_sums ?c_law_sums ?k_law_sums ?a_law_products ?l_law_products ?c_law_products ?k_law_products ?a_law_compared ?l_law_compared ?c_law_compared ?k_law_compared ?a_law ?l_law ?c_law ?k_law ?pg_Share ?hd_Share ?po_Share ?sa_Share ?mkc_Share ?kc_Share ?sf_Share ?nf_Share ?ha_Share ?hm_Share ?ic_Share ?ty_Share ?su_Share ?r1_Share ?r2_Share ?r3_Share ?r4_Share ?r5_Share ?na_Share_num ?na_Share_den ?hn_get ?ht_get ?z_gcd ?z_isinstance ?z_int ?z_abs ?z_bool ?z_len ?z_range
    (case g_Share => k_is)
    (case a_ShareD_initD => k_is)
    (case i_ShareD_initD => k_is)
    (case l_ShareD_initD => k_is)
    (case c_ShareD_initD => k_is)
    (case k_ShareD_initD => k_is)
    (case t1_ShareD_initD => k_is)
    (case t2_ShareD_initD => rfl)
    (case t3_ShareD_initD => exact .cons ⟨_, rfl⟩ .nil)
    (case a_Share_below => k_is)
    (case i_Share_below => k_is)
    (case l_Share_below => k_is)
    (case c_Share_below => k_is)
    (case k_Share_below => k_is)
    (case a_ShareD_addD => k_is)
    (case i_ShareD_addD => k_is)
    (case l_ShareD_addD => k_is)
    (case c_ShareD_addD => k_is)
    (case k_ShareD_addD => k_is)
    (case a_ShareD_subD => k_is)
    (case i_ShareD_subD => k_is)
    (case l_ShareD_subD => k_is)
    (case c_ShareD_subD => k_is)
    (case k_ShareD_subD => k_is)
    (case a_ShareD_mulD => k_is)
    (case i_ShareD_mulD => k_is)
    (case l_ShareD_mulD => k_is)
    (case c_ShareD_mulD => k_is)
    (case k_ShareD_mulD => k_is)
    (case a_ShareD_rmulD => k_is)
    (case i_ShareD_rmulD => k_is)
    (case l_ShareD_rmulD => k_is)
    (case c_ShareD_rmulD => k_is)
    (case k_ShareD_rmulD => k_is)
    (case a_ShareD_negD => k_is)
    (case i_ShareD_negD => k_is)
    (case l_ShareD_negD => k_is)
    (case c_ShareD_negD => k_is)
    (case k_ShareD_negD => k_is)
    (case a_ShareD_absD => k_is)
    (case i_ShareD_absD => k_is)
    (case l_ShareD_absD => k_is)
    (case c_ShareD_absD => k_is)
    (case k_ShareD_absD => k_is)
    (case a_ShareD_boolD => k_is)
    (case i_ShareD_boolD => k_is)
    (case l_ShareD_boolD => k_is)
    (case c_ShareD_boolD => k_is)
    (case k_ShareD_boolD => k_is)
    (case a_ShareD_eqD => k_is)
    (case i_ShareD_eqD => k_is)
    (case l_ShareD_eqD => k_is)
    (case c_ShareD_eqD => k_is)
    (case k_ShareD_eqD => k_is)
    (case a_law_cell => k_is)
    (case l_law_cell => k_is)
    (case c_law_cell => k_is)
    (case k_law_cell => k_is)
    (case a_law_pool => k_is)
    (case l_law_pool => k_is)
    (case c_law_pool => k_is)
    (case k_law_pool => k_is)
    (case a_law_whole => k_is)
    (case l_law_whole => k_is)
    (case c_law_whole => k_is)
    (case k_law_whole => k_is)
    (case a_law_wide => k_is)
    (case l_law_wide => k_is)
    (case c_law_wide => k_is)
    (case k_law_wide => k_is)
    (case a_law_common => k_is)
    (case l_law_common => k_is)
    (case c_law_common => k_is)
    (case k_law_common => k_is)
    (case a_law_is => k_is)
    (case l_law_is => k_is)
    (case c_law_is => k_is)
    (case k_law_is => k_is)
    (case a_law_sums => k_is)
    (case l_law_sums => k_is)
    (case c_law_sums => k_is)
    (case k_law_sums => k_is)
    (case a_law_products => k_is)
    (case l_law_products => k_is)
    (case c_law_products => k_is)
    (case k_law_products => k_is)
    (case a_law_compared => k_is)
    (case l_law_compared => k_is)
    (case c_law_compared => k_is)
    (case k_law_compared => k_is)
    (case a_law => k_is)
    (case l_law => k_is)
    (case c_law => k_is)
    (case k_law => k_is)
    (case pg_Share => k_is)
    (case hd_Share => k_is)
    (case po_Share => k_is)
    (case sa_Share => k_is)
    (case mkc_Share => k_is)
    (case kc_Share => k_is)
    (case sf_Share => k_is)
    (case nf_Share => k_is)
    (case ha_Share => k_is)
    (case hm_Share => k_is)
    (case ic_Share => k_is)
    (case ty_Share => k_is)
    (case su_Share => k_is)
    (case r1_Share => k_is)
    (case r2_Share => k_is)
    (case r3_Share => k_is)
    (case r4_Share => k_is)
    (case r5_Share => k_is)
    (case na_Share_num => k_is)
    (case na_Share_den => k_is)
    (case hn_get => k_is)
    (case ht_get => k_is)
    (case z_gcd => k_is)
    (case z_isinstance => k_is)
    (case z_int => k_is)
    (case z_abs => k_is)
    (case z_bool => k_is)
    (case z_len => k_is)
    (case z_range => k_is)

