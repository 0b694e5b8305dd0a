import PyProof.Rows.All
import Wide.All
import OpenK.AllK
import Wide.FinOn
import KE.KExcIs
import HandS.ForMost
import HandS.Exc
import HandS.ExcOwn
import HandS.ExcInit
import HandS.ExcField
import HandS.HotCalls
import HandS.Wide
import HandS.IsInst
import HandS.Walk
import HandS.Conv
import HandS.Style
import HandS.TupAny
import HandS.Defaults
import HandS.ClsMeth
import HandS.WordsExc
import HandS.Head0
import HandS.Head1
import HandS.Head2
import HandS.HeadEnd
import HandS.HeadHook1
import HandS.HeadHook2
import HandS.HeadHook3
import HandS.HeadHook4
import HandS.ExcIs
import KE.GoesMore
import KE.GoesEnum
import HandS.SortInts
import HandS.Zip
import PySem.Challenge.RW_lastslips_k59_turned_trail
set_option Elab.async false
set_option linter.all false
set_option maxRecDepth 100000
set_option maxHeartbeats 4000000
/-! Pre1: readings step by step (rd_..), facts of the heap (hp, ne), rules by either reading. -/
namespace Rd
open PySem PySem.Spec PyProof.Rows L2
abbrev St := L2.St
section
variable {σ r : St} {H H' H1 H2 : Hp} {Q : VK} {D : Ends} {v x y : V} {te ta tb tc : TE} {t u : TS} {tt tu : TT} {i : Nat}
/-! ### expressions -/
theorem var (h : σ[i]? = some (some v)) (q : Q v H) : tVar i σ H Q := ⟨v, h, q⟩
theorem v0 {a : Option V} (e : a = some v) (q : Q v H) : tVar 0 (a :: r) H Q := ⟨v, by rw [e]; rfl, q⟩
theorem con (q : Q v H) : tC v σ H Q := q
theorem op {f : R2} (h : ta σ H fun x H1 => tb σ H1 fun y H2 => f x y H2 Q) : tOp f ta tb σ H Q := h
theorem un {f : V → Hp → VK → Prop} (h : ta σ H fun x H1 => f x H1 Q) : tUn f ta σ H Q := h
theorem i0 {g : Int → Int → V} {a b : Int} (q : Q (g a b) H) : rI0 g (.int a) (.int b) H Q := ⟨a, b, rfl, rfl, q⟩
theorem ic {C : Int → Int → Prop} {g : Int → Int → V} {a b : Int} (c : C a b) (q : Q (g a b) H) : rI C g (.int a) (.int b) H Q := ⟨a, b, rfl, rfl, c, q⟩
theorem iu {g : Int → V} {a : Int} (q : Q (g a) H) : rU g (.int a) H Q := ⟨a, rfl, q⟩
theorem cll {sp : Sp} {E : St → XK} {ts : TA} (h : ts σ H fun vs H1 => sp vs H1 Q (E σ)) : tCallS sp E ts σ H Q := h
theorem cb {f : List V → Hp → VK → Prop} {ts : TA} (h : ts σ H fun vs H1 => f vs H1 Q) : tCB f ts σ H Q := h
theorem anil {R : List V → Hp → Prop} (q : R [] H) : tNil σ H R := q
theorem acons {ts : TA} {R : List V → Hp → Prop} (h : te σ H fun x H1 => ts σ H1 fun xs H2 => R (x :: xs) H2) : tCons te ts σ H R := h
theorem bm0 {K : PySem.W.Frag} {T : String} {f : V → List V → Hp → VK → Prop} (h : te σ H fun x H1 => tyV K T x H1 ∧ f x [] H1 Q) : tBM0 K T f te σ H Q := h
theorem bm {K : PySem.W.Frag} {T : String} {f : V → List V → Hp → VK → Prop} {ts : TA} (h : te σ H fun x H1 => tyV K T x H1 ∧ ts σ H1 fun xs H2 => f x xs H2 Q) : tBM K T f te ts σ H Q := h
theorem tup {ts : TA} (h : ts σ H fun xs H1 => xs.length ≤ sizeLine ∧ ∀ p, H1 p = none → Q (.ref p) (upd H1 p (.tup xs))) : tTup ts σ H Q := h
theorem lst {ts : TA} (h : ts σ H fun xs H1 => xs.length ≤ sizeLine ∧ ∀ p, H1 p = none → Q (.ref p) (upd H1 p (.lst xs))) : tLst ts σ H Q := h
theorem ife (h : tt σ H fun c H1 => if c = true then ta σ H1 Q else tb σ H1 Q) : tIf tt ta tb σ H Q := h
theorem andV (h : ta σ H fun x H1 => ∃ c, x = .bl c ∧ if c = true then tb σ H1 Q else Q (.bl false) H1) : tAndV ta tb σ H Q := h
theorem orV (h : ta σ H fun x H1 => ∃ c, x = .bl c ∧ if c = true then Q (.bl true) H1 else tb σ H1 Q) : tOrV ta tb σ H Q := h
theorem notV (h : ta σ H fun x H1 => ∃ c, x = .bl c ∧ Q (.bl (!c)) H1) : tNotV ta σ H Q := h
theorem isb {R : Bool → Hp → Prop} {b : Bool} (q : R b H) : ∃ c, V.bl b = .bl c ∧ R c H := ⟨b, rfl, q⟩
theorem isb' {R : Bool → Prop} {b : Bool} (q : R b) : ∃ c, V.bl b = .bl c ∧ R c := ⟨b, rfl, q⟩
/-! ### tests -/
variable {R : Bool → Hp → Prop}
theorem test (h : te σ H fun x H' => ∃ k, x = .bl k ∧ R k H') : tTest te σ H R := h
theorem tB (h : te σ H fun x H' => ∃ k, x = .bl k ∧ R k H') : L2.tB te σ H R := h
theorem and (h : tt σ H fun c H1 => if c = true then tu σ H1 R else R false H1) : tAnd tt tu σ H R := h
theorem or (h : tt σ H fun c H1 => if c = true then R true H1 else tu σ H1 R) : tOr tt tu σ H R := h
theorem not (h : tt σ H fun c H1 => R (!c) H1) : tNot tt σ H R := h
/-! ### what a test's answer decides -/
theorem yes {A B : Prop} (q : A) : if true = true then A else B := by rw [if_pos rfl]; exact q
theorem no {A B : Prop} (q : B) : if false = true then A else B := by rw [if_neg Bool.false_ne_true]; exact q
theorem nyes {A B : Prop} (q : B) : if (!true) = true then A else B := q
theorem nno {A B : Prop} (q : A) : if (!false) = true then A else B := q
theorem dyes {A B P : Prop} [Decidable P] (h : P) (q : A) : if decide P = true then A else B := by rw [decide_eq_true h, if_pos rfl]; exact q
theorem dno {A B P : Prop} [Decidable P] (h : ¬ P) (q : B) : if decide P = true then A else B := by rw [decide_eq_false h, if_neg Bool.false_ne_true]; exact q
theorem dnyes {A B P : Prop} [Decidable P] (h : ¬ P) (q : A) : if (!decide P) = true then A else B := by rw [decide_eq_false h, Bool.not_false, if_pos rfl]; exact q
theorem dnno {A B P : Prop} [Decidable P] (h : P) (q : B) : if (!decide P) = true then A else B := by rw [decide_eq_true h, Bool.not_true, if_neg Bool.false_ne_true]; exact q
theorem ways {A B P : Prop} [Decidable P] (h1 : P → A) (h2 : ¬ P → B) : if decide P = true then A else B := by
  by_cases h : P
  · exact dyes h (h1 h)
  · exact dno h (h2 h)
theorem nways {A B P : Prop} [Decidable P] (h1 : ¬ P → A) (h2 : P → B) : if (!decide P) = true then A else B := by
  by_cases h : P
  · exact dnno h (h2 h)
  · exact dnyes h (h1 h)
theorem bways {A B : Prop} {b : Bool} (h1 : b = true → A) (h2 : b = false → B) : if b = true then A else B := by
  cases b with
  | true => exact yes (h1 rfl)
  | false => exact no (h2 rfl)
/-! ### statements -/
theorem seq (h : t { D with nx := u D } σ H) : tSeq t u D σ H := h
theorem nxt (q : D.nx σ H) : tNext D σ H := q
theorem ifs (h : tt σ H fun b H1 => if b = true then t D σ H1 else u D σ H1) : tIfS tt t u D σ H := h
theorem ret (h : te σ H D.rt) : tRet te D σ H := h
theorem retN (h : D.rt .non H) : tRetN D σ H := h
theorem drop (h : te σ H fun _ H1 => D.nx σ H1) : tDrop te D σ H := h
theorem brk (h : D.bk σ H) : tBreak D σ H := h
theorem cnt (h : D.ct σ H) : tCont D σ H := h
theorem asg {g : TG} (h : te σ H fun x H1 => g x σ H1 D.nx) : tAsg te g D σ H := h
theorem gsub {to ti : TE} {ts : TSet} {R : St → Hp → Prop} (h : to σ H fun o H1 => ti σ H1 fun i H2 => ts o i v H2 fun H3 => R σ H3) : gSub to ti ts v σ H R := h
variable {a b c d e f g h j k l m n o p q : Option V} {S : St → Hp → Prop}
theorem g0 (z : S (some v :: r) H) : gName 0 v (a :: r) H S := z
theorem g1 (z : S (a :: some v :: r) H) : gName 1 v (a :: b :: r) H S := z
theorem g2 (z : S (a :: b :: some v :: r) H) : gName 2 v (a :: b :: c :: r) H S := z
theorem g3 (z : S (a :: b :: c :: some v :: r) H) : gName 3 v (a :: b :: c :: d :: r) H S := z
theorem g4 (z : S (a :: b :: c :: d :: some v :: r) H) : gName 4 v (a :: b :: c :: d :: e :: r) H S := z
theorem g5 (z : S (a :: b :: c :: d :: e :: some v :: r) H) : gName 5 v (a :: b :: c :: d :: e :: f :: r) H S := z
theorem g6 (z : S (a :: b :: c :: d :: e :: f :: some v :: r) H) : gName 6 v (a :: b :: c :: d :: e :: f :: g :: r) H S := z
theorem g7 (z : S (a :: b :: c :: d :: e :: f :: g :: some v :: r) H) : gName 7 v (a :: b :: c :: d :: e :: f :: g :: h :: r) H S := z
theorem g8 (z : S (a :: b :: c :: d :: e :: f :: g :: h :: some v :: r) H) : gName 8 v (a :: b :: c :: d :: e :: f :: g :: h :: j :: r) H S := z
theorem g9 (z : S (a :: b :: c :: d :: e :: f :: g :: h :: j :: some v :: r) H) : gName 9 v (a :: b :: c :: d :: e :: f :: g :: h :: j :: k :: r) H S := z
theorem g10 (z : S (a :: b :: c :: d :: e :: f :: g :: h :: j :: k :: some v :: r) H) : gName 10 v (a :: b :: c :: d :: e :: f :: g :: h :: j :: k :: l :: r) H S := z
theorem g11 (z : S (a :: b :: c :: d :: e :: f :: g :: h :: j :: k :: l :: some v :: r) H) : gName 11 v (a :: b :: c :: d :: e :: f :: g :: h :: j :: k :: l :: m :: r) H S := z
theorem g12 (z : S (a :: b :: c :: d :: e :: f :: g :: h :: j :: k :: l :: m :: some v :: r) H) : gName 12 v (a :: b :: c :: d :: e :: f :: g :: h :: j :: k :: l :: m :: n :: r) H S := z
theorem g13 (z : S (a :: b :: c :: d :: e :: f :: g :: h :: j :: k :: l :: m :: n :: some v :: r) H) : gName 13 v (a :: b :: c :: d :: e :: f :: g :: h :: j :: k :: l :: m :: n :: o :: r) H S := z
theorem g14 (z : S (a :: b :: c :: d :: e :: f :: g :: h :: j :: k :: l :: m :: n :: o :: some v :: r) H) : gName 14 v (a :: b :: c :: d :: e :: f :: g :: h :: j :: k :: l :: m :: n :: o :: p :: r) H S := z
theorem g15 (z : S (a :: b :: c :: d :: e :: f :: g :: h :: j :: k :: l :: m :: n :: o :: p :: some v :: r) H) : gName 15 v (a :: b :: c :: d :: e :: f :: g :: h :: j :: k :: l :: m :: n :: o :: p :: q :: r) H S := z
end
/-! ### either reading -/
def tOr2 (t u : TE) : TE := fun σ H Q => t σ H Q ∨ u σ H Q
def rOr2 (r s : R2) : R2 := fun x y H Q => r x y H Q ∨ s x y H Q
def iOr2 (w w' : TI) : TI := fun σ H R => w σ H R ∨ w' σ H R
section
variable {X : Cx} {r s : R2} {tg e : Expr} {w w' : TI} {t u : TE}
theorem pe_or2 (h1 : PE X e t) (h2 : PE X e u) : PE X e (tOr2 t u) := ⟨fun pins s σ H Q I h => h.elim (h1.run pins s σ H Q I) (h2.run pins s σ H Q I)⟩
theorem pi_or2 (h1 : PI X tg e w) (h2 : PI X tg e w') : PI X tg e (iOr2 w w') := ⟨fun pins s σ H R I h => h.elim (h1.run pins s σ H R I) (h2.run pins s σ H R I)⟩
theorem op_or2 {f : Value → Value → Sem Value} (h1 : OpR X f r) (h2 : OpR X f s) : OpR X f (rOr2 r s) := fun pins st σ H x y v u Q I rx ry h => h.elim (h1 pins st σ H x y v u Q I rx ry) (h2 pins st σ H x y v u Q I rx ry)
/-- + of ints, of lists, of tuples -/
def rPlus (K : PySem.W.Frag) : R2 := rOr2 (rI0 fun i j => .int (i + j)) (rOr2 rCat (rCatA K))
theorem op_plus : OpR X (binaryOp .Add) (rPlus X.K) := op_or2 op_add (op_or2 op_cat op_catA)
/-- * of ints of any size, of a list and an int -/
def rTimes : R2 := rOr2 (rI CMulW fun i j => .int (i * j)) rRep
theorem op_times : OpR X (binaryOp .Mult) rTimes := op_or2 op_mulW op_rep
/-- == of scalars, of data at any depth -/
def rSame (K : PySem.W.Frag) : R2 := rOr2 rEq (rEqD K)
def rUnlike (K : PySem.W.Frag) : R2 := rOr2 rNe (rNeD K)
theorem op_same (hu : X.A.units + 64 < cLine) : OpR X (compareOp .Eq) (rSame X.K) := op_or2 op_eq (op_eqD hu)
theorem op_unlike (hu : X.A.units + 64 < cLine) : OpR X (compareOp .NotEq) (rUnlike X.K) := op_or2 op_ne (op_neD hu)
end
section
variable {K : PySem.W.Frag} {H : Hp} {Q : VK} {x y : V} {a b : Int} {σ : St} {t u : TE}
theorem plus (q : Q (.int (a + b)) H) : rPlus K (.int a) (.int b) H Q := .inl ⟨a, b, rfl, rfl, q⟩
theorem plusL {l m : Addr} {xs ys : List V} (hl : H l = some (.lst xs)) (hm : H m = some (.lst ys)) (z : xs.length + ys.length ≤ sizeLine) (q : ∀ p, H p = none → Q (.ref p) (upd H p (.lst (xs ++ ys)))) : rPlus K (.ref l) (.ref m) H Q :=
  .inr (.inl ⟨l, m, xs, ys, rfl, rfl, hl, hm, z, q⟩)
theorem times (c : a.natAbs.log2 + b.natAbs.log2 < 1000000) (q : Q (.int (a * b)) H) : rTimes (.int a) (.int b) H Q := .inl ⟨a, b, rfl, rfl, c, q⟩
theorem timesL {l : Addr} {xs : List V} {k : Int} (hl : H l = some (.lst xs)) (h1 : -(2 ^ 63) ≤ k) (h2 : k < 2 ^ 63) (z : xs.length * k.toNat ≤ sizeLine) (q : ∀ p, H p = none → Q (.ref p) (upd H p (.lst (List.replicate k.toNat xs).flatten))) : rTimes (.ref l) (.int k) H Q := by
  refine .inr ?_
  refine ⟨l, k, xs, rfl, rfl, hl, h1, h2, z, ?_⟩
  exact q
theorem eqv (h : scal x y = true) (q : Q (.bl (decide (x = y))) H) : rSame K x y H Q := .inl ⟨h, q⟩
theorem nev (h : scal x y = true) (q : Q (.bl (!decide (x = y))) H) : rUnlike K x y H Q := .inl ⟨h, q⟩
theorem eqi (q : Q (.bl (decide (a = b))) H) : rSame K (.int a) (.int b) H Q := .inl ⟨rfl, by
  have e : decide (V.int a = V.int b) = decide (a = b) := by by_cases h : a = b <;> simp [h]
  rw [e]; exact q⟩
theorem nei (q : Q (.bl (!decide (a = b))) H) : rUnlike K (.int a) (.int b) H Q := .inl ⟨rfl, by
  have e : decide (V.int a = V.int b) = decide (a = b) := by by_cases h : a = b <;> simp [h]
  rw [e]; exact q⟩
theorem eqd {d e : PyData} (hx : Dp K H x d) (hy : Dp K H y e) (sd : SeqAt.shaped d = true) (se : SeqAt.shaped e = true) (q : Q (.bl (PyData.eqv d e)) H) : rSame K x y H Q := .inr ⟨d, e, hx, hy, sd, se, q⟩
theorem ned {d e : PyData} (hx : Dp K H x d) (hy : Dp K H y e) (sd : SeqAt.shaped d = true) (se : SeqAt.shaped e = true) (q : Q (.bl (!PyData.eqv d e)) H) : rUnlike K x y H Q := .inr ⟨d, e, hx, hy, sd, se, q⟩
theorem ixL {p : Addr} {xs : List V} {i : Int} {v : V} (h : SqL K H p xs) (z : atI xs i = some v) (q : Q v H) : rIx K (.ref p) (.int i) H Q := .inl ⟨p, xs, i, v, rfl, rfl, h, z, q⟩
theorem ixT {p : Addr} {xs : List V} {i : Int} {v : V} (h : SqT K H p xs) (z : atI xs i = some v) (q : Q v H) : rIx K (.ref p) (.int i) H Q := .inr (.inl ⟨p, xs, i, v, rfl, rfl, h, z, q⟩)
/-- a list or a tuple -/
def Sq (K : PySem.W.Frag) (H : Hp) (p : Addr) (xs : List V) : Prop := SqL K H p xs ∨ SqT K H p xs
theorem ix {p : Addr} {xs : List V} {i : Int} {v : V} (h : Sq K H p xs) (z : atI xs i = some v) (q : Q v H) : rIx K (.ref p) (.int i) H Q := h.elim (fun h => ixL h z q) (fun h => ixT h z q)
theorem setL {p : Addr} {xs : List V} {k : Int} {j : Nat} {v : V} {R : Hp → Prop} (h : H p = some (.lst xs)) (z : ixN xs.length k = some j) (q : R (upd H p (.lst (xs.set j v)))) : rSetL (.ref p) (.int k) v H R := ⟨p, xs, k, j, rfl, rfl, h, z, q⟩
theorem app {l : Addr} {xs : List V} {y : V} (h : H l = some (.lst xs)) (z : xs.length < sizeLine) (q : Q .non (upd H l (.lst (xs ++ [y])))) : rAppend (.ref l) [y] H Q := ⟨l, xs, y, rfl, rfl, h, z, q⟩
theorem tyL {l : Addr} {xs : List V} {R : Prop} (h : SqL K H l xs) (q : R) : tyV K "list" (.ref l) H ∧ R := ⟨.inl ⟨rfl, xs, h⟩, q⟩
end
/-! ### heaps -/
/-- all tracked but a as it was -/
def But (a : Addr) (H H' : Hp) : Prop := ∀ b o, b ≠ a → H b = some o → H' b = some o
theorem But.of {a : Addr} {H H' : Hp} (s : Same H H') : But a H H' := fun b o _ h => s b o h
theorem But.refl (a : Addr) (H : Hp) : But a H H := fun _ _ _ h => h
theorem But.trans {a : Addr} {H H1 H2 : Hp} (s : But a H H1) (t : But a H1 H2) : But a H H2 := fun b o n h => t b o n (s b o n h)
theorem But.upd {a : Addr} {H : Hp} {o : HO} : But a H (upd H a o) := fun b u n h => by rw [upd_ne n]; exact h
theorem But.new {a p : Addr} {H H1 : Hp} {o : HO} (s : But a H H1) (n : H1 p = none) : But a H (L2.upd H1 p o) := fun b u m h => by
  rw [upd_ne (ne_of_none (s b u m h) n)]; exact s b u m h
theorem Same.new {H : Hp} {p : Addr} {o : HO} (n : H p = none) : Same H (upd H p o) := fun b u h => by rw [upd_ne (ne_of_none h n)]; exact h
/-- a new object may change -/
theorem Same.own {H H1 : Hp} {p : Addr} {o : HO} (s : Same H H1) (n : H p = none) : Same H (upd H1 p o) := fun b u h => by rw [upd_ne (ne_of_none h n)]; exact s b u h
theorem go {H H' : Hp} {a : Addr} {o : HO} (s : Same H H') (h : H a = some o) : H' a = some o := s a o h
theorem goB {H H' : Hp} {x a : Addr} {o : HO} (s : But x H H') (n : a ≠ x) (h : H a = some o) : H' a = some o := s a o n h
theorem goU {H : Hp} {p a : Addr} {o u : HO} (n : a ≠ p) (h : H a = some u) : upd H p o a = some u := by rw [upd_ne n]; exact h
theorem But.free {x p : Addr} {H H' : Hp} (s : But x H H') (n : p ≠ x) (h : H' p = none) : H p = none := by
  cases q : H p with
  | none => rfl
  | some o => rw [s p o n q] at h; cases h
theorem free_upd {H : Hp} {a p : Addr} {o : HO} (h : upd H a o p = none) : H p = none ∧ p ≠ a := by
  by_cases e : p = a
  · rw [e, upd_same] at h; cases h
  · rw [upd_ne e] at h; exact ⟨h, e⟩
theorem sqL {K : PySem.W.Frag} {H : Hp} {a : Addr} {xs : List V} (h : H a = some (.lst xs)) : SqL K H a xs := .inl (.inl h)
theorem sqT {K : PySem.W.Frag} {H : Hp} {a : Addr} {xs : List V} (h : H a = some (.tup xs)) : SqT K H a xs := .inl (.inl h)
theorem Sq.l {K : PySem.W.Frag} {H : Hp} {a : Addr} {xs : List V} (h : H a = some (.lst xs)) : Sq K H a xs := .inl (.inl (.inl h))
theorem Sq.t {K : PySem.W.Frag} {H : Hp} {a : Addr} {xs : List V} (h : H a = some (.tup xs)) : Sq K H a xs := .inr (.inl (.inl h))
theorem goRd {H H' : Hp} {a : Addr} {u : HO} (s : Same H H') (h : Rd H a u) : Rd H' a u := h.elim (fun h => .inl (s _ _ h)) (fun ⟨o, h⟩ => .inr ⟨o, s _ _ h⟩)
theorem goSqL {K : PySem.W.Frag} {H H' : Hp} {a : Addr} {xs : List V} (s : Same H H') (h : SqL K H a xs) : SqL K H' a xs := h.elim (fun h => .inl (goRd s h)) .inr
theorem goSqT {K : PySem.W.Frag} {H H' : Hp} {a : Addr} {xs : List V} (s : Same H H') (h : SqT K H a xs) : SqT K H' a xs := h.elim (fun h => .inl (goRd s h)) .inr
theorem goSq {K : PySem.W.Frag} {H H' : Hp} {a : Addr} {xs : List V} (s : Same H H') (h : Sq K H a xs) : Sq K H' a xs := h.elim (fun h => .inl (goSqL s h)) (fun h => .inr (goSqT s h))
theorem goRdB {H H' : Hp} {x a : Addr} {u : HO} (s : But x H H') (n : a ≠ x) (h : Rd H a u) : Rd H' a u := h.elim (fun h => .inl (s _ _ n h)) (fun ⟨o, h⟩ => .inr ⟨o, s _ _ n h⟩)
theorem goSqLB {K : PySem.W.Frag} {H H' : Hp} {x a : Addr} {xs : List V} (s : But x H H') (n : a ≠ x) (h : SqL K H a xs) : SqL K H' a xs := h.elim (fun h => .inl (goRdB s n h)) .inr
theorem goSqTB {K : PySem.W.Frag} {H H' : Hp} {x a : Addr} {xs : List V} (s : But x H H') (n : a ≠ x) (h : SqT K H a xs) : SqT K H' a xs := h.elim (fun h => .inl (goRdB s n h)) .inr
theorem Sq.len {K : PySem.W.Frag} {X : Cx} {pins : List (Addr × Obj)} {σ : St} {H : Hp} {s : Shared} {a : Addr} {xs : List V} (I : Inv X pins σ H s) (h : Sq X.K H a xs) : xs.length ≤ sizeLine := h.elim (fun h => by obtain ⟨_, _, _, z⟩ := I.list h; exact z) (fun h => by obtain ⟨_, _, _, z⟩ := I.tuple h; exact z)
end Rd

set_option Elab.async false
set_option linter.all false
set_option maxRecDepth 100000
set_option maxHeartbeats 4000000
/-! Pre2: rules that the layer lacks: t[::-1] of a tuple, xs[i] op= e of a list, enumerate of a tuple, count of truth values. -/
namespace Rd
open PySem PySem.Spec PyProof.Rows L2
/-! ### t[::-1], t a tuple -/
section
variable {prog : Program} {w : World} {A : Around} {E : Value → Shared → Prop} {s : Shared}
theorem adjust_back (n : Nat) : Builtin.Slice.sliceAdjust none none (-1) (n : Int) = ((n : Int) - 1, -1) := by
  unfold Builtin.Slice.sliceAdjust
  simp
theorem places_back (n : Nat) : Builtin.Slice.slicePlaces ((n : Int) - 1) (-1) (-1) = n := by
  unfold Builtin.Slice.slicePlaces
  rw [if_neg (by decide)]
  by_cases h : (n : Int) - 1 > -1
  · rw [if_pos h, show (- -1 : Int) = 1 from rfl, Int.ediv_one]
    omega
  · rw [if_neg h]
    omega
theorem fm_congr {α β : Type} {f g : α → Option β} : ∀ {l : List α}, (∀ x, x ∈ l → f x = g x) → l.filterMap f = l.filterMap g
  | [], _ => rfl
  | x :: l, h => by
    have ih := fm_congr (l := l) fun y hy => h y (List.mem_cons_of_mem _ hy)
    rw [List.filterMap_cons, List.filterMap_cons, h x List.mem_cons_self, ih]
theorem fm_all {α : Type} : ∀ (ys : List α), (List.range ys.length).filterMap (fun k => ys[k]?) = ys
  | [] => rfl
  | y :: ys => by
    have ih := fm_all ys
    rw [List.length_cons, List.range_succ_eq_map, List.filterMap_cons, List.filterMap_map]
    show y :: (List.range ys.length).filterMap (fun k => (y :: ys)[k + 1]?) = y :: ys
    have e : (List.range ys.length).filterMap (fun k => (y :: ys)[k + 1]?) = (List.range ys.length).filterMap (fun k => ys[k]?) := fm_congr fun k _ => by simp
    rw [e, ih]
theorem pick_back (xs : List Value) : ((List.range xs.length).filterMap fun (k : Nat) => xs.toArray[(((xs.length : Int) - 1) + (k : Int) * (-1)).toNat]?).toArray = xs.reverse.toArray := by
  congr 1
  have e : (List.range xs.length).filterMap (fun (k : Nat) => xs.toArray[(((xs.length : Int) - 1) + (k : Int) * (-1)).toNat]?) = (List.range xs.length).filterMap (fun k => xs.reverse[k]?) := by
    apply fm_congr
    intro k hk
    have hk' := List.mem_range.mp hk
    rw [List.getElem?_reverse hk']
    have e1 : (((xs.length : Int) - 1) + (k : Int) * (-1)).toNat = xs.length - 1 - k := by omega
    rw [e1]
    simp
  rw [e]
  have := fm_all xs.reverse
  rw [List.length_reverse] at this
  exact this
theorem applied_back {sl : Addr} {vs : Value} {n : Nat} {Q : Int × Int × Nat → Shared → Prop} (hs : s.heap.IsSliceOf sl .none .none vs) (ps : IsPart vs (some (-1)))
    (h : Q ((n : Int) - 1, -1, n) s) : wpAny (model prog w) A (Builtin.Slice.sliceApplied (.ref sl) (pure (n : Int))) Q E s := by
  obtain ⟨o, ho, _, hd⟩ := hs
  unfold Builtin.Slice.sliceApplied
  unfold Builtin.Slice.sliceFields
  refine wpAny_bind (wpAny_bind (wpAny_field ho hd (x := .none) rfl ?_))
  refine wpAny_bind (wpAny_field ho hd (x := .none) rfl (wpAny_bind (wpAny_field ho hd (x := vs) rfl (wpAny_pure ?_))))
  refine wpAny_bind (HT.slicePart_ ps ?_)
  show wpAny _ _ (if ((-1 : Int) == 0) = true then _ else _) _ _ s
  rw [if_neg (by decide)]
  refine wpAny_bind (slicePart_none (wpAny_bind (slicePart_none (wpAny_bind (wpAny_pure ?_)))))
  show wpAny _ _ (match Builtin.Slice.sliceAdjust none none (-1) (n : Int) with | (lo, hi) => pure (lo, (-1 : Int), Builtin.Slice.slicePlaces lo hi (-1))) _ _ s
  rw [adjust_back]
  show wpAny _ _ (pure ((n : Int) - 1, (-1 : Int), Builtin.Slice.slicePlaces ((n : Int) - 1) (-1) (-1))) _ _ s
  rw [places_back]
  exact wpAny_pure h
theorem getItem_back {t sl : Addr} {its : List Value} {vs : Value} {Q : Value → Shared → Prop} (ht : IsTup s.heap t its.toArray) (hs : s.heap.IsSliceOf sl .none .none vs) (ps : IsPart vs (some (-1)))
    (h : Q (.ref s.heap.objs.size) { s with heap := s.heap.push { cls := .type "tuple", data := .seq its.reverse.toArray } }) (hz : its.length ≤ sizeLine) : wpAny (model prog w) A (getItem (.ref t) (.ref sl)) Q E s := by
  have ok : sizeOk (.seq its.reverse.toArray) := by
    show its.reverse.toArray.size ≤ sizeLine
    simpa using hz
  obtain ⟨o, ho, hc, hd⟩ := id hs
  have ty : s.TypeIs (.ref sl) "slice" := ⟨o, ho, hc⟩
  unfold getItem
  try with_reducible refine wpAny_holding ?_
  first | refine wpAny_bind (wpAny_pure ?_) | skip
  refine wpAny_bind (wpAny_sequenceKey ht.typeIs (by decide) (wpAny_bind (wpAny_callSpecial?_slot (name := Str.ofString "__getitem__") ht.typeIs PyProof.Rows.slot_tuple_getitem
    (wpAny_call_entry PyProof.Rows.slot_tuple_getitem ht.typeIs entry_tuple_getitem ?_ (args_tuple_getitem _ _)))))
  show wpAny _ _ (Builtin.Tuple.tupleItemsOf (.ref t) >>= _) _ _ s
  refine wpAny_bind (tupleItemsOf_ ht (wpAny_bind (wpAny_typeOf ty ?_)))
  rw [if_pos (by decide)]
  refine wpAny_bind (applied_back (n := its.toArray.size) hs ps ?_)
  show wpAny _ _ (if (((its.toArray.size : Int) - 1) == 0 && (-1 : Int) == 1 && its.toArray.size == its.toArray.size) = true then _ else _) _ _ s
  rw [if_neg (by simp)]
  have e : ((List.range its.toArray.size).filterMap fun (k : Nat) => its.toArray[(((its.toArray.size : Int) - 1) + (k : Int) * (-1)).toNat]?).toArray = its.reverse.toArray := by
    simpa using pick_back its
  rw [e]
  first
    | exact wpAny_bind (m := Builtin.Tuple.tupleExact _) (wpAny_newObj_type (wpAny_pure ⟨_, rfl, wpAny_pure h⟩) ok)
    | exact wpAny_bind (wpAny_bind (m := Builtin.Tuple.tupleExact _) (wpAny_newObj_type (wpAny_pure ⟨_, rfl, wpAny_pure h⟩) ok))
    | exact wpAny_bind (m := Builtin.Tuple.tupleExact _) (wpAny_newObj_type (wpAny_bind (wpAny_pure (wpAny_pure ⟨_, rfl, wpAny_pure h⟩))) ok)
end
section
variable {X : Cx}
def tRevT (K : PySem.W.Frag) (te : TE) : TE := fun σ H Q => te σ H fun x H1 => ∃ a xs, x = .ref a ∧ SqT K H1 a xs ∧ ∀ p, H1 p = none → Q (.ref p) (upd H1 p (.tup xs.reverse))
theorem pe_revT {e : Expr} {te : TE} {k : Nat} {p1 p2 p3 pos : Pos} (he : PE X e te) : PE X (.Subscript e (.Slice none none (some (.UnaryOp .USub (.Constant (.int 1) k p1) p2)) p3) pos) (tRevT X.K te) := by
  refine ⟨fun pins s σ H Q I h => Subscript_ (thn (he.run pins s σ H _ I h) fun v s1 ⟨x, H1, I1, r1, a, xs, ex, hx, q⟩ => ?_)⟩
  subst ex
  obtain rfl : v = Value.ref a := r1
  have st : PO X (some (.UnaryOp .USub (.Constant (.int 1) k p1) p2)) (tPart (tUn (rU fun i => .int (-i)) (tC (.int 1)))) := po_some (pe_un un_neg pe_int)
  refine wpAny_Slice (thn (po_none.run pins s1 σ H1 (fun o H' => o = none ∧ H' = H1) I1 ⟨rfl, rfl⟩) fun v1 s2 ⟨o1, H2, I2, p1', e1, e2⟩ => ?_)
  subst e1 e2
  refine thn (po_none.run pins s2 σ H2 (fun o H' => o = none ∧ H' = H2) I2 ⟨rfl, rfl⟩) fun v2 s3 ⟨o2, H3, I3, p2', e3, e4⟩ => ?_
  subst e3 e4
  refine thn (st.run pins s3 σ H3 (fun o H' => o = some (-1) ∧ H' = H3) I3 ⟨1, rfl, -1, rfl, rfl, rfl⟩) fun v3 s4 ⟨o3, H4, I4, p3', e5, e6⟩ => ?_
  subst e5 e6
  cases p1'
  cases p2'
  have I5 : Inv X pins σ H4 { s4 with heap := s4.heap.push { cls := .type "slice", data := .fields #[.none, .none, v3] } } := I4.kept (t' := s4.toks) fun b ob z => Heap.get?_push_of_some _ z
  obtain ⟨its, r, ht, hz⟩ := I5.tuple hx
  show wpAny (model X.prog X.w) X.A (subscriptTail e (.Slice none none (some (.UnaryOp .USub (.Constant (.int 1) k p1) p2)) p3) (.ref a) (.ref s4.heap.objs.size)) (EP X pins σ Q) X.xe { s4 with heap := s4.heap.push { cls := .type "slice", data := .fields #[.none, .none, v3] } }
  refine tail_any (ops := [.ref a, .ref s4.heap.objs.size]) ht.typeIs PyProof.Rows.slot_tuple_getitem.lookup ?_ (by with_unfolding_all rfl)
  refine getItem_back ht (Heap.IsSliceOf.new _ _ _ v3) p3' ?_ (by rw [← r.length]; exact hz)
  refine ⟨.ref _, _, I5.laid (t' := s4.toks) (o := .tup xs.reverse) (fun b ob z => Heap.get?_push_of_some _ z) (Nat.le_refl _) ?_, rfl, q _ (I5.hok.fresh (Nat.le_refl _))⟩
  exact ⟨by rw [List.length_reverse]; exact hz, _, r.reverse, IsTup.new _ _⟩
/-! ### xs[i] op= e of a list -/
def rGetL (K : PySem.W.Frag) : V → V → Hp → VK → Prop := fun o i H Q => ∃ (p : Addr) (xs : List V) (j : Nat) (v : V), o = .ref p ∧ i = .int j ∧ SqL K H p xs ∧ xs[j]? = some v ∧ Q v H
theorem pgt_list : PGet X (rGetL X.K) := by
  intro pins s σ H o i ov iv Q I ro ri h
  obtain ⟨p, xs, j, v, rfl, rfl, hq, hv, q⟩ := h
  obtain rfl : ov = Value.ref p := ro
  obtain ⟨t, rfl⟩ := ri
  obtain ⟨its, r, pl, hz⟩ := I.list hq
  obtain ⟨u, eu, ru⟩ := r.get hv
  have hj : j < xs.length := (List.getElem?_eq_some_iff.mp hv).1
  have h63 := line63
  exact wpAny_getItem_list pl.isList (by omega) (by omega) (x := u) (by simpa using eu) ⟨v, H, I, ru, q⟩
/-! ### count of truth values -/
def rCntB (K : PySem.W.Frag) : V → List V → Hp → VK → Prop := fun x xs H Q => ∃ (p : Addr) (bs : List Bool) (k : Bool), x = .ref p ∧ xs = [.bl k] ∧ SqL K H p (bs.map V.bl) ∧ Q (.int (bs.count k : Nat)) H
theorem bools_of : ∀ {bs : List Bool} {us : List Value}, Vals (bs.map V.bl) us → us = bs.map Value.bool
  | [], _, h => by cases h; rfl
  | b :: bs, _, h => by
    cases h with
    | cons r t =>
      rw [show _ = Value.bool b from r, bools_of t]
      rfl
theorem reads_bools (h : Heap) : ∀ bs : List Bool, ∃ as, ReadsAll h (bs.map Value.bool) (bs.map PyData.bool) as
  | [] => ⟨_, .nil⟩
  | b :: bs => by
    obtain ⟨as, q⟩ := reads_bools h bs
    exact ⟨_, .cons (.bool b) q⟩
theorem countIn_bools (k : Bool) : ∀ bs : List Bool, countIn (.bool k) (bs.map PyData.bool) = ((bs.count k : Nat) : Int)
  | [] => rfl
  | b :: bs => by
    have ih := countIn_bools k bs
    rw [List.map_cons, countIn, ih, List.count_cons]
    cases b <;> cases k <;> simp [same] <;> omega
theorem mt_countB : MtR X "list.count" (rCntB X.K) := by
  intro pins s σ H x xs v us Q I rx rxs h
  obtain ⟨p, bs, k, rfl, rfl, hs, q⟩ := h
  obtain rfl : v = Value.ref p := rx
  obtain ⟨u, rfl, ru⟩ := rxs.one
  obtain rfl : u = Value.bool k := ru
  obtain ⟨its, rv, pl, hz⟩ := I.list hs
  obtain ⟨as, ra⟩ := reads_bools s.heap bs
  have e := bools_of rv
  subst e
  refine count_list_bools pl.isList ra (by simp [Shape.has]) ?_
  rw [countIn_bools]
  exact ⟨.int (bs.count k : Nat), H, I.tok _, ⟨s.toks, rfl⟩, q⟩
end
end Rd

set_option Elab.async false
set_option linter.all false
set_option maxRecDepth 100000
set_option maxHeartbeats 4000000
/-! Pre3: enumerate of a tuple. -/
namespace Rd
open PySem PySem.Spec PyProof.Rows L2
section
variable {prog : Program} {w : World} {A : Around} {E : Value → Shared → Prop} {s : Shared}
set_option maxHeartbeats 1000000 in
theorem meets_enumT {v : Value} {o : Obj} {H : Heap → Prop} (B : Begins v o H) :
    Meets (Builtin.«enumerate.__new__» ⟨[.type "enumerate", v], []⟩) (fun _ R s => H s.heap ∧
      R (.ok (.ret (.ref (s.heap.push o).objs.size))) { s with heap := (s.heap.push o).push { cls := .type "enumerate", data := .fields #[.none, .bool false, .ref s.heap.objs.size, rawInt 0, .none, .none] } }) :=
  .of_wp fun prog w A R s h => by
    obtain ⟨hp, g, d, tk, os⟩ := s
    obtain ⟨h1, h⟩ := h
    have hsub := sub_enumerate
    have qi : ∀ {A' : Around} {E : Value → Shared → Prop} {Q : Value → Shared → Prop}, Q (.ref hp.objs.size) ⟨hp.push o, g, d, tk, os⟩ → wpAny (model prog w) A' (pyIter v) Q E ⟨hp, g, d, tk, os⟩ :=
      fun q => B.iter prog w _ _ ⟨hp, g, d, tk, os⟩ _ h1 q
    wp_walk using qi
    refine wpAny_stack_any fun st => wpAny_pure ?_
    split
    · rename_i c _ _ _ _ _
      cases (c == Value.type "enumerate") <;> (wp_walk using qi; exact ⟨_, rfl, h⟩)
    · wp_walk using qi
      exact ⟨_, rfl, h⟩
theorem call_enumB {v : Value} {o : Obj} {H : Heap → Prop} {Q : Value → Shared → Prop} (B : Begins v o H) (h1 : H s.heap)
    (h : ∀ h', IsEnum h' (s.heap.objs.size + 1) s.heap.objs.size 0 .none → h'.get? s.heap.objs.size = some o → (∀ b o, s.heap.get? b = some o → h'.get? b = some o) → Q (.ref (s.heap.objs.size + 1)) { s with heap := h' }) :
    wpAny (model prog w) A (call (.type "enumerate") [v]) Q E s := by
  refine callType_new F.called_enumerate (by decide) (F.typeCall_enumerate_1 _) (F.newCall_enumerate_1 _) (fun obj => F.args_object_init_2 obj _) F.entry_enumerate_new (meets_enumT B) ⟨h1, ?_⟩
  have z : (s.heap.push o).objs.size = s.heap.objs.size + 1 := Heap.size_push ..
  show _ ∧ _
  rw [z]
  have he := Heap.get?_push_size (s.heap.push o) (o := { cls := .type "enumerate", data := .fields #[.none, .bool false, .ref s.heap.objs.size, rawInt 0, .none, .none] }) rfl
  rw [z] at he
  exact ⟨⟨_, he, rfl⟩, h _ he (Heap.get?_push_of_some _ (Heap.get?_push_size _ B.free)) fun b o x => Heap.get?_push_of_some _ (Heap.get?_push_of_some _ x)⟩
theorem wpAny_pyNext_enumT_end {e it l : Addr} {i : Nat} {items : Array Value} {old : Value} {Q : Option Value → Shared → Prop} (hA : A.handled = none) (he : IsEnum s.heap e it i old) (hit : s.heap.IsTupleIter it l i)
    (ht : s.heap.IsTuple l items) (hx : items[i]? = none) (hQ : ∀ h', Heap.ExtBut it s.heap h' → Q none { s with heap := h' }) : wpAny (model prog w) A (pyNext (.ref e)) Q E s := by
  have ty : s.TypeIs (.ref e) "enumerate" := ⟨_, he, rfl⟩
  unfold pyNext
  refine wpAny_bind (wpAny_attempt (wpAny_callSpecial?_slot (name := Str.ofString "__next__") ty F.slot_enumerate_next (wpAny_call_entry F.slot_enumerate_next ty F.entry_enumerate_next ?_ (F.args_enumerate_next_1 _))))
  show wpAny _ _ (field (.ref e) 2 >>= _) _ _ _
  refine wpAny_bind (wpAny_field he rfl (x := .ref it) rfl (wpAny_bind (wpAny_nextOf_tuple_end hA hit ht hx fun h' x ee ⟨o, ho, hc⟩ => ?_)))
  exact wpAny_bind (wpAny_isInstance (T := "StopIteration") (b := true) ⟨o, ho, hc⟩ isSubtype_stop (wpAny_pure (hQ _ ee)))
end
/-- the tuple at a, each item in a new pair -/
def IteT (K : PySem.W.Frag) (a : Addr) : It :=
  ⟨fun i H => ∃ (xs : List V) (x : V), SqT K H a xs ∧ xs[i]? = some x, fun i H v H' => ∃ (T : Addr) (x : V), v = .ref T ∧ H T = none ∧ H' = upd H T (.tup [.int (i : Nat), x]) ∧ ∀ xs, SqT K H a xs → xs[i]? = some x, fun i H => ∃ xs : List V, SqT K H a xs ∧ xs.length ≤ i⟩
theorem turn_enumT {P : Program} {w : World} {K : PySem.W.Frag} {elts : List Expr} {kk : Nat} {tpos : Pos} (a e it : Addr) :
    Turn P w K (.Tuple elts kk tpos) (IteT K a) [e, it] e (fun i h => (∃ old, IsEnum h e it ((i : Nat) : Int) old) ∧ h.IsTupleIter it a i ∧ e ≠ it ∧ a ≠ it ∧ a ≠ e) where
  mem := by simp
  obj := fun i h st b hb => by
    obtain ⟨⟨old, he⟩, ⟨o, ho, hc, hd⟩, _⟩ := st
    have q : b = e ∨ b = it := by simpa using hb
    rcases q with rfl | rfl
    · exact ⟨_, he, fun v q => nomatch q⟩
    · exact ⟨o, ho, fun v q => by rw [hd] at q; cases q⟩
  keep := fun i h h' st k => by
    obtain ⟨⟨old, he⟩, hi, r⟩ := st
    exact ⟨⟨old, k e (by simp) _ he⟩, hi.at fun o q => k it (by simp) o q, r⟩
  item := by
    intro X hP hw hK hc i pins s σ H E I hf st hg
    subst hP hw hK
    obtain ⟨⟨old, he⟩, hit, hne, hai, hae⟩ := st
    obtain ⟨xs, x, hq, hx⟩ := hg
    obtain ⟨its, rv, p, hz⟩ := I.tuple hq
    obtain ⟨u, hu, ru⟩ := rv.get hx
    have hsz : i < its.toArray.size := by
      have := (List.getElem?_eq_some_iff.mp hu).1
      simpa using this
    have hpt : s.heap.IsTuple a its.toArray := p
    have D := Draws.tuple (prog := X.prog) (w := X.w) (A := X.A.in1) (by exact I.ok.hd hc) it a hai its.toArray
    have hel : e < s.heap.objs.size := Heap.lt_size he
    have hil : it < s.heap.objs.size := by obtain ⟨_, q, _⟩ := hit; exact Heap.lt_size q
    refine wpAny_pyNext_enum_itemD D he ⟨hit, hpt⟩ hsz hne (by simp [hne, Ne.symm hae]) fun y h' tk hy ho st' hT hsz' hk => ?_
    have ey : y = u := by
      have hu' : its.toArray[i]? = some u := by simpa using hu
      rw [hu'] at hy
      exact (Option.some.inj hy).symm
    subst ey
    refine ⟨_, rfl, wpAny_letOwnedTupleGo_enum (s := { s with heap := h', toks := tk + 1 }) ho fun h'' he' sb => ?_⟩
    have hT2 : h''.get? s.heap.objs.size = some { cls := .type "tuple", data := .seq #[.int i tk, y] } := (sb.2 _ (Nat.ne_of_gt hel)).trans hT
    have new : ObjOk X.prog X.w (upd H s.heap.objs.size (.tup [.int (i : Nat), x])) h'' s.heap.objs.size (.tup [.int (i : Nat), x]) :=
      ⟨by show 2 ≤ sizeLine; decide, [.int i tk, y], .cons ⟨_, rfl⟩ (.cons ru .nil), ⟨_, hT2, rfl, _, rfl⟩⟩
    have I1 : Inv X pins σ (upd H s.heap.objs.size (.tup [.int (i : Nat), x])) { s with heap := h'', toks := tk + 1 } :=
      I.turnedNew (ch := [e, it]) (fun b ob hb q => by
        have b1 : b ≠ e := fun z => hb (by simp [z])
        have b2 : b ≠ it := fun z => hb (by simp [z])
        exact (sb.2 b b1).trans (hk b ob b1 b2 q)) hf (Nat.le_refl _) new
    refine ⟨.ref s.heap.objs.size, _, I1, rfl, ⟨_, x, rfl, I.hok.fresh (Nat.le_refl _), rfl, fun ys hy' => by rw [I.tuple_inj hy' hq]; exact hx⟩, ⟨⟨y, ?_⟩, st'.1.at fun o q => (sb.2 it (Ne.symm hne)).trans q, hne, hai, hae⟩, fun b hb => ?_⟩
    · have e1 : ((i + 1 : Nat) : Int) = (i : Int) + 1 := by omega
      rw [e1]
      exact he'
    · have hb' : b < s.heap.objs.size := by
        have q : b = e ∨ b = it := by simpa using hb
        rcases q with rfl | rfl
        · exact hel
        · exact hil
      rw [upd_ne (Nat.ne_of_lt hb')]
      exact (hf b hb).1
  done := by
    intro X hP hw hK hc i pins s σ H E I hf st hg
    subst hP hw hK
    obtain ⟨⟨old, he⟩, hit, hne, hai, hae⟩ := st
    obtain ⟨xs, hq, hx⟩ := hg
    obtain ⟨its, rv, p, hz⟩ := I.tuple hq
    obtain ⟨f0, f1, f2, f3, f4, f5⟩ := hf it (by simp)
    have hl := rv.length
    exact wpAny_pyNext_enumT_end (I.ok.hd hc) he hit p (by simp; omega) fun h' eb => ⟨rfl, I.turned (t' := s.toks) (fun b o hb q => eb b o hb q) f0 f1 f3 f4 f5⟩
  self := fun A i s Q E st h => wpAny_pyIter_enum st.1.choose_spec h
def iEnumT (K : PySem.W.Frag) (ta : TA) : TI := fun σ H R => ta σ H fun vs H1 => ∃ (a : Addr) (xs : List V), vs = [.ref a] ∧ SqT K H1 a xs ∧ R (IteT K a) H1
theorem pi_enumT {X : Cx} {e : Expr} {ta : TA} {p pos tpos : Pos} {elts : List Expr} {kk : Nat} (hg : Gl X "enumerate") (hm : X.mg "enumerate" = none) (ha : PA X [e] ta) (hs : starEach [e] X.env = [(false, eval e X.env)] := by rfl) :
    PI X (.Tuple elts kk tpos) (.Call (.Name "enumerate" p) [e] [] pos) (iEnumT X.K ta) := by
  refine ⟨fun pins s σ H R I h => Call_ (ld_blt I hg hm boot_enumerate (PyProof.Rows.callWith_type1 (thn (ha.run pos pins s σ H _ I h) fun us s1 ⟨vs, H1, I1, r1, a, xs, ex, hq, q⟩ => ?_) hs rfl))⟩
  subst ex
  cases r1 with
  | cons r rr =>
    cases rr
    cases r
    obtain ⟨its, rv, p', hz⟩ := I1.tuple hq
    have pt : s1.heap.IsTuple a its.toArray := p'
    have al : a < s1.heap.objs.size := p'.lt
    refine call_enumB (begins_tuple a its.toArray) pt fun h' he ho hk => wpAny_pyIter_enum he ?_
    have I2 : Inv X pins σ H1 { s1 with heap := h' } := I1.kept (t' := s1.toks) hk
    refine ⟨s1.heap.objs.size + 1, [s1.heap.objs.size + 1, s1.heap.objs.size], _, _, H1, rfl, I2, turn_enumT a (s1.heap.objs.size + 1) s1.heap.objs.size,
      ⟨⟨.none, he⟩, ⟨_, ho, rfl, rfl⟩, Nat.succ_ne_self _, Nat.ne_of_lt al, Nat.ne_of_lt (Nat.lt_succ_of_lt al)⟩, fun b hb => ?_, q⟩
    have hle : s1.heap.objs.size ≤ b := by
      have z : b = s1.heap.objs.size + 1 ∨ b = s1.heap.objs.size := by simpa using hb
      rcases z with z | z
      · rw [z]; exact Nat.le_add_right _ _
      · rw [z]; exact Nat.le_refl _
    exact I1.fpOk hle (I1.hok.fresh hle)
theorem walk_enumT {K : PySem.W.Frag} {a : Addr} {xs : List V} : Walk (IteT K a) xs.length (fun H => SqT K H a xs) (YPair (fun i => some (.int (i : Nat))) (fun i => xs[i]?)) where
  goes := fun i H hi h => ⟨xs, xs[i], h, List.getElem?_eq_getElem hi⟩
  stops := fun H h => ⟨xs, h, Nat.le_refl _⟩
  yields := fun i H x H' hi h y => by
    obtain ⟨T, z, rfl, n, rfl, f⟩ := y
    exact ⟨T, _, z, rfl, n, rfl, rfl, f xs h⟩
end Rd

set_option Elab.async false
set_option linter.all false
set_option maxRecDepth 100000
set_option maxHeartbeats 4000000
/-! Pre4: errors of the program's own: made, raised, caught, asked by isinstance and read in a def that the except suite calls. -/
namespace Rd
open PySem PySem.Spec PyProof.Rows L2
/-! ### what the written part says of an error class, as a Bool -/
def oexB (K : PySem.W.Frag) (C : Addr) : Bool := match K.lookup C with
  | some ⟨.type "type", _, .cls cd, sl⟩ => (match cd.mro, sl.toList with
    | .ref C' :: bm, [_, _, _, _, some (.builtin n), _] => decide (C' = C) && decide (n = "ValueError.__new__") && !cd.hasDel && cd.hasDict && PySem.HandSPX.refsVE bm
    | _, _ => false)
  | _ => false
def eqS (a b : Option (Option Value)) : Bool := decide (a = b)
/-- all that is asked of an error class x with its own __init__ -/
def errB (K : PySem.W.Frag) (C : Addr) : Bool := oexB K C && eqS (PySem.W.findIn K (.ref C) "__setattr__") (some (some (.builtin "object.__setattr__"))) && decide (PySem.W.subIn K (.ref C) (.type "BaseException") = some true) &&
  decide (PySem.W.typeIn K (.ref C) = some (.type "type")) && PySem.W.keepIn K (.ref C) && eqS (PySem.W.findIn K (.ref C) "__getattribute__") (some (some (.builtin "BaseException.__getattribute__"))) &&
  eqS (PySem.W.findIn K (.ref C) "__getattr__") (some none) && PySem.W.hasDictIn K C && eqS (PySem.W.findIn K (.ref C) "__class__") (some (some (.builtin "object.__class__"))) &&
  eqS (PySem.W.specialIn K (.builtin "object.__class__") "__get__") (some (some (.builtin "getset_descriptor.__get__"))) && decide (PySem.W.takesIn K (.builtin "object.__class__") = some true) && decide (PySem.W.mroIn K C (.type "object") = some true) &&
  eqS (PySem.W.findIn K (.ref C) "__init__") (some (some (.ref (He.ma K C "__init__")))) && decide (PySem.W.typeIn K (.ref (He.ma K C "__init__")) = some (.type "function"))
structure ErrC (K : PySem.W.Frag) (C : Addr) : Prop where
  oex : OexC K C
  exc : ExcC K C
  xf : XfC K C
  ini : PySem.W.findIn K (.ref C) "__init__" = some (some (.ref (He.ma K C "__init__")))
  tyi : PySem.W.typeIn K (.ref (He.ma K C "__init__")) = some (.type "function")
theorem oexB_ok {K : PySem.W.Frag} {C : Addr} (q : oexB K C = true) :
    ∃ nm q N bs bm sn sub ab col dd k0 k1 k2 k3 k5, K.lookup C = some (excClassObj nm q C N bs bm true sn sub ab col dd k0 k1 k2 k3 k5 "ValueError.__new__") ∧ PySem.HandSPX.refsVE bm = true := by
  unfold oexB at q
  split at q
  · rename_i dd cd sl ho
    split at q
    · rename_i C' bm k0 k1 k2 k3 n k5 hm hs
      simp only [Bool.and_eq_true, decide_eq_true_eq, Bool.not_eq_true'] at q
      obtain ⟨⟨⟨⟨e1, e2⟩, e3⟩, e4⟩, e5⟩ := q
      obtain ⟨nm, bs, mro, ns, qn, hd, sn, sub, ab, col, del⟩ := cd
      dsimp only at hm e3 e4
      subst hm e3 e4 e1 e2
      have hsl : sl = #[k0, k1, k2, k3, some (.builtin "ValueError.__new__"), k5] := by
        obtain ⟨l⟩ := sl
        simp only at hs
        rw [hs]
      subst hsl
      exact ⟨nm, qn, ns, bs, bm, sn, sub, ab, col, dd, k0, k1, k2, k3, k5, ho, e5⟩
    · cases q
  · cases q
theorem errB_ok {K : PySem.W.Frag} {C : Addr} (q : errB K C = true) : ErrC K C := by
  unfold errB eqS at q
  simp only [Bool.and_eq_true, decide_eq_true_eq] at q
  obtain ⟨⟨⟨⟨⟨⟨⟨⟨⟨⟨⟨⟨⟨a1, a2⟩, a3⟩, a4⟩, a5⟩, a6⟩, a7⟩, a8⟩, a9⟩, a10⟩, a11⟩, a12⟩, a13⟩, a14⟩ := q
  exact ⟨⟨oexB_ok a1, a2, a3, a4, a5⟩, ⟨a6, a7, a3, a8, a9, a10, a11, a12⟩, ⟨a6, a7, a3, a8⟩, a13, a14⟩
/-! ### a def's standing -/
/-- f stands as a global def, keeps sp at level k, binds its parameters -/
structure Okd (P : Program) (w : World) (K : PySem.W.Frag) (mg : Str → Option Value) (base : Heap) (k : Nat) (f : Str) (ps : List Str) (sp : Sp) : Prop where
  ex : ∃ fd, FnOk P w K mg base (L2.CX P w) k (He.ga K f) fd ps sp ∧ Binds K fd ps []
  kp : PySem.W.keepIn K (.ref (He.ga K f)) = true
  g : mg f = some (.ref (He.ga K f))
theorem Okd.imp {P : Program} {w : World} {K : PySem.W.Frag} {mg : Str → Option Value} {base : Heap} {k : Nat} {f : Str} {ps : List Str} {sp sp' : Sp} (c : Okd P w K mg base k f ps sp) (h : ∀ vs H Q E, sp' vs H Q E → sp vs H Q E) : Okd P w K mg base k f ps sp' := by
  obtain ⟨fd, F, b⟩ := c.ex
  exact ⟨⟨fd, F.imp h, b⟩, c.kp, c.g⟩
theorem Okd.mono {P : Program} {w : World} {K : PySem.W.Frag} {mg : Str → Option Value} {base : Heap} {j k : Nat} {f : Str} {ps : List Str} {sp : Sp} (c : Okd P w K mg base j f ps sp) (h : j ≤ k) : Okd P w K mg base k f ps sp := by
  obtain ⟨fd, F, b⟩ := c.ex
  exact ⟨⟨fd, F.mono h, b⟩, c.kp, c.g⟩
section
variable {X : Cx} {k : Nat} {f : Str} {ps : List Str} {sp : Sp} {W : WX} {q pos : Pos} {e : Expr} {es : List Expr} {t : TA}
theorem pe_def (c : Okd X.prog X.w X.K X.mg X.base k f ps sp) (hr : Room k X.A) (tk : Takes X W) (hg : Gl X f) (ha : PA X (e :: es) t) (hdb : (f == ("__debug__" : Str)) = false := by decide)
    (he : starEach (e :: es) X.env = (false, eval e X.env) :: starEach es X.env := by rfl) (hpl : (backTo pos (starEach es X.env)).any (·.1) = false := by rfl) : PE X (.Call (.Name f q) (e :: es) [] pos) (tCallS sp (WE W) t) := by
  obtain ⟨fd, F, b⟩ := c.ex
  exact pe_callS F hr hg c.g c.kp b (fun σ => passAt tk σ) ha hdb he hpl
end
section
variable {P : Program} {w : World} {K : PySem.W.Frag} {mg : Str → Option Value} {base : Heap} {k : Nat} {f : Str} {st : Stmt} {N ps : List Str} {sp : Sp} {dvs : List V}
/-- THE RULE for a def -/
theorem Okd.mk' (g : mg f = some (.ref (He.ga K f))) (F : ∃ fd, FunD K f f (defArgs st) (defBody st) (defScope st) [] [] (He.ga K f) fd)
    (hb : ∀ (kV doc pm : Value) (an : Option Addr) (cdv ct : Value) (us : List Value), us.length = ps.length → bindArgs (PySem.W.fnOf f f (defArgs st) (defBody st) (defScope st) .none kV doc pm an cdv ct) ⟨us, []⟩ = pure (ps.zip us))
    (S : FnScope N ps (defScope st)) (len : ∀ vs H Q E, sp vs H Q E → vs.length = ps.length)
    (body : ∀ (cdv : Value) (A : Around) (outer : List Env) (s : Shared) (H : Hp) (vs : List V) (Q : VK) (E : XK), Room k (A.deeper (envOfC f (defScope st) s.heap.objs.size (He.ga K f) cdv)) → sp vs H Q E →
      ∃ t, PSs (cxOf (L2.CX P w) P w K mg base N f (defScope st) (He.ga K f) cdv A outer s H E) (defBody st) t ∧ t { nx := fun _ H' => Q .non H', rt := Q } (start N vs) H) : Okd P w K mg base (k + 1) f ps sp := by
  obtain ⟨fd, F⟩ := F
  exact ⟨⟨fd, F.ok S len body, F.bindsN hb⟩, F.kp, g⟩
/-- .. with defaults, all arguments written -/
theorem Okd.mkd (g : mg f = some (.ref (He.ga K f))) (F : ∃ fd, FunD K f f (defArgs st) (defBody st) (defScope st) dvs [] (He.ga K f) fd) (hd : dvs ≠ [])
    (hb : ∀ (T : Addr) (kV doc pm : Value) (an : Option Addr) (cdv ct : Value) (us its : List Value), us.length = ps.length → its.length = dvs.length →
      ∃ k, bindArgs (PySem.W.fnOf f f (defArgs st) (defBody st) (defScope st) (.ref T) kV doc pm an cdv ct) ⟨us, []⟩ = seqItems? (.ref T) >>= k ∧ k (some its.toArray) = pure (ps.zip us))
    (S : FnScope N ps (defScope st)) (len : ∀ vs H Q E, sp vs H Q E → vs.length = ps.length)
    (body : ∀ (cdv : Value) (A : Around) (outer : List Env) (s : Shared) (H : Hp) (vs : List V) (Q : VK) (E : XK), Room k (A.deeper (envOfC f (defScope st) s.heap.objs.size (He.ga K f) cdv)) → sp vs H Q E →
      ∃ t, PSs (cxOf (L2.CX P w) P w K mg base N f (defScope st) (He.ga K f) cdv A outer s H E) (defBody st) t ∧ t { nx := fun _ H' => Q .non H', rt := Q } (start N vs) H) : Okd P w K mg base (k + 1) f ps sp := by
  obtain ⟨fd, F⟩ := F
  refine ⟨⟨fd, F.ok S len body, ?_⟩, F.kp, g⟩
  obtain ⟨ds, hv, hb'⟩ := F.binds1 (ps := ps) ps.length dvs.length hd (by omega) (fun T kV doc pm an cdv ct us its h1 h2 => by
    obtain ⟨k, e1, e2⟩ := hb T kV doc pm an cdv ct us its h1 h2
    refine ⟨k, e1, ?_⟩
    rw [e2, ← h2, List.drop_length, List.append_nil])
  rw [List.drop_length] at hv
  cases hv
  exact hb'
end
/-! ### an error is made -/
/-- x's __init__ with its fields fs: its promise -/
def spInit (C : Addr) : List Str → Sp := fun fs vs H Q _ => ∃ (a : Addr) (ws : List V), vs = .ref a :: ws ∧ ws.length = fs.length ∧ H a = some (exo a C none) ∧
  ∀ (d : Addr) (H' : Hp), H d = none → d ≠ a → H' = upd (upd H d (exd d (fs.zip ws).reverse)) a (exo a C (some d)) → Q .non H'
structure ErrI (P : Program) (w : World) (K : PySem.W.Frag) (mg : Str → Option Value) (base : Heap) (k : Nat) (x : Str) (ps : List Str) (fs : List Str) : Prop where
  c : ErrC K (He.ga K x)
  g : mg x = some (.ref (He.ga K x))
  ini : ∃ fd, FnOk P w K mg base (L2.CX P w) k (He.ma K (He.ga K x) "__init__") fd ps (spInit (He.ga K x) fs) ∧ Binds K fd ps []
  few : fs.length ≤ 900 ∧ 0 < fs.length
theorem pmk_err {X : Cx} {k : Nat} {x : Str} {ps fs : List Str} {p pos : Pos} {e : Expr} {es : List Expr} {ta : TA} (T : ErrI X.prog X.w X.K X.mg X.base k x ps fs) (hr : Room (k + 1) X.A) (hg : Gl X x) (ha : PA X (e :: es) ta)
    (hdb : (x == ("__debug__" : Str)) = false := by decide) (he : starEach (e :: es) X.env = (false, eval e X.env) :: starEach es X.env := by rfl) (hpl : (backTo pos (starEach es X.env)).any (·.1) = false := by rfl) :
    PMk X (.Call (.Name x p) (e :: es) [] pos) (tMkO (He.ga X.K x) (spInit (He.ga X.K x) fs) [] ta) := by
  obtain ⟨fd, F, b⟩ := T.ini
  exact pmk_oex (dvs := []) T.c.oex T.c.ini T.c.tyi F hr b .nil passL hg T.g ha hdb he hpl
theorem mk {C : Addr} {fs : List Str} {ta : TA} {σ : St} {H : Hp} {Q : XK} (h : ta σ H fun vs H1 => vs.length ≤ 1000 ∧ ∀ a, H1 a = none → spInit C fs (.ref a :: (vs ++ [])) (upd H1 a (exo a C none))
    (fun v H2 => v = .non ∧ ∃ (d : Addr) (fs : List (Str × V)), H2 a = some (exo a C (some d)) ∧ H2 d = some (exd d fs) ∧ H1 d = none ∧ Q (.ref C) (some d) (upd (del H2 a) d (.xd fs))) (fun _ _ _ => False)) : tMkO C (spInit C fs) [] ta σ H Q := h
/-- .. its arguments told: Q is wished for the error's own dict at any new d -/
theorem mkd {C : Addr} {fs : List Str} {ws : List V} {H1 : Hp} {Q : XK} (hl : ws.length = fs.length) (hf : ws.length ≤ 900) (hq : ∀ d, H1 d = none → Q (.ref C) (some d) (upd H1 d (.xd (fs.zip ws).reverse))) :
    ws.length ≤ 1000 ∧ ∀ a, H1 a = none → spInit C fs (.ref a :: (ws ++ [])) (upd H1 a (exo a C none))
      (fun v H2 => v = .non ∧ ∃ (d : Addr) (fs : List (Str × V)), H2 a = some (exo a C (some d)) ∧ H2 d = some (exd d fs) ∧ H1 d = none ∧ Q (.ref C) (some d) (upd (del H2 a) d (.xd fs))) (fun _ _ _ => False) := by
  refine ⟨by omega, fun a ha => ?_⟩
  rw [List.append_nil]
  refine ⟨a, ws, rfl, hl, upd_same, fun d H' hd hda e => ⟨rfl, d, (fs.zip ws).reverse, ?_, ?_, ?_, ?_⟩⟩
  · rw [e, upd_same]
  · rw [e, upd_ne hda, upd_same]
  · rw [upd_ne hda] at hd; exact hd
  · have hd1 : H1 d = none := by rw [upd_ne hda] at hd; exact hd
    have eq : upd (del H' a) d (.xd (fs.zip ws).reverse) = upd H1 d (.xd (fs.zip ws).reverse) := by
      funext b
      by_cases hb : b = d
      · rw [hb, upd_same, upd_same]
      · rw [upd_ne hb, upd_ne hb]
        by_cases hba : b = a
        · rw [hba, del_same, ha]
        · rw [del_ne hba, e, upd_ne hba, upd_ne hb, upd_ne hba]
    rw [eq]
    exact hq d hd1
/-! ### the inits -/
section
variable {P : Program} {w : World} {K : PySem.W.Frag} {mg : Str → Option Value} {base : Heap} {x qn : Str} {st : Stmt}
/-- self.f = e: the first field; the second one -/
theorem ost1 {C : Addr} {f : Str} {σ : St} {H : Hp} {D : Ends} {a : Addr} {y : V} (T : OexC K C) (n : PySem.W.findIn K (.ref C) f = some none) (ha : H a = some (exo a C none))
    (q : ∀ d, H d = none → d ≠ a → D.nx σ (upd (upd H d (exd d [(f, y)])) a (exo a C (some d)))) :
    ∃ a' C : Addr, V.ref a = .ref a' ∧ OexC K C ∧ PySem.W.findIn K (.ref C) f = some none ∧
      ((H a' = some (exo a' C none) ∧ ∀ dx, H dx = none → dx ≠ a' → D.nx σ (upd (upd H dx (exd dx [(f, y)])) a' (exo a' C (some dx)))) ∨
        ∃ (dx : Addr) (fs : List (Str × V)), H a' = some (exo a' C (some dx)) ∧ H dx = some (exd dx fs) ∧ fs.length ≤ 900 ∧ D.nx σ (upd H dx (exd dx ((f, y) :: fs)))) := ⟨a, C, rfl, T, n, .inl ⟨ha, q⟩⟩
theorem init1 {f : Str} (F : ∃ fd, FunD K "__init__" qn (defArgs st) (defBody st) (defScope st) [] [] (He.ma K (He.ga K x) "__init__") fd) (c : errB K (He.ga K x) = true) (g : mg x = some (.ref (He.ga K x)))
    (n : PySem.W.findIn K (.ref (He.ga K x)) f = some none) {a b d : Pos} {e : Pos}
    (hbod : defBody st = [.Assign [.Attribute (.Name "self" a) f b] (.Name f d) e]) (S : FnScope ["self", f] ["self", f] (defScope st)) (vs0 : Vis (defScope st) "self") (vs1 : Vis (defScope st) f)
    (d1 : (f == ("__debug__" : Str)) = false) (d2 : (f == ("__classdict__" : Str)) = false)
    (hb : ∀ (kV doc pm : Value) (an : Option Addr) (cdv ct : Value) (us : List Value), us.length = 2 → bindArgs (PySem.W.fnOf "__init__" qn (defArgs st) (defBody st) (defScope st) .none kV doc pm an cdv ct) ⟨us, []⟩ = pure ((["self", f] : List Str).zip us)) :
    ErrI P w K mg base 1 x ["self", f] [f] := by
  have E := errB_ok c
  obtain ⟨fd, F⟩ := F
  refine ⟨E, g, ⟨fd, F.ok S (fun vs H Q E h => ?_) (fun cdv A outer s H vs Q E0 hr h => ?_), F.bindsN (ps := ["self", f]) hb⟩, by simp⟩
  · obtain ⟨_, ws, rfl, hl, _⟩ := h
    simp [hl]
  · obtain ⟨p, ws, rfl, hl, hp, k⟩ := h
    match ws, hl with
    | [y], _ =>
      rw [hbod]
      refine ⟨_, pss_one (ps_ost (pe_var (i := 0) rfl vs0) (pe_var (i := 1) rfl vs1 d1 d2)), ?_⟩
      refine ⟨y, rfl, .ref p, rfl, ost1 E.oex n hp fun d hd ne => ?_⟩
      exact k d _ hd ne rfl
theorem init2 {f g' : Str} (F : ∃ fd, FunD K "__init__" qn (defArgs st) (defBody st) (defScope st) [] [] (He.ma K (He.ga K x) "__init__") fd) (c : errB K (He.ga K x) = true) (g : mg x = some (.ref (He.ga K x)))
    (n : PySem.W.findIn K (.ref (He.ga K x)) f = some none) (n' : PySem.W.findIn K (.ref (He.ga K x)) g' = some none) {a b d e a' b' d' e' : Pos}
    (hbod : defBody st = [.Assign [.Attribute (.Name "self" a) f b] (.Name f d) e, .Assign [.Attribute (.Name "self" a') g' b'] (.Name g' d') e']) (S : FnScope ["self", f, g'] ["self", f, g'] (defScope st)) (vs0 : Vis (defScope st) "self") (vs1 : Vis (defScope st) f) (vs2 : Vis (defScope st) g')
    (d1 : (f == ("__debug__" : Str)) = false) (d2 : (f == ("__classdict__" : Str)) = false) (d3 : (g' == ("__debug__" : Str)) = false) (d4 : (g' == ("__classdict__" : Str)) = false)
    (hb : ∀ (kV doc pm : Value) (an : Option Addr) (cdv ct : Value) (us : List Value), us.length = 3 → bindArgs (PySem.W.fnOf "__init__" qn (defArgs st) (defBody st) (defScope st) .none kV doc pm an cdv ct) ⟨us, []⟩ = pure ((["self", f, g'] : List Str).zip us)) :
    ErrI P w K mg base 1 x ["self", f, g'] [f, g'] := by
  have E := errB_ok c
  obtain ⟨fd, F⟩ := F
  refine ⟨E, g, ⟨fd, F.ok S (fun vs H Q E h => ?_) (fun cdv A outer s H vs Q E0 hr h => ?_), F.bindsN (ps := ["self", f, g']) hb⟩, by simp⟩
  · obtain ⟨_, ws, rfl, hl, _⟩ := h
    simp [hl]
  · obtain ⟨p, ws, rfl, hl, hp, k⟩ := h
    match ws, hl with
    | [y, z], _ =>
      rw [hbod]
      refine ⟨_, pss_cons (ps_ost (pe_var (i := 0) rfl vs0) (pe_var (i := 1) rfl vs1 d1 d2)) (pss_one (ps_ost (pe_var (i := 0) rfl vs0) (pe_var (i := 2) rfl vs2 d3 d4))), ?_⟩
      refine ⟨y, rfl, .ref p, rfl, ost1 E.oex n hp fun d hd ne => ?_⟩
      refine ⟨z, rfl, .ref p, rfl, p, _, rfl, E.oex, n', .inr ⟨d, [(f, y)], upd_same, ?_, by simp, ?_⟩⟩
      · rw [upd_ne ne, upd_same]
      · refine k d _ hd ne ?_
        funext b
        by_cases h1 : b = d
        · rw [h1, upd_same, upd_ne ne, upd_same]
          rfl
        · rw [upd_ne h1]
          by_cases h2 : b = p
          · rw [h2, upd_same, upd_same]
          · rw [upd_ne h2, upd_ne h2, upd_ne h1, upd_ne h1]
end
end Rd

set_option Elab.async false
set_option linter.all false
set_option maxRecDepth 100000
set_option maxHeartbeats 4000000
/-! Pre5: a def that the except suite calls with the error in its hand: the error is pinned, told by its class and its own dict. -/
namespace Rd
open PySem PySem.Spec PyProof.Rows L2 L2H
abbrev Pin : Type := Addr × Obj
structure FnE (P : Program) (w : World) (K : PySem.W.Frag) (mg : Str → Option Value) (base : Heap) (k : Nat) (f : Addr) (fd : FuncData) (ps : List Str) (sp : Pin → Sp) : Prop where
  len : ∀ p vs H Q E, sp p vs H Q E → vs.length = ps.length
  run : ∀ (p : Pin) (A : Around) (outer : List Env) (s : Shared) (H : Hp) (args : Args) (us : List Value) (vs : List V) (Q : VK) (E : XK), RoomH k A → A.handled = some (.ref p.1) → PinOk outer H s p →
    Env0 P w K mg base A outer s H → BindsTo s fd args (ps.zip us) → Vals vs us → sp p vs H Q E → codeAny (model P w) A (.call (.ref f) args) (CR CX0 outer P w H s Q E) s
/-- the context of its body -/
abbrev cxE (P : Program) (w : World) (K : PySem.W.Frag) (mg : Str → Option Value) (base : Heap) (N : List Str) (f : Str) (scope : Scope) (cd : Value) (A : Around) (outer : List Env) (s : Shared) (H : Hp) (E : XK) (p : Pin) : Cx :=
  cxH CX0 P w K mg base N f scope (He.ga K f) cd A outer s H E p
theorem fnE_of {P : Program} {w : World} {K : PySem.W.Frag} {mg : Str → Option Value} {base : Heap} {k : Nat} {f : Str} {st : Stmt} {fd : FuncData} {N ps : List Str} {sp : Pin → Sp}
    (F : FunD K f f (defArgs st) (defBody st) (defScope st) [] [] (He.ga K f) fd) (S : FnScope N ps (defScope st)) (len : ∀ p vs H Q E, sp p vs H Q E → vs.length = ps.length)
    (body : ∀ (p : Pin) (cdv : Value) (A : Around) (outer : List Env) (s : Shared) (H : Hp) (vs : List V) (Q : VK) (E : XK), RoomH k (A.deeper (envOfC f (defScope st) s.heap.objs.size (He.ga K f) cdv)) → sp p vs H Q E →
      ∃ t, PSs (cxE P w K mg base N f (defScope st) cdv A outer s H E p) (defBody st) t ∧ t { nx := fun _ H' => Q .non H', rt := Q } (start N vs) H) : FnE P w K mg base (k + 1) (He.ga K f) fd ps sp := by
  obtain ⟨oc, od, dV, kV, doc, pm, an, cdv, ct, osl, rfl, lk, hcd, _, _⟩ := F.ex
  refine ⟨len, fun p A outer s H args us vs Q E hr hh hpin e0 hb r hsp => ?_⟩
  have hl := len p _ _ _ _ hsp
  have stays : ∀ b o, base.get? b = some o → s.heap.get? b = some o := fun b o e => (e0.bs b o e).1
  have KX : K.In s.heap := e0.mod.kin.keeps stays
  have names : ∀ y ∈ ps.zip us, (defScope st).names.lookup y.1 = some .local ∨ ((defScope st).names.lookup y.1 = some .cell ∧ ((cellsFrom (s.heap.objs.size + 1) (defScope st).names []).lookup y.1).isSome = true) := by
    rintro ⟨n, v⟩ hy
    exact (S.par n (List.of_mem_zip hy).1).elim (fun q => .inl q) fun q => .inr ⟨q, PySem.W.cellsFrom_some _ _ _ (.inl q)⟩
  refine codeAny_call_function hr.depth (KX _ _ lk) rfl S.co S.gen rfl (PySem.W.codeRec_of KX hcd) (hb _ _ _ _ (wpAny_newFunctionEnv_cells S.kind names fun env he s1 x => ?_))
  subst he
  refine ⟨(e0.mod.nolimit.keeps stays).keeps x.toInCall.keep, codeAny_func ?_⟩
  obtain ⟨t, ht, hq⟩ := body p cdv A outer s H vs Q E (hr.deeper _) hsp
  have I : Inv (cxE P w K mg base N f (defScope st) cdv A outer s H E p) [] (start N vs) H s1 := inv_startH S hpin e0 hl r x
  refine wpAny_mono (ht.run [] s1 (start N vs) H _ I hq) (fun fl s' hs => ?_) fun e s' hs => hs
  cases fl with
  | ret u =>
    obtain ⟨v, σ', H', J, rv, q⟩ := hs
    exact ⟨v, H', J.os, J.bare, J.base, J.hok, rv, q⟩
  | next =>
    obtain ⟨σ', H', J, q⟩ := hs
    exact ⟨.non, H', J.os, J.bare, J.base, J.hok, rfl, q⟩
  | brk => exact False.elim hs.choose_spec.choose_spec.2
  | cont => exact False.elim hs.choose_spec.choose_spec.2
structure Oke (P : Program) (w : World) (K : PySem.W.Frag) (mg : Str → Option Value) (base : Heap) (k : Nat) (f : Str) (ps : List Str) (sp : Pin → Sp) : Prop where
  ex : ∃ fd, FnE P w K mg base k (He.ga K f) fd ps sp ∧ Binds K fd ps []
  kp : PySem.W.keepIn K (.ref (He.ga K f)) = true
  g : mg f = some (.ref (He.ga K f))
theorem Oke.mk' {P : Program} {w : World} {K : PySem.W.Frag} {mg : Str → Option Value} {base : Heap} {k : Nat} {f : Str} {st : Stmt} {N ps : List Str} {sp : Pin → Sp} (g : mg f = some (.ref (He.ga K f)))
    (F : ∃ fd, FunD K f f (defArgs st) (defBody st) (defScope st) [] [] (He.ga K f) fd)
    (hb : ∀ (kV doc pm : Value) (an : Option Addr) (cdv ct : Value) (us : List Value), us.length = ps.length → bindArgs (PySem.W.fnOf f f (defArgs st) (defBody st) (defScope st) .none kV doc pm an cdv ct) ⟨us, []⟩ = pure (ps.zip us))
    (S : FnScope N ps (defScope st)) (len : ∀ p vs H Q E, sp p vs H Q E → vs.length = ps.length)
    (body : ∀ (p : Pin) (cdv : Value) (A : Around) (outer : List Env) (s : Shared) (H : Hp) (vs : List V) (Q : VK) (E : XK), RoomH k (A.deeper (envOfC f (defScope st) s.heap.objs.size (He.ga K f) cdv)) → sp p vs H Q E →
      ∃ t, PSs (cxE P w K mg base N f (defScope st) cdv A outer s H E p) (defBody st) t ∧ t { nx := fun _ H' => Q .non H', rt := Q } (start N vs) H) : Oke P w K mg base (k + 1) f ps sp := by
  obtain ⟨fd, F⟩ := F
  exact ⟨⟨fd, fnE_of F S len body, F.bindsN hb⟩, F.kp, g⟩
/-- its call in the suite -/
def tCallE (sp : Pin → Sp) (p : Pin) (t : TA) : TE := fun σ H Q => t σ H fun vs H1 => sp p vs H1 Q E0
section
variable {X : Cx} {k : Nat} {f : Str} {ps : List Str} {sp : Pin → Sp} {a : Addr} {oe : Obj} {pn : List Pin} {q pos : Pos} {e : Expr} {es : List Expr} {t : TA}
theorem pe_hot (c : Oke X.prog X.w X.K X.mg X.base k f ps sp) (hr : Room k X.A) (hg : Gl X f) (ha : PA (X.suite a ((a, oe) :: pn)) (e :: es) t) (hdb : (f == ("__debug__" : Str)) = false := by decide)
    (he : starEach (e :: es) X.env = (false, eval e X.env) :: starEach es X.env := by rfl) (hpl : (backTo pos (starEach es X.env)).any (·.1) = false := by rfl) :
    PE (X.suite a ((a, oe) :: pn)) (.Call (.Name f q) (e :: es) [] pos) (tCallE sp (a, oe) t) := by
  obtain ⟨fd, F, b⟩ := c.ex
  refine ⟨fun pins s σ H Q I h => ?_⟩
  refine wpAny_Call_Name_kw (ld_glob (X := X.suite a ((a, oe) :: pn)) I hg c.g ?_ hdb)
  refine PySem.W.callWith_K (h₀ := X.base) I.ok.mod.kin c.kp (thn (ha.run pos pins s σ H _ I h) fun us s1 ⟨vs, H1, I1, r, z⟩ => ⟨I1.kIn, ?_⟩) he hpl
  have hl : us.length = ps.length := by rw [← r.length]; exact F.len _ _ _ _ _ z
  have bt := b s1 us I1.kIn (by rw [List.append_nil]; exact hl)
  rw [List.append_nil] at bt
  have pp := I1.pin (a, oe) (List.mem_append_left _ List.mem_cons_self)
  have pin : PinOk (X.suite a ((a, oe) :: pn)).stack H1 s1 (a, oe) := ⟨pp.1, pp.2.1, fun hm => (List.mem_cons.mp (I1.stkSub a hm)).elim pp.2.2.1 pp.2.2.2.1, pp.2.2.2.2⟩
  have room : RoomH k (X.suite a ((a, oe) :: pn)).A := ⟨hr.dp, hr.un⟩
  refine wpAny_call (codeAny_mono (F.run (a, oe) (X.suite a ((a, oe) :: pn)).A X.stack s1 H1 ⟨us, []⟩ us vs Q E0 room rfl pin I1.env0 bt r z) fun r s' hq => ?_)
  cases r with
  | error e => exact False.elim hq
  | ok fl =>
    cases fl with
    | ret u => exact I1.after hq
    | next => exact False.elim hq
    | brk => exact False.elim hq
    | cont => exact False.elim hq
end
/-! ### the error in hand -/
/-- p is an error of the class at C whose own dict d holds fs -/
structure IsErr (K : PySem.W.Frag) (H : Hp) (p : Pin) (C d : Addr) (fs : List (Str × V)) : Prop where
  c : ErrC K C
  z : Zc (.ref C) (some d) p.2
  f : ∃ vs, p.2.data = .fields vs
  d : H d = some (.xd fs)
theorem IsErr.go {K : PySem.W.Frag} {H H' : Hp} {p : Pin} {C d : Addr} {fs : List (Str × V)} (e : IsErr K H p C d fs) (s : Same H H') : IsErr K H' p C d fs := ⟨e.c, e.z, e.f, s _ _ e.d⟩
theorem IsErr.at {X : Cx} {pins : List Pin} {σ : St} {H : Hp} {s : Shared} {p : Pin} {C d : Addr} {fs : List (Str × V)} (e : IsErr X.K H p C d fs) (I : Inv X pins σ H s) (hp : p ∈ X.pn) :
    ∃ (od : Obj) (mA : Str → Option Value), PySem.W.InstAt s.heap p.1 p.2 C (some od) ∧ (∀ f, PySem.W.lookIn f od = some (mA f)) ∧ ∀ f, RelO (fs.lookup f) (mA f) := by
  obtain ⟨vs, hd⟩ := e.f
  have hg := (I.pin p (List.mem_append_left _ hp)).1
  obtain ⟨mA, hns, hr⟩ := (show ObjOk X.prog X.w H s.heap d (.xd fs) from I.hok d _ e.d)
  obtain ⟨od, ho, hl⟩ := lookIn_ns hns
  exact ⟨od, mA, ⟨hg, e.z.1, by unfold PySem.W.notCls; rw [hd] <;> rfl, by rw [e.z.2]; exact ho⟩, fun f => hl f, hr⟩
/-- isinstance(e, c) -/
def rIsX (K : PySem.W.Frag) (p : Pin) : List V → Hp → VK → Prop := fun xs H Q => ∃ (C d : Addr) (fs : List (Str × V)) (c : V) (cv : Value) (b : Bool), xs = [.ref p.1, c] ∧ IsErr K H p C d fs ∧ ClsV c cv ∧ PySem.W.kitOne K (.ref C) cv = some b ∧ Q (.bl b) H
theorem call_isX {X : Cx} {p : Pin} (hp : p ∈ X.pn) : CallR X (.builtin "isinstance") (rIsX X.K p) := by
  intro pins s σ H xs us Q I r h
  obtain ⟨C, d, fs, c, cv, b, rfl, e, k, hk, q⟩ := h
  obtain ⟨u1, u2, rfl, r1, r2⟩ := vals2 r
  obtain rfl : u1 = Value.ref p.1 := r1
  have e2 := k.eq r2
  subst e2
  obtain ⟨od, mA, J, _, _⟩ := e.at I hp
  have x := e.c.exc
  have hcl : (PySem.W.clsIn X.K C).isSome = true := by
    obtain ⟨cd, hc, _⟩ := PySem.W.any_some x.hd
    rw [hc]
    rfl
  exact PySem.W.kia_one (PySem.W.kitx_exc hcl x.hg x.hk x.hs x.ha x.hn x.ht x.hm) I.kIn J hk (fun z => nomatch z) fun tk => ⟨.bl b, H, I.tok tk, rfl, q⟩
/-- e.f -/
def tFldX (K : PySem.W.Frag) (p : Pin) (f : Str) (te : TE) : TE := fun σ H Q => te σ H fun x H1 => x = .ref p.1 ∧ ∃ (C d : Addr) (fs : List (Str × V)) (v : V), IsErr K H1 p C d fs ∧ PySem.W.findIn K (.ref C) f = some none ∧ fs.lookup f = some v ∧ Q v H1
theorem pe_fldX {X : Cx} {p : Pin} {e : Expr} {te : TE} {pos : Pos} {n : Str} (hp : p ∈ X.pn) (he : PE X e te) (hb : attributeBase e n X.env (eval e X.env) = eval e X.env := by rfl) : PE X (.Attribute e n pos) (tFldX X.K p n te) := by
  refine ⟨fun pins s σ H Q I h => attr_of hb (thn (he.run pins s σ H _ I h) fun u s1 ⟨x, H1, I1, rx, ex, C, d, fs, v, ie, hno, l, q⟩ => ?_)⟩
  subst ex
  obtain rfl : u = Value.ref p.1 := rx
  obtain ⟨od, mA, J, hl, hr⟩ := ie.at I1 hp
  obtain ⟨u, hu, ru⟩ := RelO.some_of (v := v) (o := mA n) (by rw [← l]; exact hr n)
  have T := ie.c.xf
  exact HandSPX.exc_get I1.kIn J T.ga T.gg T.exC (PySem.W.findObj_own T.hdC hno rfl (by rw [hl, hu])) (handed_of ru) ⟨v, H1, I1.tok _, ru, q⟩
end Rd

set_option Elab.async false
set_option linter.all false
set_option maxRecDepth 100000
set_option maxHeartbeats 4000000
/-! Pre6: the head's facts: a Hook of our own (the classes' statics besides), class constants, isinstance's answers among own classes, the reading's tactics. -/
namespace Rd
open PySem PySem.Spec PyProof.Rows L2
def asM (g : Addr → Option Obj) (n : Nat) : List Addr := PySem.cStatics :: He.asD g n
def obsM (n : Nat) (fa : List He.Fa) (fn : List He.DefD) (ex : PySem.W.Frag → Bool) (g : Addr → Option Obj) : He.AlD × Bool := (He.obsD fa fn (He.frG g (asM g n)), ex (He.frG g (asM g n)))
structure Says (fa : List He.Fa) (fn : List He.DefD) (ex : PySem.W.Frag → Bool) (K : PySem.W.Frag) : Prop where
  d : He.SaysD fa fn K
  m : ex K = true
def hookM (n : Nat) (fa : List He.Fa) (fn : List He.DefD) (ex : PySem.W.Frag → Bool) : PySem.W.Hook where
  α := He.AlD × Bool
  obs := fun s => obsM n fa fn ex s.heap.get?
  val := fun _ => (He.valD fn, true)
  says := fun _ h => ∃ K : PySem.W.Frag, K.In h ∧ Says fa fn ex K
  of := fun _ _ e => ⟨_, He.frG_in, ⟨congrArg (fun z : He.AlD × Bool => z.1) e, congrArg (fun z : He.AlD × Bool => z.2) e⟩⟩
  keeps := fun _ _ _ ⟨K, hK, c⟩ k => ⟨K, PySem.W.Frag.In.keeps hK k, c⟩
theorem obsM_eq {n : Nat} {fa : List He.Fa} {fn : List He.DefD} {ex : PySem.W.Frag → Bool} {g : Addr → Option Obj} {s : Shared} (h : ∀ a, g a = s.heap.get? a) : obsM n fa fn ex g = (hookM n fa fn ex).obs s := by
  have e : g = s.heap.get? := funext h
  rw [e] <;> rfl
/-- a class constant that is an int -/
def conB (K : PySem.W.Frag) (C : Addr) (f : Str) (i : Int) : Bool := match PySem.W.findCls K (.ref C) (.type "type") f with
  | some (.val (.int j _)) => decide (j = i)
  | _ => false
def readB (K : PySem.W.Frag) (C : Addr) : Bool := PySem.W.readsIn K C (.type "type") && eqS (PySem.W.specialIn K (.ref C) "__getattribute__") (some (some (.builtin "type.__getattribute__")))
theorem readB_ok {K : PySem.W.Frag} {C : Addr} (h : readB K C = true) : ClX.CRead K C (.type "type") := by
  unfold readB eqS at h
  simp only [Bool.and_eq_true, decide_eq_true_eq] at h
  exact ⟨h.1, h.2⟩
theorem conB_ok {K : PySem.W.Frag} {C : Addr} {f : Str} {i : Int} (h : conB K C f i = true) : ∃ u, ClX.CVal K C (.type "type") f (.int i) u := by
  unfold conB at h
  cases e : PySem.W.findCls K (.ref C) (.type "type") f with
  | none => rw [e] at h; cases h
  | some r =>
    rw [e] at h
    cases r with
    | val v =>
      cases v with
      | int j t =>
        have ej : j = i := of_decide_eq_true h
        subst ej
        exact ⟨_, ⟨e, t, rfl⟩⟩
      | _ => cases h
    | _ => cases h
/-- isinstance of an instance of x for class y -/
def kitB (K : PySem.W.Frag) (x y : Str) (b : Bool) : Bool := decide (PySem.W.kitOne K (.ref (He.ga K x)) (.ref (He.ga K y)) = some b)
def kitT (K : PySem.W.Frag) (x : Str) (y : String) (b : Bool) : Bool := decide (PySem.W.kitOne K (.ref (He.ga K x)) (.type y) = some b)
/-- .. for x's own name among ys -/
def kitsB (K : PySem.W.Frag) (xs ys : List Str) : Bool := xs.all fun x => (ys.all fun y => kitB K x y (decide (x = y))) && kitB K x "Refused" true && kitT K x "ValueError" true
theorem kitsB_ok {K : PySem.W.Frag} {xs ys : List Str} (h : kitsB K xs ys = true) {x : Str} (hx : x ∈ xs) :
    (∀ y ∈ ys, PySem.W.kitOne K (.ref (He.ga K x)) (.ref (He.ga K y)) = some (decide (x = y))) ∧ PySem.W.kitOne K (.ref (He.ga K x)) (.ref (He.ga K "Refused")) = some true ∧ PySem.W.kitOne K (.ref (He.ga K x)) (.type "ValueError") = some true := by
  have h1 := List.all_eq_true.mp h x hx
  simp only [Bool.and_eq_true, List.all_eq_true] at h1
  obtain ⟨⟨h2, h3⟩, h4⟩ := h1
  exact ⟨fun y hy => of_decide_eq_true (h2 y hy), of_decide_eq_true h3, of_decide_eq_true h4⟩
def errsB (K : PySem.W.Frag) (xs : List Str) : Bool := xs.all fun x => errB K (He.ga K x)
theorem errsB_ok {K : PySem.W.Frag} {xs : List Str} (h : errsB K xs = true) {x : Str} (hx : x ∈ xs) : errB K (He.ga K x) = true := List.all_eq_true.mp h x hx
theorem hr_units {k : Nat} {A : Around} (hr : Room k A) : A.units + 64 < cLine := hr.units
theorem bt_isinstance : bootBuiltins "isinstance" = some (.builtin "isinstance") := by decide +kernel
theorem bt_tuple : bootBuiltins "tuple" = some (.type "tuple") := by decide +kernel
theorem bt_list : bootBuiltins "list" = some (.type "list") := by decide +kernel
theorem bt_int : bootBuiltins "int" = some (.type "int") := by decide +kernel
theorem bt_bool : bootBuiltins "bool" = some (.type "bool") := by decide +kernel
theorem bt_str : bootBuiltins "str" = some (.type "str") := by decide +kernel
theorem bt_abs : bootBuiltins "abs" = some (.builtin "abs") := by decide +kernel
theorem bt_sum : bootBuiltins "sum" = some (.builtin "sum") := by decide +kernel
theorem bt_min : bootBuiltins "min" = some (.builtin "min") := by decide +kernel
theorem bt_max : bootBuiltins "max" = some (.builtin "max") := by decide +kernel
theorem bt_sorted : bootBuiltins "sorted" = some (.builtin "sorted") := by decide +kernel
theorem bt_len : bootBuiltins "len" = some (.builtin "len") := by decide +kernel
theorem bt_ValueError : bootBuiltins "ValueError" = some (.type "ValueError") := by decide +kernel
/-! ### rules by name -/
def rLn (K : PySem.W.Frag) : List V → Hp → VK → Prop := fun xs H Q => ∃ p ys, xs = [.ref p] ∧ (SqL K H p ys ∨ SqT K H p ys) ∧ Q (.int ys.length) H
theorem call_ln {X : Cx} : CallR X (.builtin "len") (rLn X.K) := call_len_seq
def rInt1 : List V → Hp → VK → Prop := fun xs H Q => (∃ i, xs = [.int i] ∧ Q (.int i) H) ∨ ∃ k, xs = [.bl k] ∧ Q (.int (if k then 1 else 0)) H
theorem call_in {X : Cx} : CallR X (.type "int") rInt1 := call_int1
def rAbs1 : List V → Hp → VK → Prop := fun xs H Q => ∃ i, xs = [.int i] ∧ Q (.int (if i < 0 then -i else i)) H
theorem call_ab {X : Cx} : CallR X (.builtin "abs") rAbs1 := call_abs
def rMin2 : List V → Hp → VK → Prop := fun xs H Q => ∃ i j, xs = [.int i, .int j] ∧ Q (.int (if j < i then j else i)) H
theorem call_mn {X : Cx} (hc : X.calm = true) : CallR X (.builtin "min") rMin2 := call_min2 hc
def rLst (K : PySem.W.Frag) : List V → Hp → VK → Prop := fun xs H Q => ∃ p ys, xs = [.ref p] ∧ (SqL K H p ys ∨ SqT K H p ys) ∧ ∀ l, H l = none → Q (.ref l) (upd H l (.lst ys))
theorem call_ls {X : Cx} : CallR X (.type "list") (rLst X.K) := call_list_of
def rTup (K : PySem.W.Frag) : List V → Hp → VK → Prop := fun xs H Q => ∃ p ys, xs = [.ref p] ∧ ((SqL K H p ys ∧ ∀ l, H l = none → Q (.ref l) (upd H l (.tup ys))) ∨ (SqT K H p ys ∧ Q (.ref p) H))
theorem call_tp {X : Cx} : CallR X (.type "tuple") (rTup X.K) := call_tuple_of
def rIsN : R2 := fun x y H Q => y = .non ∧ Q (.bl (decide (x = .non))) H
def rNoN : R2 := fun x y H Q => y = .non ∧ Q (.bl (!decide (x = .non))) H
theorem op_isNo {X : Cx} : OpR X (compareOp .Is) Rd.rIsN := op_isN
theorem op_noNo {X : Cx} : OpR X (compareOp .IsNot) rNoN := op_notN
end Rd

set_option Elab.async false
set_option linter.all false
set_option maxRecDepth 100000
set_option maxHeartbeats 4000000
/-! Pre6b: the rules with the written part K told, so that a comprehension's block may use them. -/
namespace Rd
open PySem PySem.Spec PyProof.Rows L2
section
variable {X : Cx} (K : PySem.W.Frag)
theorem k_ix (h : X.K = K := by rfl) : IxR X (rIx K) := by subst h; exact ix_seq
theorem k_plus (h : X.K = K := by rfl) : OpR X (binaryOp .Add) (rPlus K) := by subst h; exact op_plus
theorem k_same (hu : X.A.units + 64 < cLine) (h : X.K = K := by rfl) : OpR X (compareOp .Eq) (rSame K) := by subst h; exact op_same hu
theorem k_unlike (hu : X.A.units + 64 < cLine) (h : X.K = K := by rfl) : OpR X (compareOp .NotEq) (rUnlike K) := by subst h; exact op_unlike hu
theorem k_in (h : X.K = K := by rfl) : OpR X (compareOp .In) (rIn K false) := by subst h; exact op_in_seq
theorem k_notin (h : X.K = K := by rfl) : OpR X (compareOp .NotIn) (rIn K true) := by subst h; exact op_notIn_seq
theorem k_ln (h : X.K = K := by rfl) : CallR X (.builtin "len") (rLn K) := by subst h; exact call_ln
theorem k_tp (h : X.K = K := by rfl) : CallR X (.type "tuple") (rTup K) := by subst h; exact call_tp
theorem k_ls (h : X.K = K := by rfl) : CallR X (.type "list") (rLst K) := by subst h; exact call_ls
theorem k_sum (hc : X.calm = true) (h : X.K = K := by rfl) : CallR X (.builtin "sum") (rSum K) := by subst h; exact cr_sum hc
theorem k_max (hc : X.calm = true) (h : X.K = K := by rfl) : CallR X (.builtin "max") (rMax K) := by subst h; exact cr_max hc
theorem k_min (hc : X.calm = true) (h : X.K = K := by rfl) : CallR X (.builtin "min") (rMin K) := by subst h; exact cr_min hc
theorem k_sorted (h : X.K = K := by rfl) : CallR X (.builtin "sorted") (rSortedI K) := by subst h; exact cr_sortedI
theorem k_isi (h : X.K = K := by rfl) : CallR X (.builtin "isinstance") (rIsi K) := by subst h; exact call_isi
theorem k_isX {p : Addr × Obj} (hp : p ∈ X.pn) (h : X.K = K := by rfl) : CallR X (.builtin "isinstance") (rIsX K p) := by subst h; exact call_isX hp
theorem k_get (h : X.K = K := by rfl) : PGet X (rGetL K) := by subst h; exact pgt_list
theorem k_index (h : X.K = K := by rfl) : MtR X "list.index" (rIndex K) := by subst h; exact mt_index
theorem k_countB (h : X.K = K := by rfl) : MtR X "list.count" (rCntB K) := by subst h; exact mt_countB
theorem k_sll (h : X.K = K := by rfl) : SlR X (rSlL K) := by subst h; exact sl_list
theorem k_slt (h : X.K = K := by rfl) : SlR X (rSlA K) := by subst h; exact sl_tupA
variable {e o : Expr} {es elts : List Expr} {te to ta : TE} {t : TA} {f name : Str} {pos apos cpos p p1 p2 p3 tpos : Pos} {k kk n : Nat} {T id : String} {r : V → List V → Hp → VK → Prop} {tg : Expr} {u : TGs}
theorem kp_cval (he : PE X e te) (hb : attributeBase e f X.env (eval e X.env) = eval e X.env := by rfl) (h : X.K = K := by rfl) : PE X (.Attribute e f pos) (ClX.tCVal K te f) := by subst h; exact ClX.pe_cval he hb
theorem kp_fld (he : PE X e te) (hb : attributeBase e f X.env (eval e X.env) = eval e X.env := by rfl) (h : X.K = K := by rfl) : PE X (.Attribute e f pos) (tFld K te f) := by subst h; exact pe_fld he hb
theorem kp_fldX {q : Addr × Obj} (hp : q ∈ X.pn) (he : PE X e te) (hb : attributeBase e f X.env (eval e X.env) = eval e X.env := by rfl) (h : X.K = K := by rfl) : PE X (.Attribute e f pos) (tFldX K q f te) := by subst h; exact pe_fldX hp he hb
theorem kp_revL (he : PE X e te) (h : X.K = K := by rfl) : PE X (.Subscript e (.Slice none none (some (.UnaryOp .USub (.Constant (.int 1) k p1) p2)) p3) pos) (tRevL K te) := by subst h; exact pe_revL he
theorem kp_revT (he : PE X e te) (h : X.K = K := by rfl) : PE X (.Subscript e (.Slice none none (some (.UnaryOp .USub (.Constant (.int 1) k p1) p2)) p3) pos) (tRevT K te) := by subst h; exact pe_revT he
theorem kp_bm (pa : PlainAttrs T) (slot : Slot T name id) (hty : typeOf (.builtin id) = pure (.type "method_descriptor")) (hm : MtR X id r) (ho : PE X o to) (ha : PA X (e :: es) t)
    (hbase : attributeBase o name X.env (eval o X.env) = eval o X.env := by rfl)
    (hfew : ((backTo cpos (starEach (e :: es) X.env)).all (fun x => !x.1) && (backToKw cpos (keywordEach [] X.env)).all (fun x => x.1.isSome) && decide ((e :: es).length + ([] : List Keyword).length + (if ([] : List Keyword).isEmpty then 0 else 1) < 30)) = true := by rfl)
    (hline : (apos.endLine == cpos.line) = true := by rfl) (hs : starEach (e :: es) X.env = (false, eval e X.env) :: starEach es X.env := by rfl) (hplain : (backTo cpos (starEach es X.env)).any (·.1) = false := by rfl) (h : X.K = K := by rfl) :
    PE X (.Call (.Attribute o name apos) (e :: es) [] cpos) (tBM K T r to t) := by subst h; exact pe_bm pa slot hty hm ho ha hbase hfew hline hs hplain
theorem ki_list (he : PE X e te) (h : X.K = K := by rfl) : PI X tg e (iList K te) := by subst h; exact pi_list he
theorem ki_tup (he : PE X e te) (h : X.K = K := by rfl) : PI X tg e (iTup K te) := by subst h; exact pi_tup he
theorem ki_enum (hg : Gl X "enumerate") (hm : X.mg "enumerate" = none) (ha : PA X [e] t) (hs : starEach [e] X.env = [(false, eval e X.env)] := by rfl) (h : X.K = K := by rfl) :
    PI X (.Tuple elts kk tpos) (.Call (.Name "enumerate" p) [e] [] pos) (iEnum K t) := by subst h; exact pi_enum hg hm ha hs
theorem ki_enumT (hg : Gl X "enumerate") (hm : X.mg "enumerate" = none) (ha : PA X [e] t) (hs : starEach [e] X.env = [(false, eval e X.env)] := by rfl) (h : X.K = K := by rfl) :
    PI X (.Tuple elts kk tpos) (.Call (.Name "enumerate" p) [e] [] pos) (iEnumT K t) := by subst h; exact pi_enumT hg hm ha hs
theorem ki_zip {e2 : Expr} (hg : Gl X "zip") (hm : X.mg "zip" = none) (ha : PA X [e, e2] t) (hs : starEach [e, e2] X.env = (false, eval e X.env) :: starEach [e2] X.env := by rfl) (hpl : (backTo pos (starEach [e2] X.env)).any (·.1) = false := by rfl) (h : X.K = K := by rfl) :
    PI X (.Tuple elts kk tpos) (.Call (.Name "zip" p) [e, e2] [] pos) (RZ.iZipA K t) := by subst h; exact RZ.pi_zipA hg hm ha hs hpl
theorem kg_tup (hc : X.calm = true) (h' : PGs X es u) (hn : (assignEach es X.env).length = n := by rfl) (hst : (assignEach es X.env).findIdx? (·.1) = none := by rfl) (h : X.K = K := by rfl) : PG X (.Tuple es k pos) (gTup K n u) := by subst h; exact pg_tup hc h' hn hst
theorem kmk_err {k : Nat} {x : Str} {ps fs : List Str} (T : ErrI X.prog X.w X.K X.mg X.base k x ps fs) (hr : Room (k + 1) X.A) (hg : Gl X x) (ha : PA X (e :: es) t)
    (hdb : (x == ("__debug__" : Str)) = false := by decide) (he : starEach (e :: es) X.env = (false, eval e X.env) :: starEach es X.env := by rfl) (hpl : (backTo pos (starEach es X.env)).any (·.1) = false := by rfl) (h : X.K = K := by rfl) :
    PMk X (.Call (.Name x p) (e :: es) [] pos) (tMkO (He.ga K x) (spInit (He.ga K x) fs) [] t) := by subst h; exact pmk_err T hr hg ha hdb he hpl
end
end Rd

set_option Elab.async false
set_option linter.all false
set_option maxRecDepth 100000
set_option maxHeartbeats 4000000
/-! Pre7: loops and comprehensions in the forms that our promises use. -/
namespace Rd
open PySem PySem.Spec PyProof.Rows L2
/-! ### what a def hands back, how it fails -/
/-- an error of the class x, its fields fs, is let out -/
def Fails (K : PySem.W.Frag) (E : XK) (H : Hp) (x : Str) (fs : List (Str × V)) : Prop := ∀ H' d, Same H H' → H' d = none → E (.ref (He.ga K x)) (some d) (upd H' d (.xd fs))
theorem Fails.go {K : PySem.W.Frag} {E : XK} {H H1 : Hp} {x : Str} {fs : List (Str × V)} (f : Fails K E H x fs) (s : Same H H1) : Fails K E H1 x fs := fun H' d t n => f H' d (s.trans t) n
theorem Fails.at {K : PySem.W.Frag} {E : XK} {H : Hp} {x : Str} {fs : List (Str × V)} (f : Fails K E H x fs) {d : Addr} (n : H d = none) : E (.ref (He.ga K x)) (some d) (upd H d (.xd fs)) := f H d (Same.refl H) n
abbrev ErrV : Type := Str × List (Str × V)
/-- no error: ok; an error: it is let out -/
def Out (K : PySem.W.Frag) (E : XK) (H : Hp) (r : Option ErrV) (ok : Prop) : Prop := (r = none → ok) ∧ ∀ x fs, r = some (x, fs) → Fails K E H x fs
/-- a new list, a tuple -/
def RetL (H : Hp) (Q : VK) (xs : List V) : Prop := ∀ H' p, Same H H' → H p = none → H' p = some (.lst xs) → Q (.ref p) H'
def RetT (K : PySem.W.Frag) (H : Hp) (Q : VK) (xs : List V) : Prop := ∀ H' p, Same H H' → SqT K H' p xs → Q (.ref p) H'
def RetV (H : Hp) (Q : VK) (v : V) : Prop := ∀ H', Same H H' → Q v H'
theorem RetL.go {H H1 : Hp} {Q : VK} {xs : List V} (r : RetL H Q xs) (s : Same H H1) : RetL H1 Q xs := fun H' p t n h => r H' p (s.trans t) (s.free n) h
theorem RetT.go {K : PySem.W.Frag} {H H1 : Hp} {Q : VK} {xs : List V} (r : RetT K H Q xs) (s : Same H H1) : RetT K H1 Q xs := fun H' p t h => r H' p (s.trans t) h
theorem RetV.go {H H1 : Hp} {Q : VK} {v : V} (r : RetV H Q v) (s : Same H H1) : RetV H1 Q v := fun H' t => r H' (s.trans t)
section
variable {K : PySem.W.Frag} {σ : St} {H : Hp} {D : Ends} {g : TG} {tb : TS} {te ta tc tl : TE} {Q : VK}
theorem start' {t : TS} {σ' : St} (e : σ = σ') (h : t D σ' H) : t D σ H := by rw [e]; exact h
/-! ### for -/
/-- for x in row, row a list or a tuple that stands in H0 -/
theorem forSq {H0 : Hp} {a : Addr} {xs : List V} (hv : ∀ R : VK, R (.ref a) H → tl σ H R) (h : Sq K H0 a xs) (Pv : Nat → St → Hp → Prop) (h0 : Pv 0 σ H) (hl : ∀ i σ' H', Pv i σ' H' → Same H0 H')
    (hs : ∀ i x σ H, xs[i]? = some x → Pv i σ H → g x σ H fun σ2 H2 => tb { D with nx := Pv (i + 1), ct := Pv (i + 1), bk := D.nx } σ2 H2) (hd : ∀ σ H, Pv xs.length σ H → D.nx σ H) :
    tFor (iOr2 (iList K tl) (iTup K tl)) g tb D σ H := by
  rcases h with h | h
  · exact .inl (hv _ ⟨a, rfl, ⟨_, goSqL (hl 0 σ H h0) h⟩, for_list (xs := xs) Pv h0 (fun i σ' H' _ p => goSqL (hl i σ' H' p) h) hs hd⟩)
  · exact .inr (hv _ ⟨a, rfl, ⟨_, goSqT (hl 0 σ H h0) h⟩, for_tup (xs := xs) Pv h0 (fun i σ' H' _ p => goSqT (hl i σ' H' p) h) hs hd⟩)
/-- .. while the object at m may change -/
theorem forSqB {H0 : Hp} {a m : Addr} {xs : List V} (hv : ∀ R : VK, R (.ref a) H → tl σ H R) (h : Sq K H0 a xs) (ne : a ≠ m) (Pv : Nat → St → Hp → Prop) (h0 : Pv 0 σ H) (hl : ∀ i σ' H', Pv i σ' H' → But m H0 H')
    (hs : ∀ i x σ H, xs[i]? = some x → Pv i σ H → g x σ H fun σ2 H2 => tb { D with nx := Pv (i + 1), ct := Pv (i + 1), bk := D.nx } σ2 H2) (hd : ∀ σ H, Pv xs.length σ H → D.nx σ H) :
    tFor (iOr2 (iList K tl) (iTup K tl)) g tb D σ H := by
  rcases h with h | h
  · exact .inl (hv _ ⟨a, rfl, ⟨_, goSqLB (hl 0 σ H h0) ne h⟩, for_list (xs := xs) Pv h0 (fun i σ' H' _ p => goSqLB (hl i σ' H' p) ne h) hs hd⟩)
  · exact .inr (hv _ ⟨a, rfl, ⟨_, goSqTB (hl 0 σ H h0) ne h⟩, for_tup (xs := xs) Pv h0 (fun i σ' H' _ p => goSqTB (hl i σ' H' p) ne h) hs hd⟩)
theorem itL {a : Addr} {xs : List V} {R : It → Hp → Prop} (h : SqL K H a xs) (q : R (Itl K a) H) : ∃ a', V.ref a = .ref a' ∧ (∃ xs, SqL K H a' xs) ∧ R (Itl K a') H := ⟨a, rfl, ⟨_, h⟩, q⟩
theorem itT {a : Addr} {xs : List V} {R : It → Hp → Prop} (h : SqT K H a xs) (q : R (Itt K a) H) : ∃ a', V.ref a = .ref a' ∧ (∃ xs, SqT K H a' xs) ∧ R (Itt K a') H := ⟨a, rfl, ⟨_, h⟩, q⟩
/-- for x in e, e a tuple that comes with a heap H1 -/
theorem forT (h : tl σ H fun x H1 => ∃ (a : Addr) (xs : List V) (Pv : Nat → St → Hp → Prop), x = .ref a ∧ SqT K H1 a xs ∧ Pv 0 σ H1 ∧ (∀ i σ' H', Pv i σ' H' → Same H1 H') ∧
      (∀ i x σ H, xs[i]? = some x → Pv i σ H → g x σ H fun σ2 H2 => tb { D with nx := Pv (i + 1), ct := Pv (i + 1), bk := D.nx } σ2 H2) ∧ (∀ σ H, Pv xs.length σ H → D.nx σ H))
    (mono : ∀ σ H (R R' : VK), (∀ v H, R v H → R' v H) → tl σ H R → tl σ H R') : tFor (iOr2 (iList K tl) (iTup K tl)) g tb D σ H :=
  .inr (mono σ H _ _ (fun x H1 ⟨a, xs, Pv, e, hx, h0, hl, hs, hd⟩ => ⟨a, e, ⟨_, hx⟩, for_tup (xs := xs) Pv h0 (fun i σ' H' _ p => goSqT (hl i σ' H' p) hx) hs hd⟩) h)
/-- for k in range(n) -/
theorem forR1 {ta : TA} {n : Int} (ha : ∀ R : List V → Hp → Prop, R [.int n] H → ta σ H R) (b : -(2 ^ 62) ≤ n ∧ n < 2 ^ 62) (Pv : Nat → St → Hp → Prop) (h0 : Pv 0 σ H)
    (hs : ∀ (i : Nat) σ H, (i : Int) < n → Pv i σ H → g (.int i) σ H fun σ2 H2 => tb { D with nx := Pv (i + 1), ct := Pv (i + 1), bk := D.nx } σ2 H2) (hd : ∀ σ H, Pv n.toNat σ H → D.nx σ H) : tFor (iRng1 ta) g tb D σ H := by
  refine ha _ ⟨n, rfl, b.1, b.2, for_range Pv h0 (fun i σ H hi p => ?_) hd⟩
  have e : (0 : Int) + (i : Int) = (i : Int) := by omega
  rw [e]
  exact hs i σ H (by omega) p
/-- for k in range(a, b) -/
theorem forR2 {ta : TA} {a n : Int} (ha : ∀ R : List V → Hp → Prop, R [.int a, .int n] H → ta σ H R) (b : -(2 ^ 62) ≤ a ∧ a < 2 ^ 62 ∧ -(2 ^ 62) ≤ n ∧ n < 2 ^ 62) (Pv : Nat → St → Hp → Prop) (h0 : Pv 0 σ H)
    (hs : ∀ (i : Nat) σ H, a + (i : Int) < n → Pv i σ H → g (.int (a + i)) σ H fun σ2 H2 => tb { D with nx := Pv (i + 1), ct := Pv (i + 1), bk := D.nx } σ2 H2) (hd : ∀ σ H, Pv (n - a).toNat σ H → D.nx σ H) : tFor (iRng2 ta) g tb D σ H :=
  ha _ ⟨a, n, rfl, b, for_range Pv h0 (fun i σ H hi p => hs i σ H (by omega) p) hd⟩
/-- for k in range(a, b, -1) -/
theorem forRd {ta : TA} {a b : Int} (ha : ∀ R : List V → Hp → Prop, R [.int a, .int b, .int (-1)] H → ta σ H R) (hb : -(2 ^ 62) ≤ a ∧ a < 2 ^ 62 ∧ -(2 ^ 62) ≤ b ∧ b < 2 ^ 62) (Pv : Nat → St → Hp → Prop) (h0 : Pv 0 σ H)
    (hs : ∀ (i : Nat) σ H, b < a - (i : Int) → Pv i σ H → g (.int (a - i)) σ H fun σ2 H2 => tb { D with nx := Pv (i + 1), ct := Pv (i + 1), bk := D.nx } σ2 H2) (hd : ∀ σ H, Pv (a - b).toNat σ H → D.nx σ H) : tFor (iRng3 ta) g tb D σ H := by
  refine ha _ ⟨a, b, -1, (a - b).toNat, rfl, RgC.neg hb.1 hb.2.1 hb.2.2.1 hb.2.2.2, for_rangeC Pv h0 (fun i σ H hi p => ?_) hd⟩
  have e2 : a + (i : Int) * (-1) = a - i := by omega
  rw [e2]
  exact hs i σ H (by omega) p
/-! ### comprehensions -/
theorem tyes {R : Bool → Hp → Prop} (q : R true H) : tYes σ H R := q
theorem map_take {α β : Type} {f : Nat → α → β} {xs : List α} {i : Nat} {x : α} (h : xs[i]? = some x) : (xs.take (i + 1)).mapIdx f = (xs.take i).mapIdx f ++ [f i x] := by
  have hi := (List.getElem?_eq_some_iff.mp h).1
  have e : xs.take (i + 1) = xs.take i ++ [x] := by
    rw [List.take_add_one, h]
    rfl
  rw [e, List.mapIdx_append]
  simp [List.length_take, Nat.min_eq_left (Nat.le_of_lt hi)]
/-- [e for x in row]: each e a value f i x, the heap may grow -/
theorem lcSq {a : Addr} {xs : List V} {j : Nat} {vs : List Nat} (hv : ∀ R : VK, R (.ref a) H → tl σ H R) (h : Sq K H a xs) (f : Nat → V → V) (hz : ∀ x, wipe ((wipe σ vs).set j (some x)) vs = wipe σ vs) (hl : xs.length < sizeLine)
    (he : ∀ k x H1 (R : VK), xs[k]? = some x → Same H H1 → (∀ H2, Same H1 H2 → R (f k x) H2) → te ((wipe σ vs).set j (some x)) H1 R) (q : RetL H Q (xs.mapIdx f)) :
    tLc (iOr2 (iList K tl) (iTup K tl)) (gName j) tYes te vs σ H Q := by
  have turn : ∀ (D : Addr), H D = none → ∀ k x H', xs[k]? = some x → (Same H H' ∧ H' D = some (.lst ((xs.take k).mapIdx f))) →
      gName j x (wipe σ vs) H' fun σ2 H2 => wipe σ2 vs = wipe σ vs ∧ tYes σ2 H2 fun b H3 => if b = true then te σ2 H3 fun y H4 => ∃ acc, H4 D = some (.lst acc) ∧ acc.length < sizeLine ∧ (Same H (upd H4 D (.lst (acc ++ [y]))) ∧ (upd H4 D (.lst (acc ++ [y]))) D = some (.lst ((xs.take (k + 1)).mapIdx f)))
        else (Same H H3 ∧ H3 D = some (.lst ((xs.take (k + 1)).mapIdx f))) := fun D hD k x H' hx ⟨s, e⟩ => by
    refine ⟨hz x, ?_⟩
    refine tyes (yes ?_)
    refine (he k x H' _ hx s fun H2 s2 => ⟨_, s2 _ _ e, ?_, Rd.Same.own (s.trans s2) hD, ?_⟩)
    · rw [List.length_mapIdx, List.length_take]
      omega
    · rw [upd_same, map_take hx]
  have fin : ∀ (D : Addr), H D = none → ∀ H', (Same H H' ∧ H' D = some (.lst ((xs.take xs.length).mapIdx f))) → Q (.ref D) H' := fun D hD H' ⟨s, e⟩ => q H' D s hD (by rw [List.take_length] at e; exact e)
  rcases h with h | h
  · exact .inl (hv _ ⟨a, rfl, ⟨_, h⟩, fun D hD => lc_list (xs := xs) (fun k H' => Same H H' ∧ H' D = some (.lst ((xs.take k).mapIdx f))) ⟨Same.new hD, upd_same⟩ (fun _ H' _ p => goSqL p.1 h) (turn D hD) (fin D hD)⟩)
  · exact .inr (hv _ ⟨a, rfl, ⟨_, h⟩, fun D hD => lc_tup (xs := xs) (fun k H' => Same H H' ∧ H' D = some (.lst ((xs.take k).mapIdx f))) ⟨Same.new hD, upd_same⟩ (fun _ H' _ p => goSqT p.1 h) (turn D hD) (fin D hD)⟩)
/-- [e for k in range(n)] -/
theorem lcR1 {ta : TA} {n : Int} {j : Nat} {vs : List Nat} (ha : ∀ R : List V → Hp → Prop, R [.int n] H → ta σ H R) (hn : n < 16777216) (f : Nat → V) (hz : ∀ x, wipe ((wipe σ vs).set j (some x)) vs = wipe σ vs)
    (he : ∀ (k : Nat) H1 (R : VK), (k : Int) < n → Same H H1 → (∀ H2, Same H1 H2 → R (f k) H2) → te ((wipe σ vs).set j (some (.int k))) H1 R) (q : RetL H Q ((List.range n.toNat).map f)) (hb : -(2 ^ 62) ≤ n := by omega) :
    tLc (iRng1 ta) (gName j) tYes te vs σ H Q := by
  refine ha _ ⟨n, rfl, hb, by omega, fun D hD => lc_range (fun k H' => Same H H' ∧ H' D = some (.lst ((List.range k).map f))) ⟨Same.new hD, upd_same⟩ (fun k H' hk ⟨s, e⟩ => ?_) fun H' ⟨s, e⟩ => q H' D s hD e⟩
  have e0 : (0 : Int) + (k : Int) = (k : Int) := by omega
  rw [e0]
  refine ⟨hz _, ?_⟩
  refine tyes (yes ?_)
  refine (he k H' _ (by omega) s fun H2 s2 => ⟨_, s2 _ _ e, ?_, Rd.Same.own (s.trans s2) hD, ?_⟩)
  · rw [List.length_map, List.length_range]
    have : (16777216 : Nat) ≤ sizeLine := by rw [sizeLine_eq]; decide
    omega
  · rw [upd_same, List.range_succ, List.map_append]
    rfl
/-- [e for x in row], each e some value: Pv of the turn, the values so far, the heap; it stands while lists change -/
theorem lcSqP {a : Addr} {xs : List V} {j : Nat} {vs : List Nat} (hv : ∀ R : VK, R (.ref a) H → tl σ H R) (h : Sq K H a xs) (hz : ∀ x, wipe ((wipe σ vs).set j (some x)) vs = wipe σ vs) (hl : xs.length < sizeLine)
    (Pv : Nat → List V → Hp → Prop) (h0 : ∀ H', Same H H' → Pv 0 [] H') (mono : ∀ k acc H1 H2 D l, H1 D = some (.lst l) → But D H1 H2 → Pv k acc H1 → Pv k acc H2)
    (he : ∀ k x acc H1 (R : VK), xs[k]? = some x → Same H H1 → Pv k acc H1 → (∀ y H2, Same H1 H2 → Pv (k + 1) (acc ++ [y]) H2 → R y H2) → te ((wipe σ vs).set j (some x)) H1 R)
    (q : ∀ acc H' D, Same H H' → H D = none → H' D = some (.lst acc) → acc.length = xs.length → Pv xs.length acc H' → Q (.ref D) H') : tLc (iOr2 (iList K tl) (iTup K tl)) (gName j) tYes te vs σ H Q := by
  have turn : ∀ (D : Addr), H D = none → ∀ k x H', xs[k]? = some x → (Same H H' ∧ ∃ acc, H' D = some (.lst acc) ∧ acc.length = k ∧ Pv k acc H') →
      gName j x (wipe σ vs) H' fun σ2 H2 => wipe σ2 vs = wipe σ vs ∧ tYes σ2 H2 fun b H3 => if b = true then te σ2 H3 fun y H4 => ∃ acc, H4 D = some (.lst acc) ∧ acc.length < sizeLine ∧
          (Same H (upd H4 D (.lst (acc ++ [y]))) ∧ ∃ acc', (upd H4 D (.lst (acc ++ [y]))) D = some (.lst acc') ∧ acc'.length = k + 1 ∧ Pv (k + 1) acc' (upd H4 D (.lst (acc ++ [y]))))
        else (Same H H3 ∧ ∃ acc, H3 D = some (.lst acc) ∧ acc.length = k + 1 ∧ Pv (k + 1) acc H3) := fun D hD k x H' hx ⟨s, acc, e, hk, p⟩ => by
    refine ⟨hz x, ?_⟩
    refine tyes (yes ?_)
    have hk' := (List.getElem?_eq_some_iff.mp hx).1
    refine he k x acc H' _ hx s p fun y H2 s2 p2 => ⟨acc, s2 _ _ e, by omega, Rd.Same.own (s.trans s2) hD, acc ++ [y], upd_same, by simp [hk], mono _ _ _ _ D acc (s2 _ _ e) But.upd p2⟩
  have fin : ∀ (D : Addr), H D = none → ∀ H', (Same H H' ∧ ∃ acc, H' D = some (.lst acc) ∧ acc.length = xs.length ∧ Pv xs.length acc H') → Q (.ref D) H' := fun D hD H' ⟨s, acc, e, hk, p⟩ => q acc H' D s hD e hk p
  have start : ∀ (D : Addr), H D = none → (Same H (upd H D (.lst [])) ∧ ∃ acc, (upd H D (.lst [])) D = some (.lst acc) ∧ acc.length = 0 ∧ Pv 0 acc (upd H D (.lst []))) := fun D hD => ⟨Same.new hD, [], upd_same, rfl, h0 _ (Same.new hD)⟩
  rcases h with h | h
  · exact .inl (hv _ ⟨a, rfl, ⟨_, h⟩, fun D hD => lc_list (xs := xs) (fun k H' => Same H H' ∧ ∃ acc, H' D = some (.lst acc) ∧ acc.length = k ∧ Pv k acc H') (start D hD) (fun _ H' _ p => goSqL p.1 h) (turn D hD) (fin D hD)⟩)
  · exact .inr (hv _ ⟨a, rfl, ⟨_, h⟩, fun D hD => lc_tup (xs := xs) (fun k H' => Same H H' ∧ ∃ acc, H' D = some (.lst acc) ∧ acc.length = k ∧ Pv k acc H') (start D hD) (fun _ H' _ p => goSqT p.1 h) (turn D hD) (fin D hD)⟩)
/-- [[] for v in range(n)]: new empty lists, all apart -/
theorem lcNew {ta : TA} {n : Int} {j : Nat} {vs : List Nat} (ha : ∀ R : List V → Hp → Prop, R [.int n] H → ta σ H R) (hn : n < 16777216) (hz : ∀ x, wipe ((wipe σ vs).set j (some x)) vs = wipe σ vs)
    (q : ∀ (rs : List Addr) H' D, Same H H' → H D = none → H' D = some (.lst (rs.map V.ref)) → rs.length = n.toNat → rs.Nodup → ¬ D ∈ rs → (∀ r, r ∈ rs → H r = none ∧ H' r = some (.lst [])) → Q (.ref D) H') (hb : -(2 ^ 62) ≤ n := by omega) :
    tLc (iRng1 ta) (gName j) tYes (tLst tNil) vs σ H Q := by
  have hsz : (16777216 : Nat) ≤ sizeLine := by rw [sizeLine_eq]; decide
  refine ha _ ⟨n, rfl, hb, by omega, fun D hD => lc_range (fun k H' => Same H H' ∧ ∃ rs : List Addr, H' D = some (.lst (rs.map V.ref)) ∧ rs.length = k ∧ rs.Nodup ∧ ¬ D ∈ rs ∧ ∀ r, r ∈ rs → H r = none ∧ H' r = some (.lst []))
    ⟨Same.new hD, [], upd_same, rfl, .nil, by simp, fun r hr => by cases hr⟩ (fun k H' hk ⟨s, rs, e, hl, nd, nm, al⟩ => ?_) fun H' ⟨s, rs, e, hl, nd, nm, al⟩ => q rs H' D s hD e hl nd nm al⟩
  refine ⟨hz _, ?_⟩
  refine tyes (yes ?_)
  refine ⟨by simp, fun p hp => ⟨rs.map V.ref, ?_, by rw [List.length_map]; omega, ?_, rs ++ [p], ?_, by simp [hl], ?_, ?_, ?_⟩⟩
  · rw [upd_ne (ne_of_none e hp)]
    exact e
  · exact Rd.Same.own (Rd.Same.own s (s.free hp)) hD
  · rw [upd_same, List.map_append]
    rfl
  · rw [List.nodup_append]
    refine ⟨nd, by simp, fun a ha b hb => ?_⟩
    rw [List.mem_singleton.mp hb]
    exact ne_of_none (al a ha).2 hp
  · rw [List.mem_append, List.mem_singleton]
    exact fun z => z.elim nm (ne_of_none e hp)
  · intro r hr
    have nD : r ≠ D := fun z => (by
      rw [List.mem_append, List.mem_singleton, z]
      exact fun y => y.elim nm (ne_of_none e hp) : ¬ r ∈ rs ++ [p]) hr
    rw [upd_ne nD]
    rcases List.mem_append.mp hr with hr | hr
    · rw [upd_ne (ne_of_none (al r hr).2 hp)]
      exact al r hr
    · rw [List.mem_singleton.mp hr, upd_same]
      exact ⟨s.free hp, rfl⟩
theorem nset {n : Nat} {Q : VK} (q : Q (.int n) H) : Q (.int n) H := q
end
/-! ### built-ins' readings told -/
section
variable {K : PySem.W.Frag} {H : Hp} {Q : VK} {σ : St}
theorem cval {C : Addr} {mc : Value} {f : Str} {v : V} (r : ClX.CRead K C mc) (c : ∃ u, ClX.CVal K C mc f v u) (q : Q v H) : ClX.tCVal K (tC (.ref C)) f σ H Q := by
  obtain ⟨u, c⟩ := c
  exact ⟨C, mc, v, u, rfl, r, c, q⟩
theorem len {a : Addr} {ys : List V} (h : Sq K H a ys) (q : Q (.int ys.length) H) : rLn K [.ref a] H Q := ⟨a, ys, rfl, h, q⟩
theorem sum {a : Addr} {ns : List Int} (h : SqL K H a (ns.map V.int)) (q : Q (.int ns.sum) H) : rSum K [.ref a] H Q := ⟨a, ns, rfl, h, q⟩
theorem max' {a : Addr} {ns : List Int} (h : SqL K H a (ns.map V.int)) (hz : 0 < ns.length) (q : ∀ m, m ∈ ns → (∀ y, y ∈ ns → y ≤ m) → Q (.int m) H) : rMax K [.ref a] H Q := ⟨a, ns, rfl, h, hz, q⟩
theorem tupOfL {a : Addr} {ys : List V} (h : SqL K H a ys) (q : ∀ l, H l = none → Q (.ref l) (upd H l (.tup ys))) : rTup K [.ref a] H Q := ⟨a, ys, rfl, .inl ⟨h, q⟩⟩
theorem tupOfT {a : Addr} {ys : List V} (h : SqT K H a ys) (q : Q (.ref a) H) : rTup K [.ref a] H Q := ⟨a, ys, rfl, .inr ⟨h, q⟩⟩
/-- tuple(row): some tuple of the same -/
theorem tupOf {a : Addr} {ys : List V} (h : Sq K H a ys) (q : RetT K H Q ys) : rTup K [.ref a] H Q := by
  rcases h with h | h
  · exact tupOfL h fun l hl => q _ l (Same.new hl) (sqT upd_same)
  · exact tupOfT h (q H a (Same.refl H) h)
/-- list(row): a new list -/
theorem lstOf {a : Addr} {ys : List V} (h : Sq K H a ys) (q : ∀ l, H l = none → Q (.ref l) (upd H l (.lst ys))) : rLst K [.ref a] H Q := ⟨a, ys, rfl, h, q⟩
theorem int1 {i : Int} (q : Q (.int i) H) : rInt1 [.int i] H Q := .inl ⟨i, rfl, q⟩
theorem int1b {b : Bool} (q : Q (.int (if b then 1 else 0)) H) : rInt1 [.bl b] H Q := .inr ⟨b, rfl, q⟩
theorem min2 {i j : Int} (q : Q (.int (if j < i then j else i)) H) : rMin2 [.int i, .int j] H Q := ⟨i, j, rfl, q⟩
theorem abs1 {i : Int} (q : Q (.int (if i < 0 then -i else i)) H) : rAbs1 [.int i] H Q := ⟨i, rfl, q⟩
theorem getL {p : Addr} {xs : List V} {j : Nat} {v : V} (h : SqL K H p xs) (hj : xs[j]? = some v) (q : Q v H) : rGetL K (.ref p) (.int (j : Int)) H Q := ⟨p, xs, j, v, rfl, rfl, h, hj, q⟩
theorem ipi {f : Int → Int → Int} {a b : Int} (q : Q (.int (f a b)) H) : ipI f (.int a) (.int b) H Q := ⟨a, b, rfl, rfl, q⟩
theorem augS {to ti te : TE} {tget : V → V → Hp → VK → Prop} {tip : TIp} {tset : TSet} {D : Ends} (h : to σ H fun o H1 => ti σ H1 fun i H2 => tget o i H2 fun x H3 => te σ H3 fun y H4 => tip x y H4 fun z H5 => tset o i z H5 fun H6 => D.nx σ H6) : tAugS to ti te tget tip tset D σ H := h
theorem fld {ta : TE} {f : Str} (h : ta σ H fun x H1 => ∃ a C dx fs v, x = .ref a ∧ H1 a = some (.ins C dx fs) ∧ Cls K C ∧ NoAttr K C f ∧ fs.lookup f = some v ∧ Q v H1) : tFld K ta f σ H Q := h
theorem sfld {ta tv : TE} {f : Str} {D : Ends} (h : tv σ H fun y H1 => ta σ H1 fun x H2 => ∃ a C dx fs, x = .ref a ∧ H2 a = some (.ins C dx fs) ∧ Cls K C ∧ NoAttr K C f ∧ fs.length < 1000 ∧ D.nx σ (upd H2 a (.ins C dx (putF f y fs)))) : sFld K ta tv f D σ H := h
theorem mkI {C : Addr} {sp : Sp} {dvs : List V} {E : XK} {t : TA} (h : t σ H fun vs H1 => ∀ x dx, H1 x = none → H1 dx = none → dx ≠ x → sp (.ref x :: (vs ++ dvs)) (upd (upd H1 dx (.own x)) x (.ins C dx [])) (fun v H2 => v = .non ∧ Q (.ref x) H2) E) : tMake C sp dvs E t σ H Q := h
theorem ixN_nat {n j : Nat} (h : j < n) : ixN n (j : Int) = some j := by
  unfold ixN
  rw [if_pos (by omega), if_pos (by omega)]
  simp
theorem sqT_but {H1 H2 : Hp} {D r : Addr} {l xs : List V} (hD : H1 D = some (.lst l)) (s : But D H1 H2) (h : SqT K H1 r xs) : SqT K H2 r xs := by
  rcases h with (h | ⟨o, h⟩) | h
  · exact .inl (.inl (s r _ (ne_of h hD (by intro z; cases z)) h))
  · exact .inl (.inr ⟨o, s r _ (ne_of h hD (by intro z; cases z)) h⟩)
  · exact .inr h
theorem sq_ins {H1 H2 : Hp} {D C dx r : Addr} {fs : List (Str × V)} {xs : List V} (hD : H1 D = some (.ins C dx fs)) (s : But D H1 H2) (h : Sq K H1 r xs) : Sq K H2 r xs := by
  rcases h with ((h | ⟨o, h⟩) | h) | ((h | ⟨o, h⟩) | h)
  · exact .inl (.inl (.inl (s r _ (ne_of h hD (by intro z; cases z)) h)))
  · exact .inl (.inl (.inr ⟨o, s r _ (ne_of h hD (by intro z; cases z)) h⟩))
  · exact .inl (.inr h)
  · exact .inr (.inl (.inl (s r _ (ne_of h hD (by intro z; cases z)) h)))
  · exact .inr (.inl (.inr ⟨o, s r _ (ne_of h hD (by intro z; cases z)) h⟩))
  · exact .inr (.inr h)
theorem sqT_ins {H1 H2 : Hp} {D C dx r : Addr} {fs : List (Str × V)} {xs : List V} (hD : H1 D = some (.ins C dx fs)) (s : But D H1 H2) (h : SqT K H1 r xs) : SqT K H2 r xs := by
  rcases h with (h | ⟨o, h⟩) | h
  · exact .inl (.inl (s r _ (ne_of h hD (by intro z; cases z)) h))
  · exact .inl (.inr ⟨o, s r _ (ne_of h hD (by intro z; cases z)) h⟩)
  · exact .inr h
theorem le_line {n : Nat} (h : n ≤ 16777000) : n ≤ sizeLine := by rw [sizeLine_eq]; omega
theorem isNo {x : V} (q : Q (.bl (decide (x = .non))) H) : Rd.rIsN x .non H Q := ⟨rfl, q⟩
theorem noNo {x : V} (q : Q (.bl (!decide (x = .non))) H) : rNoN x .non H Q := ⟨rfl, q⟩
theorem ints_at {ns : List Int} {i : Nat} {x : V} (h : (ns.map V.int)[i]? = some x) : ∃ z, ns[i]? = some z ∧ x = .int z := by
  rw [List.getElem?_map] at h
  cases e : ns[i]? with
  | none => rw [e] at h; cases h
  | some z => rw [e] at h; exact ⟨z, rfl, (Option.some.inj h).symm⟩
theorem refs_at {rs : List Addr} {i : Nat} {x : V} (h : (rs.map V.ref)[i]? = some x) : ∃ z, rs[i]? = some z ∧ x = .ref z := by
  rw [List.getElem?_map] at h
  cases e : rs[i]? with
  | none => rw [e] at h; cases h
  | some z => rw [e] at h; exact ⟨z, rfl, (Option.some.inj h).symm⟩
/-- rows of ints -/
def RowsAt (K : PySem.W.Frag) (H : Hp) (rs : List Addr) (nss : List (List Int)) : Prop := rs.length = nss.length ∧ ∀ (i : Nat) (r : Addr) (ns : List Int), rs[i]? = some r → nss[i]? = some ns → Sq K H r (ns.map V.int)
/-- a Deal of these piles and starts -/
def IsDeal (K : PySem.W.Frag) (H : Hp) (x : Addr) (nss : List (List Int)) (sts : List Int) : Prop := ∃ (dx P S : Addr) (rs : List Addr), H x = some (.ins (He.ga K "Deal") dx [("piles", .ref P), ("starts", .ref S)]) ∧ SqT K H P (rs.map V.ref) ∧
  (rs.length = nss.length ∧ ∀ (i : Nat) (r : Addr) (ns : List Int), rs[i]? = some r → nss[i]? = some ns → SqT K H r (ns.map V.int)) ∧ SqT K H S (sts.map V.int)
theorem IsDeal.go {H' : Hp} {x : Addr} {nss : List (List Int)} {sts : List Int} (h : IsDeal K H x nss sts) (s : Same H H') : IsDeal K H' x nss sts := by
  obtain ⟨dx, P, S, rs, a, b, c, d⟩ := h
  exact ⟨dx, P, S, rs, s _ _ a, goSqT s b, ⟨c.1, fun i r ns x y => goSqT s (c.2 i r ns x y)⟩, goSqT s d⟩
theorem RowsAt.go {H' : Hp} {rs : List Addr} {nss : List (List Int)} (h : RowsAt K H rs nss) (s : Same H H') : RowsAt K H' rs nss := ⟨h.1, fun i r ns a b => goSq s (h.2 i r ns a b)⟩
theorem neN {H : Hp} {a b : Addr} {o : HO} (ha : H a = none) (hb : H b = some o) : a ≠ b := fun e => by rw [e, hb] at ha; cases ha
theorem neN' {H : Hp} {a b : Addr} {o : HO} (ha : H b = none) (hb : H a = some o) : a ≠ b := fun e => by rw [← e, hb] at ha; cases ha
theorem line_ge {n : Nat} (h : n ≤ 16777000) : n < sizeLine := by rw [sizeLine_eq]; omega
theorem goN {H : Hp} {p a : Addr} {o u : HO} (n : H p = none) (h : H a = some u) : upd H p o a = some u := Rd.Same.new n a u h
end
end Rd

set_option Elab.async false
set_option linter.all false
set_option maxRecDepth 100000
set_option maxHeartbeats 4000000
/-! Pre8: more forms of loops and comprehensions. -/
namespace Rd
open PySem PySem.Spec PyProof.Rows L2
section
variable {K : PySem.W.Frag} {σ : St} {H : Hp} {D : Ends} {g : TG} {tb : TS} {te ta tc tl : TE} {tt : TT} {Q : VK}
/-- a target (a, b) -/
theorem gtup {n : Nat} {t : TGs} {T : Addr} {xs : List V} {R : St → Hp → Prop} (h : SqT K H T xs) (hn : xs.length = n) (q : t xs σ H R) : gTup K n t (.ref T) σ H R := ⟨T, xs, rfl, h, hn, q⟩
theorem sm_le {n : Nat} (h : n ≤ 16777000) : n < sizeLine := by rw [sizeLine_eq]; omega
/-- a comprehension over enumerate(row): f k the values after k turns -/
theorem lcEn {tA : TA} {a : Addr} {xs : List V} {vs : List Nat} (σw : St) (hw : wipe σ vs = σw) (hv : ∀ R : List V → Hp → Prop, R [.ref a] H → tA σ H R) (h : Sq K H a xs) (f : Nat → List V) (f0 : f 0 = []) (hl : ∀ k, k ≤ xs.length → (f k).length < sizeLine)
    (turn : ∀ k x H1 T (Y : VK) (N : Hp → Prop), xs[k]? = some x → Same H H1 → H1 T = some (.tup [.int (k : Nat), x]) → (∀ y H4, Same H1 H4 → f (k + 1) = f k ++ [y] → Y y H4) → (∀ H3, Same H1 H3 → f (k + 1) = f k → N H3) →
      g (.ref T) σw H1 fun σ2 H2 => wipe σ2 vs = σw ∧ tt σ2 H2 fun b H3 => if b = true then te σ2 H3 Y else N H3)
    (q : RetL H Q (f xs.length)) : tLc (iOr2 (iEnum K tA) (iEnumT K tA)) g tt te vs σ H Q := by
  subst hw
  have go : ∀ (D : Addr), H D = none → ∀ k v H1 H', k < xs.length → (Same H H1 ∧ H1 D = some (.lst (f k))) → YPair (fun i => some (.int (i : Nat))) (fun i => xs[i]?) k H1 v H' →
      g v (wipe σ vs) H' fun σ2 H2 => wipe σ2 vs = wipe σ vs ∧ tt σ2 H2 fun b H3 => if b = true then te σ2 H3 fun y H4 => ∃ acc, H4 D = some (.lst acc) ∧ acc.length < sizeLine ∧ (Same H (upd H4 D (.lst (acc ++ [y]))) ∧ (upd H4 D (.lst (acc ++ [y]))) D = some (.lst (f (k + 1))))
        else (Same H H3 ∧ H3 D = some (.lst (f (k + 1)))) := fun D hD k v H1 H' hk ⟨s, e⟩ ⟨T, x, y, ev, hT, eH, ex, ey⟩ => by
    subst ev eH
    obtain rfl := Option.some.inj ex
    have s1 : Same H1 (upd H1 T (.tup [.int (k : Nat), y])) := Rd.Same.new hT
    refine turn k y _ T _ _ ey (s.trans s1) upd_same (fun y H4 s4 e4 => ⟨f k, s4 _ _ (s1 _ _ e), hl k (by omega), Rd.Same.own ((s.trans s1).trans s4) hD, ?_⟩) fun H3 s3 e3 => ⟨(s.trans s1).trans s3, by rw [e3]; exact s3 _ _ (s1 _ _ e)⟩
    rw [upd_same, e4]
  rcases h with h | h
  · exact .inl (hv _ ⟨a, xs, rfl, h, fun D hD => lc_it walk_enum (fun k H' => Same H H' ∧ H' D = some (.lst (f k))) ⟨Rd.Same.new hD, by rw [f0]; exact upd_same⟩ (fun _ H' _ p => goSqL p.1 h) (fun k v H1 H' hk p y => go D hD k v H1 H' hk p y) fun H' p => q H' D p.1 hD p.2⟩)
  · exact .inr (hv _ ⟨a, xs, rfl, h, fun D hD => lc_it walk_enumT (fun k H' => Same H H' ∧ H' D = some (.lst (f k))) ⟨Rd.Same.new hD, by rw [f0]; exact upd_same⟩ (fun _ H' _ p => goSqT p.1 h) (fun k v H1 H' hk p y => go D hD k v H1 H' hk p y) fun H' p => q H' D p.1 hD p.2⟩)
/-- for i, x in enumerate(row) -/
theorem forEn {H0 : Hp} {tA : TA} {a : Addr} {xs : List V} (hv : ∀ R : List V → Hp → Prop, R [.ref a] H → tA σ H R) (h : Sq K H0 a xs) (Pv : Nat → St → Hp → Prop) (h0 : Pv 0 σ H) (hl : ∀ i σ' H', Pv i σ' H' → Same H0 H')
    (hs : ∀ k x σ H T, xs[k]? = some x → Pv k σ H → H T = none → g (.ref T) σ (upd H T (.tup [.int (k : Nat), x])) fun σ2 H2 => tb { D with nx := Pv (k + 1), ct := Pv (k + 1), bk := D.nx } σ2 H2) (hd : ∀ σ H, Pv xs.length σ H → D.nx σ H) :
    tFor (iOr2 (iEnum K tA) (iEnumT K tA)) g tb D σ H := by
  have go : ∀ k v σ H1 H', k < xs.length → Pv k σ H1 → YPair (fun i => some (.int (i : Nat))) (fun i => xs[i]?) k H1 v H' → g v σ H' fun σ2 H2 => tb { D with nx := Pv (k + 1), ct := Pv (k + 1), bk := D.nx } σ2 H2 := fun k v σ H1 H' hk p ⟨T, x, y, ev, hT, eH, ex, ey⟩ => by
    subst ev eH
    obtain rfl := Option.some.inj ex
    exact hs k y σ H1 T ey p hT
  rcases h with h | h
  · exact .inl (hv _ ⟨a, xs, rfl, goSqL (hl 0 σ H h0) h, for_it walk_enum Pv h0 (fun i σ' H' _ p => goSqL (hl i σ' H' p) h) go hd⟩)
  · exact .inr (hv _ ⟨a, xs, rfl, goSqT (hl 0 σ H h0) h, for_it walk_enumT Pv h0 (fun i σ' H' _ p => goSqT (hl i σ' H' p) h) go hd⟩)
/-- the inner loop of a comprehension of two -/
theorem lcIn {J : It} {n : Nat} {G : Hp → Prop} {Y : Nat → Hp → V → Hp → Prop} (w : Walk J n G Y) {vs : List Nat} {D : Addr} {Nx : Hp → Prop} (Pv : Nat → Hp → Prop) (h0 : Pv 0 H) (hG : ∀ i H, i ≤ n → Pv i H → G H)
    (hs : ∀ i x H H', i < n → Pv i H → Y i H x H' → g x (wipe σ vs) H' fun σ2 H2 => wipe σ2 vs = wipe σ vs ∧ tt σ2 H2 fun b H3 =>
      if b = true then te σ2 H3 fun y H4 => ∃ acc, H4 D = some (.lst acc) ∧ acc.length < sizeLine ∧ Pv (i + 1) (upd H4 D (.lst (acc ++ [y]))) else Pv (i + 1) H3) (hd : ∀ H, Pv n H → Nx H) :
    ∃ W : Nat → Nat → Hp → Prop, (∃ m, W 0 m H) ∧ ∀ i m H, W i m H →
      (J.stop i H ∧ Nx H) ∨ (J.go i H ∧ ∃ Nx1 : Hp → Prop, (∀ H', Nx1 H' → ∃ m', m' < m ∧ W (i + 1) m' H') ∧ ∀ x H', J.yld i H x H' → g x (wipe σ vs) H' fun σ2 H2 => wipe σ2 vs = wipe σ vs ∧ tt σ2 H2 fun b H3 =>
        if b = true then te σ2 H3 fun y H4 => ∃ acc, H4 D = some (.lst acc) ∧ acc.length < sizeLine ∧ Nx1 (upd H4 D (.lst (acc ++ [y]))) else Nx1 H3) := by
  refine ⟨fun i m H => m = n - i ∧ i ≤ n ∧ Pv i H, ⟨n, by simp, Nat.zero_le _, h0⟩, ?_⟩
  rintro i m H ⟨rfl, hi, p⟩
  have q := hG i H hi p
  by_cases hlt : i < n
  · exact .inr ⟨w.goes i H hlt q, Pv (i + 1), fun H' p' => ⟨n - (i + 1), by omega, rfl, hlt, p'⟩, fun x H' y => hs i x H H' hlt p (w.yields i H x H' hlt q y)⟩
  · have e : i = n := by omega
    subst e
    exact .inl ⟨w.stops H q, hd H p⟩
/-- [x for row in rows for x in row] -/
theorem lc2Rows {a : Addr} {rs : List Addr} {nss : List (List Int)} {j0 j1 : Nat} {vs vs1 : List Nat} (hv : ∀ R : VK, R (.ref a) H → tl σ H R) (h : Sq K H a (rs.map V.ref)) (hr : RowsAt K H rs nss)
    (z1 : ∀ x, wipe ((wipe σ vs).set j0 (some x)) vs = wipe σ vs) (z2 : ∀ x y, wipe ((wipe ((wipe σ vs).set j0 (some x)) vs1).set j1 (some y)) vs1 = wipe ((wipe σ vs).set j0 (some x)) vs1)
    (z3 : ∀ x, ((wipe σ vs).set j0 (some x))[j0]? = some (some x)) (z4 : ∀ x y, ((wipe ((wipe σ vs).set j0 (some x)) vs1).set j1 (some y))[j1]? = some (some y)) (hlen : nss.flatten.length ≤ 16777000)
    (q : RetL H Q (nss.flatten.map V.int)) :
    tLc2 (iOr2 (iList K tl) (iTup K tl)) (gName j0) tYes (iOr2 (iList K (tVar j0)) (iTup K (tVar j0))) (gName j1) tYes (tVar j1) vs vs1 σ H Q := by
  have lt : ∀ (k m : Nat) ns, nss[k]? = some ns → (((nss.take k).flatten ++ ns.take m).map V.int).length < sizeLine := fun k m ns hk => by
    have e : nss = nss.take k ++ ns :: nss.drop (k + 1) := by
      have hi := (List.getElem?_eq_some_iff.mp hk).1
      have hv := (List.getElem?_eq_some_iff.mp hk).2
      rw [← hv, ← List.drop_eq_getElem_cons hi, List.take_append_drop]
    have e2 : nss.flatten.length = (nss.take k).flatten.length + (ns.length + (nss.drop (k + 1)).flatten.length) := by
      conv => lhs; rw [e]
      rw [List.flatten_append, List.length_append, List.flatten_cons, List.length_append]
    refine sm_le ?_
    rw [List.length_map, List.length_append, List.length_take]
    omega
  have nextRow : ∀ (k : Nat) ns, nss[k]? = some ns → (nss.take (k + 1)).flatten = (nss.take k).flatten ++ ns := fun k ns hk => by
    rw [List.take_add_one, hk, List.flatten_append]
    simp
  have turn : ∀ (D : Addr), H D = none → ∀ k x H1, (rs.map V.ref)[k]? = some x → (Same H H1 ∧ H1 D = some (.lst ((nss.take k).flatten.map V.int))) →
      gName j0 x (wipe σ vs) H1 fun σ2 H2 => wipe σ2 vs = wipe σ vs ∧ tYes σ2 H2 fun b H3 =>
        if b = true then iOr2 (iList K (tVar j0)) (iTup K (tVar j0)) σ2 H3 fun J1 H4 => ∃ W1 : Nat → Nat → Hp → Prop, (∃ m, W1 0 m H4) ∧ ∀ j k' H', W1 j k' H' →
          (J1.stop j H' ∧ (Same H H' ∧ H' D = some (.lst ((nss.take (k + 1)).flatten.map V.int)))) ∨ (J1.go j H' ∧ ∃ Nx1 : Hp → Prop, (∀ H', Nx1 H' → ∃ k'', k'' < k' ∧ W1 (j + 1) k'' H') ∧ ∀ x H'', J1.yld j H' x H'' → gName j1 x (wipe σ2 vs1) H'' fun σ3 H5 => wipe σ3 vs1 = wipe σ2 vs1 ∧ tYes σ3 H5 fun b H6 =>
            if b = true then tVar j1 σ3 H6 fun y H7 => ∃ acc, H7 D = some (.lst acc) ∧ acc.length < sizeLine ∧ Nx1 (upd H7 D (.lst (acc ++ [y]))) else Nx1 H6)
        else (Same H H3 ∧ H3 D = some (.lst ((nss.take (k + 1)).flatten.map V.int))) := fun D hD k x H1 hx ⟨s, e⟩ => by
    refine ⟨z1 x, tyes (yes ?_)⟩
    obtain ⟨r, hri, rfl⟩ := refs_at hx
    have hi : k < nss.length := by
      have := (List.getElem?_eq_some_iff.mp hri).1
      have := hr.1
      omega
    have hk : nss[k]? = some nss[k] := List.getElem?_eq_getElem hi
    have hq := hr.2 k r _ hri hk
    generalize nss[k] = ns at hk hq
    have hs : ∀ (i : Nat) (x : V) (H2 H' : Hp), i < (ns.map V.int).length → (Same H H2 ∧ H2 D = some (.lst (((nss.take k).flatten ++ ns.take i).map V.int))) → YAt (ns.map V.int) i H2 x H' →
        gName j1 x (wipe ((wipe σ vs).set j0 (some (.ref r))) vs1) H' fun σ3 H5 => wipe σ3 vs1 = wipe ((wipe σ vs).set j0 (some (.ref r))) vs1 ∧ tYes σ3 H5 fun b H6 =>
          if b = true then tVar j1 σ3 H6 fun y H7 => ∃ acc, H7 D = some (.lst acc) ∧ acc.length < sizeLine ∧ (Same H (upd H7 D (.lst (acc ++ [y]))) ∧ (upd H7 D (.lst (acc ++ [y]))) D = some (.lst (((nss.take k).flatten ++ ns.take (i + 1)).map V.int)))
          else (Same H H6 ∧ H6 D = some (.lst (((nss.take k).flatten ++ ns.take (i + 1)).map V.int))) := fun i x H2 H' hi ⟨s2, e2⟩ ⟨eH, ex⟩ => by
      subst eH
      refine ⟨z2 _ x, tyes (yes ⟨x, z4 _ x, _, e2, lt k i ns hk, Rd.Same.own s2 hD, ?_⟩)⟩
      obtain ⟨z, hz, rfl⟩ := ints_at ex
      rw [upd_same, List.take_add_one, hz]
      simp
    have hd : ∀ H2 : Hp, (Same H H2 ∧ H2 D = some (.lst (((nss.take k).flatten ++ ns.take (ns.map V.int).length).map V.int))) → (Same H H2 ∧ H2 D = some (.lst ((nss.take (k + 1)).flatten.map V.int))) := fun H2 ⟨s2, e2⟩ => ⟨s2, by
      rw [e2, nextRow k ns hk, List.length_map, List.take_length]⟩
    have h00 : (Same H H1 ∧ H1 D = some (.lst (((nss.take k).flatten ++ ns.take 0).map V.int))) := ⟨s, by rw [e]; simp⟩
    rcases hq with hq | hq
    · exact .inl ⟨_, z3 _, r, rfl, ⟨_, goSqL s hq⟩, lcIn walk_list (fun i H2 => Same H H2 ∧ H2 D = some (.lst (((nss.take k).flatten ++ ns.take i).map V.int))) h00 (fun _ H2 _ p => goSqL p.1 hq) hs hd⟩
    · exact .inr ⟨_, z3 _, r, rfl, ⟨_, goSqT s hq⟩, lcIn walk_tup (fun i H2 => Same H H2 ∧ H2 D = some (.lst (((nss.take k).flatten ++ ns.take i).map V.int))) h00 (fun _ H2 _ p => goSqT p.1 hq) hs hd⟩
  have fin : ∀ D, H D = none → ∀ H', (Same H H' ∧ H' D = some (.lst ((nss.take (rs.map V.ref).length).flatten.map V.int))) → Q (.ref D) H' := fun D hD H' ⟨s, e⟩ => q H' D s hD (by rw [e, List.length_map, hr.1, List.take_length])
  have start : ∀ D, H D = none → (Same H (upd H D (.lst [])) ∧ (upd H D (.lst [])) D = some (.lst ((nss.take 0).flatten.map V.int))) := fun D hD => ⟨Rd.Same.new hD, upd_same⟩
  have run : ∀ (J : It) (G : Hp → Prop), Walk J (rs.map V.ref).length G (YAt (rs.map V.ref)) → (∀ H', Same H H' → G H') → ∀ D, H D = none → ∃ W : Nat → Nat → Hp → Prop, (∃ m, W 0 m (upd H D (.lst []))) ∧ ∀ i m H, W i m H →
      (J.stop i H ∧ Q (.ref D) H) ∨ (J.go i H ∧ ∃ Nx : Hp → Prop, (∀ H', Nx H' → ∃ m', m' < m ∧ W (i + 1) m' H') ∧ ∀ x H', J.yld i H x H' → gName j0 x (wipe σ vs) H' fun σ2 H2 => wipe σ2 vs = wipe σ vs ∧ tYes σ2 H2 fun b H3 =>
        if b = true then iOr2 (iList K (tVar j0)) (iTup K (tVar j0)) σ2 H3 fun J1 H4 => ∃ W1 : Nat → Nat → Hp → Prop, (∃ m, W1 0 m H4) ∧ ∀ j k H, W1 j k H →
          (J1.stop j H ∧ Nx H) ∨ (J1.go j H ∧ ∃ Nx1 : Hp → Prop, (∀ H', Nx1 H' → ∃ k', k' < k ∧ W1 (j + 1) k' H') ∧ ∀ x H', J1.yld j H x H' → gName j1 x (wipe σ2 vs1) H' fun σ3 H5 => wipe σ3 vs1 = wipe σ2 vs1 ∧ tYes σ3 H5 fun b H6 =>
            if b = true then tVar j1 σ3 H6 fun y H7 => ∃ acc, H7 D = some (.lst acc) ∧ acc.length < sizeLine ∧ Nx1 (upd H7 D (.lst (acc ++ [y]))) else Nx1 H6)
        else Nx H3) := fun J G w hG D hD => by
    refine ⟨fun i m H' => m = (rs.map V.ref).length - i ∧ i ≤ (rs.map V.ref).length ∧ (Same H H' ∧ H' D = some (.lst ((nss.take i).flatten.map V.int))), ⟨_, rfl, Nat.zero_le _, start D hD⟩, ?_⟩
    rintro i m H' ⟨rfl, hi, p⟩
    by_cases hlt : i < (rs.map V.ref).length
    · refine .inr ⟨w.goes i H' hlt (hG _ p.1), fun H2 => (Same H H2 ∧ H2 D = some (.lst ((nss.take (i + 1)).flatten.map V.int))), fun H2 p' => ⟨(rs.map V.ref).length - (i + 1), by omega, rfl, hlt, p'⟩, fun x H2 y => ?_⟩
      obtain ⟨eH, ex⟩ := w.yields i H' x H2 hlt (hG _ p.1) y
      subst eH
      exact turn D hD i x _ ex p
    · have e : i = (rs.map V.ref).length := by omega
      subst e
      exact .inl ⟨w.stops H' (hG _ p.1), fin D hD H' p⟩
  rcases h with h | h
  · exact .inl (hv _ ⟨a, rfl, ⟨_, h⟩, run _ _ walk_list fun H' s => goSqL s h⟩)
  · exact .inr (hv _ ⟨a, rfl, ⟨_, h⟩, run _ _ walk_tup fun H' s => goSqT s h⟩)
theorem gnil {R : St → Hp → Prop} (q : R σ H) : gNil [] σ H R := ⟨rfl, q⟩
theorem gcons {t : TG} {u : TGs} {v : V} {r : List V} {R : St → Hp → Prop} (h : t v σ H fun σ' H' => u r σ' H' R) : gCons t u (v :: r) σ H R := ⟨v, r, rfl, h⟩
theorem npart {R : Option Int → Hp → Prop} (q : R none H) : tNoPart σ H R := q
theorem part {R : Option Int → Hp → Prop} (h : te σ H fun x H1 => ∃ i, x = .int i ∧ R (some i) H1) : tPart te σ H R := h
theorem isi {R : Option Int → Hp → Prop} {a : Int} (q : R (some a) H) : ∃ i, V.int a = .int i ∧ R (some i) H := ⟨a, rfl, q⟩
theorem slice {r : V → Option Int → Option Int → Hp → VK → Prop} {l h : TO} (z : te σ H fun x H1 => l σ H1 fun l H2 => h σ H2 fun u H3 => r x l u H3 Q) : L2.tSl r te l h σ H Q := z
theorem slL {a : Addr} {xs : List V} {lo hi : Option Int} (h : SqL K H a xs) (q : ∀ p, H p = none → Q (.ref p) (upd H p (.lst (cutV xs lo hi)))) : rSlL K (.ref a) lo hi H Q := ⟨a, xs, rfl, h, q⟩
theorem Sq.ofT {a : Addr} {xs : List V} (h : SqT K H a xs) : Sq K H a xs := .inr h
theorem Sq.ofL {a : Addr} {xs : List V} (h : SqL K H a xs) : Sq K H a xs := .inl h
theorem atN {xs : List V} {j : Nat} {v : V} (h : xs[j]? = some v) : atI xs (j : Int) = some v := by
  unfold atI
  rw [ixN_nat (List.getElem?_eq_some_iff.mp h).1]
  exact h
theorem atZ {xs : List V} {i : Int} {j : Nat} {v : V} (e : i = j) (h : xs[j]? = some v) : atI xs i = some v := by rw [e]; exact atN h
theorem atLast {xs : List V} {v : V} (h : xs[xs.length - 1]? = some v) : atI xs (-1) = some v := by
  have hl := (List.getElem?_eq_some_iff.mp h).1
  have e : ixN xs.length (-1) = some (xs.length - 1) := by
    unfold ixN
    rw [if_neg (by omega), if_pos (by omega)]
    congr 1
    omega
  unfold atI
  rw [e]
  exact h
theorem intsAt {ns : List Int} {j : Nat} (h : j < ns.length) : (ns.map V.int)[j]? = some (.int (ns.getD j 0)) := by simp [h]
theorem ixI {p : Addr} {ns : List Int} {j : Nat} (h : Sq K H p (ns.map V.int)) (hj : j < ns.length) (q : Q (.int (ns.getD j 0)) H) : rIx K (.ref p) (.int (j : Int)) H Q := ix h (atN (intsAt hj)) q
theorem ixZ {p : Addr} {ns : List Int} {i : Int} {j : Nat} (h : Sq K H p (ns.map V.int)) (e : i = j) (hj : j < ns.length) (q : Q (.int (ns.getD j 0)) H) : rIx K (.ref p) (.int i) H Q := ix h (atZ e (intsAt hj)) q
theorem ixNZ {n : Nat} {i : Int} {j : Nat} (e : i = j) (h : j < n) : ixN n i = some j := by rw [e]; exact ixN_nat h
/-- for x in e, e gives a tuple -/
def LpT (K : PySem.W.Frag) (g : TG) (tb : TS) (D : Ends) (σ : St) (a : Addr) (H : Hp) : Prop := ∃ W : Nat → Nat → St → Hp → Prop, (∃ m, W 0 m σ H) ∧ ∀ i m σ H, W i m σ H →
  ((Itt K a).stop i H ∧ D.nx σ H) ∨ ((Itt K a).go i H ∧ ∃ N : St → Hp → Prop, (∀ σ' H', N σ' H' → ∃ m', m' < m ∧ W (i + 1) m' σ' H') ∧ ∀ x H', (Itt K a).yld i H x H' → g x σ H' fun σ2 H2 => tb { D with nx := N, ct := N, bk := D.nx } σ2 H2)
theorem forTE (h : tl σ H fun x H1 => ∃ a, x = .ref a ∧ (∃ xs, SqT K H1 a xs) ∧ LpT K g tb D σ a H1) : tFor (iOr2 (iList K tl) (iTup K tl)) g tb D σ H := .inr h
def LpL (K : PySem.W.Frag) (g : TG) (tb : TS) (D : Ends) (σ : St) (a : Addr) (H : Hp) : Prop := ∃ W : Nat → Nat → St → Hp → Prop, (∃ m, W 0 m σ H) ∧ ∀ i m σ H, W i m σ H →
  ((Itl K a).stop i H ∧ D.nx σ H) ∨ ((Itl K a).go i H ∧ ∃ N : St → Hp → Prop, (∀ σ' H', N σ' H' → ∃ m', m' < m ∧ W (i + 1) m' σ' H') ∧ ∀ x H', (Itl K a).yld i H x H' → g x σ H' fun σ2 H2 => tb { D with nx := N, ct := N, bk := D.nx } σ2 H2)
theorem forLE (h : tl σ H fun x H1 => ∃ a, x = .ref a ∧ (∃ xs, SqL K H1 a xs) ∧ LpL K g tb D σ a H1) : tFor (iOr2 (iList K tl) (iTup K tl)) g tb D σ H := .inl h
theorem lpT {H1 : Hp} {a : Addr} {xs : List V} {R : (σ : St) → Hp → Prop} (h : SqT K H1 a xs) (Pv : Nat → St → Hp → Prop) (h0 : Pv 0 σ H1) (hl : ∀ i σ' H', Pv i σ' H' → SqT K H' a xs)
    (hs : ∀ i x σ H, xs[i]? = some x → Pv i σ H → g x σ H fun σ2 H2 => tb { D with nx := Pv (i + 1), ct := Pv (i + 1), bk := D.nx } σ2 H2) (hd : ∀ σ H, Pv xs.length σ H → D.nx σ H) :
    ∃ a', V.ref a = .ref a' ∧ (∃ xs, SqT K H1 a' xs) ∧ LpT K g tb D σ a' H1 := ⟨a, rfl, ⟨_, h⟩, for_tup (xs := xs) Pv h0 (fun i σ' H' _ p => hl i σ' H' p) hs hd⟩
theorem lpL {H1 : Hp} {a : Addr} {xs : List V} {R : (σ : St) → Hp → Prop} (h : SqL K H1 a xs) (Pv : Nat → St → Hp → Prop) (h0 : Pv 0 σ H1) (hl : ∀ i σ' H', Pv i σ' H' → SqL K H' a xs)
    (hs : ∀ i x σ H, xs[i]? = some x → Pv i σ H → g x σ H fun σ2 H2 => tb { D with nx := Pv (i + 1), ct := Pv (i + 1), bk := D.nx } σ2 H2) (hd : ∀ σ H, Pv xs.length σ H → D.nx σ H) :
    ∃ a', V.ref a = .ref a' ∧ (∃ xs, SqL K H1 a' xs) ∧ LpL K g tb D σ a' H1 := ⟨a, rfl, ⟨_, h⟩, for_list (xs := xs) Pv h0 (fun i σ' H' _ p => hl i σ' H' p) hs hd⟩
theorem mod {a b : Int} {f : Int → Int → V} (h : 0 < b) (q : Q (f a b) H) : rI (fun _ j => 0 < j) f (.int a) (.int b) H Q := ⟨a, b, rfl, rfl, h, q⟩
theorem fdv {a b : Int} {f : Int → Int → V} (h : 0 < b) (h2 : b.natAbs.log2 < 9000) (q : Q (f a b) H) : rI CDivW f (.int a) (.int b) H Q := ⟨a, b, rfl, rfl, ⟨h, h2⟩, q⟩
theorem pow {a b : Int} {f : Int → Int → V} (h : CPow a b) (q : Q (f a b) H) : rI CPow f (.int a) (.int b) H Q := ⟨a, b, rfl, rfl, h, q⟩
theorem tab_len {α : Type} {n : Nat} {f : Nat → α} : ((List.range n).map f).length = n := by simp
theorem tab_at {α : Type} {n v : Nat} {f : Nat → α} (h : v < n) : ((List.range n).map f)[v]? = some (f v) := by simp [h]
theorem tab_set {α : Type} {n j : Nat} {f g : Nat → α} {x : α} (hj : j < n) (ex : x = g j) (e : ∀ v, v < n → v ≠ j → f v = g v) : ((List.range n).map f).set j x = (List.range n).map g := by
  apply List.ext_getElem?
  intro v
  rw [List.getElem?_set]
  by_cases hv : v < n
  · rw [tab_at hv, tab_at hv]
    by_cases h : j = v
    · rw [if_pos h, if_pos (by rw [tab_len]; exact hj), ex, h]
    · rw [if_neg h, e v hv (Ne.symm h)]
  · rw [List.getElem?_eq_none (l := (List.range n).map f) (by rw [tab_len]; omega), List.getElem?_eq_none (l := (List.range n).map g) (by rw [tab_len]; omega)]
    split
    · rw [if_neg (by rw [tab_len]; omega)]
    · rfl
theorem tab_ext {α : Type} {n : Nat} {f g : Nat → α} (e : ∀ v, v < n → f v = g v) : (List.range n).map f = (List.range n).map g := List.map_congr_left fun v hv => e v (List.mem_range.mp hv)
def optV : Option Int → V | none => .non | some i => .int i
/-- row[::-1] -/
theorem rev {a : Addr} {xs : List V} (hv : ∀ R : VK, R (.ref a) H → te σ H R) (h : Sq K H a xs) (qL : ∀ p, H p = none → Q (.ref p) (upd H p (.lst xs.reverse))) (qT : ∀ p, H p = none → Q (.ref p) (upd H p (.tup xs.reverse))) : tOr2 (tRevL K te) (tRevT K te) σ H Q := by
  rcases h with h | h
  · exact .inl (hv _ ⟨a, xs, rfl, h, qL⟩)
  · exact .inr (hv _ ⟨a, xs, rfl, h, qT⟩)
end
end Rd

set_option Elab.async false
set_option linter.all false
set_option maxRecDepth 100000
set_option maxHeartbeats 4000000
/-! Pre9: bounds of numbers; the store of draws. -/
namespace Rd
open PySem PySem.Spec PyProof.Rows L2
/-- few bits -/
def Lg (a : Int) : Prop := a.natAbs.log2 ≤ 400000
instance (a : Int) : Decidable (Lg a) := inferInstanceAs (Decidable (_ ≤ _))
/-- a plain number of at most 3300 bits -/
def Wd (a : Int) : Prop := 0 ≤ a ∧ a < 2 ^ 3300
theorem log2_le {n k : Nat} (h : n < 2 ^ k) : n.log2 ≤ k := by
  by_cases z : n = 0
  · subst z
    exact Nat.zero_le _
  · exact Nat.le_of_lt ((Nat.log2_lt z).mpr h)
theorem lg_of {a : Int} {k : Nat} (h0 : 0 ≤ a) (h : a < 2 ^ k) (hk : k ≤ 400000) : Lg a := by
  unfold Lg
  refine Nat.le_trans (log2_le (k := k) ?_) hk
  have e : ((a.natAbs : Nat) : Int) = a := by omega
  have h2 : ((a.natAbs : Nat) : Int) < ((2 ^ k : Nat) : Int) := by rw [e, Int.natCast_pow]; exact h
  exact Int.ofNat_lt.mp h2
theorem Wd.lg {a : Int} (h : Wd a) : Lg a := lg_of h.1 h.2 (by omega)
theorem wd_small {a : Int} (h0 : 0 ≤ a) (h : a ≤ 4611686018427387904) : Wd a := ⟨h0, Int.lt_of_le_of_lt h (by decide +kernel)⟩
theorem lg_small {a : Int} (h0 : 0 ≤ a) (h : a ≤ 4611686018427387904) : Lg a := (wd_small h0 h).lg
theorem mod_b {a p : Int} (hp : 0 < p) : 0 ≤ a % p ∧ a % p < p := ⟨Int.emod_nonneg _ (by omega), Int.emod_lt_of_pos _ hp⟩
theorem lg_mod {a p : Int} (hp : 0 < p) (hq : p ≤ 4611686018427387904) : Lg (a % p) := by
  have := mod_b (a := a) hp
  exact lg_small this.1 (by omega)
theorem lg_moddiv {a p c : Int} (hp : 0 < p) (hq : p ≤ 4611686018427387904) (hc : 0 < c) : Lg (a % p / c) := by
  have := mod_b (a := a) hp
  have h1 : 0 ≤ a % p / c := Int.ediv_nonneg this.1 (by omega)
  have h2 : a % p / c ≤ a % p := Int.ediv_le_self _ this.1
  exact lg_small h1 (by omega)
theorem mix_end (x : Int) : 0 ≤ x % 2305843009213693951 / 8 ∧ x % 2305843009213693951 / 8 < 288230376151711744 := by omega
section
variable {K : PySem.W.Frag} {σ : St} {H : Hp} {D : Ends} {Q : VK}
theorem timesB {a b : Int} (ha : Lg a) (hb : Lg b) (q : Q (.int (a * b)) H) : rTimes (.int a) (.int b) H Q := times (by unfold Lg at ha hb; omega) q
theorem seqA {te : TE} {g : TG} {u : TS} (h : tAsg te g { D with nx := u D } σ H) : tSeq (tAsg te g) u D σ H := h
theorem seqD {te : TE} {u : TS} (h : tDrop te { D with nx := u D } σ H) : tSeq (tDrop te) u D σ H := h
/-- the rest is read once -/
theorem seqK {t u : TS} (P : St → Hp → Prop) (k : ∀ σ' H', P σ' H' → u D σ' H') (m : ∀ N : St → Hp → Prop, (∀ σ' H', P σ' H' → N σ' H') → t { D with nx := N } σ H) : tSeq t u D σ H := m _ k
theorem ixA {p : Addr} {xs : List V} {i : Int} {v : V} (h : H p = some (.lst xs)) (z : atI xs i = some v) (q : Q v H) : rIx K (.ref p) (.int i) H Q := ixL (sqL h) z q
theorem ixB {p : Addr} {xs : List V} {i : Int} {v : V} (h : H p = some (.tup xs)) (z : atI xs i = some v) (q : Q v H) : rIx K (.ref p) (.int i) H Q := ixT (sqT h) z q
theorem But.own {a p : Addr} {H H1 : Hp} {o : HO} (s : But a H H1) (n : H p = none) : But a H (L2.upd H1 p o) := fun b u m h => by
  rw [upd_ne (ne_of_none h n)]
  exact s b u m h
theorem But.own' {a : Addr} {H H1 : Hp} {o : HO} (s : But a H H1) : But a H (L2.upd H1 a o) := fun b u m h => by
  rw [upd_ne m]
  exact s b u m h
end
/-- the store's own list: C its cells, p the place, g the great number, f the draws left, t the turn, s the seed -/
def S6 (H0 H : Hp) (a C : Addr) (rs : List Addr) (p g f t s : Int) : Prop := But a H0 H ∧ H a = some (.lst [.ref C, .int p, .int g, .int f, .int t, .int s]) ∧ (0 ≤ p ∧ p ≤ rs.length) ∧ Wd g ∧ 0 ≤ f ∧ (0 < f → 1 ≤ p)
def Cells (H0 : Hp) (C : Addr) (rs : List Addr) : Prop := H0 C = some (.lst (rs.map V.ref)) ∧ rs.length ≤ 63 ∧ ∀ r, r ∈ rs → ∃ fl sz : Int, H0 r = some (.tup [.int fl, .int sz]) ∧ Wd sz
/-- the store stands at a; at most T draws so far -/
def Sto (H0 H : Hp) (a : Addr) (T : Nat) : Prop := ∃ (C : Addr) (rs : List Addr) (p g f t s : Int), Cells H0 C rs ∧ a ≠ C ∧ (∀ r, r ∈ rs → r ≠ a) ∧ S6 H0 H a C rs p g f t s ∧ (0 ≤ t ∧ t ≤ T) ∧ Wd s
theorem Sto.but {H0 H : Hp} {a : Addr} {T : Nat} (h : Sto H0 H a T) : But a H0 H := by
  obtain ⟨C, rs, p, g, f, t, s, _, _, _, z, _⟩ := h
  exact z.1
theorem Sto.at {H0 H : Hp} {a : Addr} {T : Nat} (h : Sto H0 H a T) : ∃ xs, H a = some (.lst xs) := by
  obtain ⟨C, rs, p, g, f, t, s, _, _, _, z, _⟩ := h
  exact ⟨_, z.2.1⟩
theorem Sto.keep {H0 H H' : Hp} {a : Addr} {T : Nat} (h : Sto H0 H a T) (b : But a H0 H') (e : H' a = H a) : Sto H0 H' a T := by
  obtain ⟨C, rs, p, g, f, t, s, x, y, z, w, u⟩ := h
  exact ⟨C, rs, p, g, f, t, s, x, y, z, ⟨b, e.trans w.2.1, w.2.2⟩, u⟩
theorem Sto.go {H0 H H' : Hp} {a : Addr} {T : Nat} (h : Sto H0 H a T) (s : Same H H') : Sto H0 H' a T := by
  obtain ⟨xs, e⟩ := h.at
  exact h.keep (h.but.trans (But.of s)) ((s _ _ e).trans e.symm)
theorem Sto.more {H0 H : Hp} {a : Addr} {T T' : Nat} (h : Sto H0 H a T) (l : T ≤ T') : Sto H0 H a T' := by
  obtain ⟨C, rs, p, g, f, t, s, x, y, z, w, u, v⟩ := h
  exact ⟨C, rs, p, g, f, t, s, x, y, z, w, ⟨u.1, by omega⟩, v⟩
/-- something else changes that was not there at the start -/
theorem Sto.own {H0 H : Hp} {a m : Addr} {T : Nat} {o : HO} (h : Sto H0 H a T) (n : H0 m = none) (ne : m ≠ a) : Sto H0 (upd H m o) a T := h.keep (h.but.own n) (by rw [upd_ne (Ne.symm ne)])
theorem isi1 {R : Int → Prop} {a : Int} (q : R a) : ∃ i, V.int a = .int i ∧ R i := ⟨a, rfl, q⟩
theorem cut_to (xs : List V) (k : Nat) : cutV xs none (some (k : Int)) = xs.take k := by
  unfold cutV
  rw [HT.sIx_nat, HT.sIx_none, List.drop_zero, Nat.sub_zero]
  by_cases h : k ≤ xs.length
  · rw [Nat.min_eq_left h]
  · rw [Nat.min_eq_right (by omega), List.take_length, List.take_of_length_le (by omega)]
theorem cut_from (xs : List V) (k : Nat) : cutV xs (some (k : Int)) none = xs.drop k := by
  unfold cutV
  rw [HT.sIx_nat, HT.sIx_none]
  by_cases h : k ≤ xs.length
  · rw [Nat.min_eq_left h, List.take_of_length_le (by rw [List.length_drop]; omega)]
  · rw [Nat.min_eq_right (by omega), List.drop_length, List.drop_eq_nil_of_le (by omega)]
    simp
theorem isiV {K : PySem.W.Frag} {H : Hp} {Q : VK} {x : V} {n m : String} {b : Bool} (t : TyX K H x (.type m)) (h : L2.kitB m n = some b) (q : Q (.bl b) H) : rIsi K [x, .ty n] H Q := ⟨x, .ty n, _, _, b, rfl, .ty n, t, kit_ty h, q⟩
theorem tyTup {K : PySem.W.Frag} {H : Hp} {a : Addr} {xs : List V} (h : SqT K H a xs) : TyX K H (.ref a) (.type "tuple") := by
  rcases h with (h | ⟨o, h⟩) | ⟨o, its, n, h1, h2, _⟩
  · exact .base (.tup h)
  · exact .fTuple h
  · exact .kTuple h1 h2
/-- the call of such a def in the suite; the reading does not name the error's object -/
def tCallZ (sp : Pin → Sp) (a : Addr) (cls : Value) (d : Option Addr) (t : TA) : TE := fun σ H Q => t σ H fun vs H1 => ∀ oe, Zc cls d oe → (∃ vs, oe.data = .fields vs) → sp (a, oe) vs H1 Q E0
section
variable {X : Cx} {k : Nat} {f : Str} {ps : List Str} {sp : Pin → Sp} {a : Addr} {oe : Obj} {pn : List Pin} {q pos : Pos} {e : Expr} {es : List Expr} {t : TA} {cls : Value} {d : Option Addr}
theorem pe_hotz (hz : Zc cls d oe) (hf : ∃ vs, oe.data = .fields vs) (c : Oke X.prog X.w X.K X.mg X.base k f ps sp) (hr : Room k X.A) (hg : Gl X f) (ha : PA (X.suite a ((a, oe) :: pn)) (e :: es) t) (hdb : (f == ("__debug__" : Str)) = false := by decide)
    (he : starEach (e :: es) X.env = (false, eval e X.env) :: starEach es X.env := by rfl) (hpl : (backTo pos (starEach es X.env)).any (·.1) = false := by rfl) :
    PE (X.suite a ((a, oe) :: pn)) (.Call (.Name f q) (e :: es) [] pos) (tCallZ sp a cls d t) := by
  obtain ⟨fd, F, b⟩ := c.ex
  refine ⟨fun pins s σ H Q I h => ?_⟩
  refine wpAny_Call_Name_kw (ld_glob (X := X.suite a ((a, oe) :: pn)) I hg c.g ?_ hdb)
  refine PySem.W.callWith_K (h₀ := X.base) I.ok.mod.kin c.kp (thn (ha.run pos pins s σ H _ I h) fun us s1 ⟨vs, H1, I1, r, z⟩ => ⟨I1.kIn, ?_⟩) he hpl
  have z := z oe hz hf
  have hl : us.length = ps.length := by rw [← r.length]; exact F.len _ _ _ _ _ z
  have bt := b s1 us I1.kIn (by rw [List.append_nil]; exact hl)
  rw [List.append_nil] at bt
  have pp := I1.pin (a, oe) (List.mem_append_left _ List.mem_cons_self)
  have pin : L2H.PinOk (X.suite a ((a, oe) :: pn)).stack H1 s1 (a, oe) := ⟨pp.1, pp.2.1, fun hm => (List.mem_cons.mp (I1.stkSub a hm)).elim pp.2.2.1 pp.2.2.2.1, pp.2.2.2.2⟩
  have room : L2H.RoomH k (X.suite a ((a, oe) :: pn)).A := ⟨hr.dp, hr.un⟩
  refine wpAny_call (codeAny_mono (F.run (a, oe) (X.suite a ((a, oe) :: pn)).A X.stack s1 H1 ⟨us, []⟩ us vs Q E0 room rfl pin I1.env0 bt r z) fun r s' hq => ?_)
  cases r with
  | error e => exact False.elim hq
  | ok fl =>
    cases fl with
    | ret u => exact I1.after hq
    | next => exact False.elim hq
    | brk => exact False.elim hq
    | cont => exact False.elim hq
end
section
variable {K : PySem.W.Frag} {σ : L2.St} {H : Hp} {Q : VK} {p : Pin}
theorem isx {x y : Str} {b : Bool} {d : Addr} {fs : List (Str × V)} (ec : ErrC K (He.ga K x)) (ez : Zc (.ref (He.ga K x)) (some d) p.2) (ef : ∃ vs, p.2.data = .fields vs) (ed : H d = some (.xd fs)) (hk : PySem.W.kitOne K (.ref (He.ga K x)) (.ref (He.ga K y)) = some b) (q : Q (.bl b) H) : rIsX K p [.ref p.1, .ref (He.ga K y)] H Q :=
  ⟨_, d, fs, _, _, b, rfl, ⟨ec, ez, ef, ed⟩, .own _, hk, q⟩
theorem isxT {x : Str} {y : String} {b : Bool} {d : Addr} {fs : List (Str × V)} (ec : ErrC K (He.ga K x)) (ez : Zc (.ref (He.ga K x)) (some d) p.2) (ef : ∃ vs, p.2.data = .fields vs) (ed : H d = some (.xd fs)) (hk : PySem.W.kitOne K (.ref (He.ga K x)) (.type y) = some b) (q : Q (.bl b) H) : rIsX K p [.ref p.1, .ty y] H Q :=
  ⟨_, d, fs, _, _, b, rfl, ⟨ec, ez, ef, ed⟩, .ty _, hk, q⟩
theorem fldx {x f : Str} {v : V} {d : Addr} {fs : List (Str × V)} (ec : ErrC K (He.ga K x)) (ez : Zc (.ref (He.ga K x)) (some d) p.2) (ef : ∃ vs, p.2.data = .fields vs) (ed : H d = some (.xd fs)) (hn : PySem.W.findIn K (.ref (He.ga K x)) f = some none) (hl : fs.lookup f = some v) (q : Q v H) {te : TE} (ht : ∀ R : VK, R (.ref p.1) H → te σ H R) : tFldX K p f te σ H Q :=
  ht _ ⟨rfl, _, d, fs, v, ⟨ec, ez, ef, ed⟩, hn, hl, q⟩
theorem byes {A B : Prop} {b : Bool} (h : b = true) (q : A) : if b = true then A else B := by rw [if_pos h]; exact q
theorem bno {A B : Prop} {b : Bool} (h : b = false) (q : B) : if b = true then A else B := by rw [if_neg (by rw [h]; decide)]; exact q
theorem ixBl {a : Addr} {bs : List Bool} {j : Nat} (h : SqL K H a (bs.map V.bl)) (hj : bs[j]? = some true) (hb : ∀ m, m < j → bs[m]? = some false) (q : Q (.int (j : Nat)) H) : rIndex K (.ref a) [.bl true] H Q := by
  refine ⟨a, _, .bl true, j, .bl true, rfl, rfl, h, rfl, ?_, by rw [List.getElem?_map, hj]; rfl, rfl, fun m z hm hz => ?_, q⟩
  · rw [List.all_eq_true]
    intro u hu
    obtain ⟨_, _, rfl⟩ := List.mem_map.mp hu
    rfl
  · rw [List.getElem?_map, hb m hm] at hz
    obtain rfl := Option.some.inj hz
    rfl
theorem cntB {a : Addr} {bs : List Bool} {k : Bool} (h : SqL K H a (bs.map V.bl)) (q : Q (.int (bs.count k : Nat)) H) : rCntB K (.ref a) [.bl k] H Q := ⟨a, bs, k, rfl, rfl, h, q⟩
end
end Rd

set_option Elab.async false
set_option linter.all false
set_option maxRecDepth 100000
set_option maxHeartbeats 4000000
/-! K590: the text of the law by places, its scopes, what the top has written. Printed by head.py. -/
namespace K59
open PySem PySem.Spec PyProof.Rows L2 Rd
def top (i : Nat) : Stmt := PySem.Challenge.pw_lastslips_k59_turned_trail.main.body.getD i (.Pass ⟨0, 0, 0, 0⟩)
abbrev s_BadStation___init__ : Stmt := inClass (top 5) 0
abbrev s_TooMany___init__ : Stmt := inClass (top 8) 0
abbrev s_Empty___init__ : Stmt := inClass (top 9) 0
abbrev s_Unframed___init__ : Stmt := inClass (top 10) 0
abbrev s_Deal___init__ : Stmt := inClass (top 28) 4
abbrev s_Deal___eq__ : Stmt := inClass (top 28) 5
abbrev s_Deal___len__ : Stmt := inClass (top 28) 6
abbrev s_check_station : Stmt := top 29
abbrev s_check_count : Stmt := top 30
abbrev s_check_pile : Stmt := top 31
abbrev s_check_total : Stmt := top 32
abbrev s_check_piles : Stmt := top 33
abbrev s_check_starts : Stmt := top 34
abbrev s_tally_of : Stmt := top 35
abbrev s_make_deal : Stmt := top 36
abbrev s_sizes_of : Stmt := top 37
abbrev s_pack_of : Stmt := top 38
abbrev s_begins_of : Stmt := top 39
abbrev s_counts_at_end : Stmt := top 41
abbrev s_need_counts : Stmt := top 42
abbrev s_other_row : Stmt := top 43
abbrev s_end_counts : Stmt := top 44
abbrev s_others : Stmt := top 45
abbrev s_aim : Stmt := top 47
abbrev s_check_some : Stmt := top 49
abbrev s_check_trail : Stmt := top 50
abbrev s_deal_of : Stmt := top 51
abbrev s_last_leavings : Stmt := top 52
abbrev s_first_comings : Stmt := top 53
abbrev s_turned : Stmt := top 54
abbrev s__law_mix : Stmt := top 56
abbrev s__law_store : Stmt := top 57
abbrev s__law_take : Stmt := top 58
abbrev s__law_number : Stmt := top 59
abbrev s__law_shuffled : Stmt := top 60
abbrev s__law_trail : Stmt := top 61
abbrev s__law_alike : Stmt := top 62
abbrev s__law_kind : Stmt := top 63
abbrev s__law_walked : Stmt := top 64
abbrev s__law_trail_piles : Stmt := top 65
abbrev s__law_limit : Stmt := top 66
abbrev s__law_last_leavings : Stmt := top 67
abbrev s__law_bent_walk : Stmt := top 68
abbrev s__law_first_comings : Stmt := top 69
abbrev s__law_door : Stmt := top 70
abbrev s__law_turn_right : Stmt := top 71
abbrev s_law : Stmt := top 72
theorem sc_BadStation___init__ : FnScope ["self", "station"] ["self", "station"] (defScope s_BadStation___init__) := ⟨rfl, rfl, rfl, by decide +kernel, rfl, by decide +kernel, by decide +kernel⟩
theorem sc_TooMany___init__ : FnScope ["self", "what", "limit"] ["self", "what", "limit"] (defScope s_TooMany___init__) := ⟨rfl, rfl, rfl, by decide +kernel, rfl, by decide +kernel, by decide +kernel⟩
theorem sc_Empty___init__ : FnScope ["self", "what"] ["self", "what"] (defScope s_Empty___init__) := ⟨rfl, rfl, rfl, by decide +kernel, rfl, by decide +kernel, by decide +kernel⟩
theorem sc_Unframed___init__ : FnScope ["self", "station"] ["self", "station"] (defScope s_Unframed___init__) := ⟨rfl, rfl, rfl, by decide +kernel, rfl, by decide +kernel, by decide +kernel⟩
theorem sc_Deal___init__ : FnScope ["self", "piles", "starts", "pile"] ["self", "piles", "starts"] (defScope s_Deal___init__) := ⟨rfl, rfl, rfl, by decide +kernel, rfl, by decide +kernel, by decide +kernel⟩
theorem sc_Deal___eq__ : FnScope ["self", "other"] ["self", "other"] (defScope s_Deal___eq__) := ⟨rfl, rfl, rfl, by decide +kernel, rfl, by decide +kernel, by decide +kernel⟩
theorem sc_Deal___len__ : FnScope ["self", "pile", "slip"] ["self"] (defScope s_Deal___len__) := ⟨rfl, rfl, rfl, by decide +kernel, rfl, by decide +kernel, by decide +kernel⟩
theorem sc_check_station : FnScope ["n", "v"] ["n", "v"] (defScope s_check_station) := ⟨rfl, rfl, rfl, by decide +kernel, rfl, by decide +kernel, by decide +kernel⟩
theorem sc_check_count : FnScope ["n"] ["n"] (defScope s_check_count) := ⟨rfl, rfl, rfl, by decide +kernel, rfl, by decide +kernel, by decide +kernel⟩
theorem sc_check_pile : FnScope ["n", "pile", "slip"] ["n", "pile"] (defScope s_check_pile) := ⟨rfl, rfl, rfl, by decide +kernel, rfl, by decide +kernel, by decide +kernel⟩
theorem sc_check_total : FnScope ["total"] ["total"] (defScope s_check_total) := ⟨rfl, rfl, rfl, by decide +kernel, rfl, by decide +kernel, by decide +kernel⟩
theorem sc_check_piles : FnScope ["piles", "pile"] ["piles"] (defScope s_check_piles) := ⟨rfl, rfl, rfl, by decide +kernel, rfl, by decide +kernel, by decide +kernel⟩
theorem sc_check_starts : FnScope ["n", "starts", "start"] ["n", "starts"] (defScope s_check_starts) := ⟨rfl, rfl, rfl, by decide +kernel, rfl, by decide +kernel, by decide +kernel⟩
theorem sc_tally_of : FnScope ["n", "row", "counts", "v"] ["n", "row"] (defScope s_tally_of) := ⟨rfl, rfl, rfl, by decide +kernel, rfl, by decide +kernel, by decide +kernel⟩
theorem sc_make_deal : FnScope ["piles", "starts"] ["piles", "starts"] (defScope s_make_deal) := ⟨rfl, rfl, rfl, by decide +kernel, rfl, by decide +kernel, by decide +kernel⟩
theorem sc_sizes_of : FnScope ["deal", "pile"] ["deal"] (defScope s_sizes_of) := ⟨rfl, rfl, rfl, by decide +kernel, rfl, by decide +kernel, by decide +kernel⟩
theorem sc_pack_of : FnScope ["deal", "pile", "slip"] ["deal"] (defScope s_pack_of) := ⟨rfl, rfl, rfl, by decide +kernel, rfl, by decide +kernel, by decide +kernel⟩
theorem sc_begins_of : FnScope ["deal"] ["deal"] (defScope s_begins_of) := ⟨rfl, rfl, rfl, by decide +kernel, rfl, by decide +kernel, by decide +kernel⟩
theorem sc_counts_at_end : FnScope ["sizes", "begins", "pack", "v"] ["sizes", "begins", "pack"] (defScope s_counts_at_end) := ⟨rfl, rfl, rfl, by decide +kernel, rfl, by decide +kernel, by decide +kernel⟩
theorem sc_need_counts : FnScope ["counts", "v", "count"] ["counts"] (defScope s_need_counts) := ⟨rfl, rfl, rfl, by decide +kernel, rfl, by decide +kernel, by decide +kernel⟩
theorem sc_other_row : FnScope ["counts", "sizes", "v", "count"] ["counts", "sizes"] (defScope s_other_row) := ⟨rfl, rfl, rfl, by decide +kernel, rfl, by decide +kernel, by decide +kernel⟩
theorem sc_end_counts : FnScope ["deal"] ["deal"] (defScope s_end_counts) := ⟨rfl, rfl, rfl, by decide +kernel, rfl, by decide +kernel, by decide +kernel⟩
theorem sc_others : FnScope ["deal", "counts"] ["deal"] (defScope s_others) := ⟨rfl, rfl, rfl, by decide +kernel, rfl, by decide +kernel, by decide +kernel⟩
theorem sc_aim : FnScope ["deal", "arrows", "v"] ["deal"] (defScope s_aim) := ⟨rfl, rfl, rfl, by decide +kernel, rfl, by decide +kernel, by decide +kernel⟩
theorem sc_check_some : FnScope ["trail"] ["trail"] (defScope s_check_some) := ⟨rfl, rfl, rfl, by decide +kernel, rfl, by decide +kernel, by decide +kernel⟩
theorem sc_check_trail : FnScope ["n", "trail", "part"] ["n", "trail"] (defScope s_check_trail) := ⟨rfl, rfl, rfl, by decide +kernel, rfl, by decide +kernel, by decide +kernel⟩
theorem sc_deal_of : FnScope ["n", "trail", "piles", "at", "v"] ["n", "trail"] (defScope s_deal_of) := ⟨rfl, rfl, rfl, by decide +kernel, rfl, by decide +kernel, by decide +kernel⟩
theorem sc_last_leavings : FnScope ["n", "trail", "told", "at", "v"] ["n", "trail"] (defScope s_last_leavings) := ⟨rfl, rfl, rfl, by decide +kernel, rfl, by decide +kernel, by decide +kernel⟩
theorem sc_first_comings : FnScope ["n", "trail", "told", "at", "v"] ["n", "trail"] (defScope s_first_comings) := ⟨rfl, rfl, rfl, by decide +kernel, rfl, by decide +kernel, by decide +kernel⟩
theorem sc_turned : FnScope ["trail"] ["trail"] (defScope s_turned) := ⟨rfl, rfl, rfl, by decide +kernel, rfl, by decide +kernel, by decide +kernel⟩
theorem sc__law_mix : FnScope ["base", "turn", "place", "prime", "one", "two", "three"] ["base", "turn", "place"] (defScope s__law_mix) := ⟨rfl, rfl, rfl, by decide +kernel, rfl, by decide +kernel, by decide +kernel⟩
theorem sc__law_store : FnScope ["script", "limit", "k", "cells", "seed", "cell", "size", "great", "code"] ["script"] (defScope s__law_store) := ⟨rfl, rfl, rfl, by decide +kernel, rfl, by decide +kernel, by decide +kernel⟩
theorem sc__law_take : FnScope ["store", "many", "cell", "value", "base", "span", "part"] ["store", "many"] (defScope s__law_take) := ⟨rfl, rfl, rfl, by decide +kernel, rfl, by decide +kernel, by decide +kernel⟩
theorem sc__law_number : FnScope ["store", "digits", "kind", "count", "top", "k"] ["store", "digits"] (defScope s__law_number) := ⟨rfl, rfl, rfl, by decide +kernel, rfl, by decide +kernel, by decide +kernel⟩
theorem sc__law_shuffled : FnScope ["store", "items", "row", "k", "at", "one"] ["store", "items"] (defScope s__law_shuffled) := ⟨rfl, rfl, rfl, by decide +kernel, rfl, by decide +kernel, by decide +kernel⟩
theorem sc__law_trail : FnScope ["store", "n", "begin", "most", "top", "kind", "count", "style", "gone", "row", "k", "at", "to", "v"] ["store", "n", "begin", "most", "top"] (defScope s__law_trail) := ⟨rfl, rfl, rfl, by decide +kernel, rfl, by decide +kernel, by decide +kernel⟩
theorem sc__law_alike : FnScope ["actual", "due", "k"] ["actual", "due"] (defScope s__law_alike) := ⟨rfl, rfl, rfl, by decide +kernel, rfl, by decide +kernel, by decide +kernel⟩
theorem sc__law_kind : FnScope ["e", "one", "two", "three", "four", "five", "six", "hits", "names", "name"] ["e"] (defScope s__law_kind) := ⟨rfl, rfl, rfl, by decide +kernel, rfl, by decide +kernel, by decide +kernel⟩
theorem sc__law_walked : FnScope ["store", "n", "kind", "begin", "legs", "order", "k"] ["store", "n"] (defScope s__law_walked) := ⟨rfl, rfl, rfl, by decide +kernel, rfl, by decide +kernel, by decide +kernel⟩
theorem sc__law_trail_piles : FnScope ["n", "row", "piles", "k", "v"] ["n", "row"] (defScope s__law_trail_piles) := ⟨rfl, rfl, rfl, by decide +kernel, rfl, by decide +kernel, by decide +kernel⟩
theorem sc__law_limit : FnScope ["piles", "pile"] ["piles"] (defScope s__law_limit) := ⟨rfl, rfl, rfl, by decide +kernel, rfl, by decide +kernel, by decide +kernel⟩
theorem sc__law_last_leavings : FnScope ["n", "row", "found", "v", "last", "k"] ["n", "row"] (defScope s__law_last_leavings) := ⟨rfl, rfl, rfl, by decide +kernel, rfl, by decide +kernel, by decide +kernel⟩
theorem sc__law_bent_walk : FnScope ["store", "n", "row", "kind", "bad", "wrong", "due", "made", "at"] ["store", "n", "row"] (defScope s__law_bent_walk) := ⟨rfl, rfl, rfl, by decide +kernel, rfl, by decide +kernel, by decide +kernel⟩
theorem sc__law_first_comings : FnScope ["n", "row", "found", "v", "before"] ["n", "row"] (defScope s__law_first_comings) := ⟨rfl, rfl, rfl, by decide +kernel, rfl, by decide +kernel, by decide +kernel⟩
theorem sc__law_door : FnScope ["door", "n", "row", "e"] ["door", "n", "row"] (defScope s__law_door) := ⟨rfl, rfl, rfl, by decide +kernel, rfl, by decide +kernel, by decide +kernel⟩
theorem sc__law_turn_right : FnScope ["row", "passed", "told", "k"] ["row"] (defScope s__law_turn_right) := ⟨rfl, rfl, rfl, by decide +kernel, rfl, by decide +kernel, by decide +kernel⟩
theorem sc_law : FnScope ["script", "store", "n", "row", "names", "passed", "firsts", "back", "lasts", "v", "bent", "door"] ["script"] (defScope s_law) := ⟨rfl, rfl, rfl, by decide +kernel, rfl, by decide +kernel, by decide +kernel⟩
def fa : List He.Fa := [.glo "Refused",
  .glo "BadText",
  .glo "Malformed",
  .glo "BadStation",
  .glo "BadPlace",
  .glo "BadNumber",
  .glo "TooMany",
  .glo "Empty",
  .glo "Unframed",
  .glo "NotPack",
  .glo "Unlike",
  .glo "Stuck",
  .glo "NothingBack",
  .glo "LeftOver",
  .glo "NotTrail",
  .glo "Blocked",
  .glo "Unnamed",
  .glo "Opened",
  .glo "Missing",
  .glo "NotLocal",
  .glo "NoPlan",
  .glo "Doubled",
  .glo "BadCard",
  .glo "Unknown",
  .glo "NotEnd",
  .glo "Deal",
  .glo "check_station",
  .glo "check_count",
  .glo "check_pile",
  .glo "check_total",
  .glo "check_piles",
  .glo "check_starts",
  .glo "tally_of",
  .glo "make_deal",
  .glo "sizes_of",
  .glo "pack_of",
  .glo "begins_of",
  .glo "counts_at_end",
  .glo "need_counts",
  .glo "other_row",
  .glo "end_counts",
  .glo "others",
  .glo "aim",
  .glo "check_some",
  .glo "check_trail",
  .glo "deal_of",
  .glo "last_leavings",
  .glo "first_comings",
  .glo "turned",
  .glo "_law_mix",
  .glo "_law_store",
  .glo "_law_take",
  .glo "_law_number",
  .glo "_law_shuffled",
  .glo "_law_trail",
  .glo "_law_alike",
  .glo "_law_kind",
  .glo "_law_walked",
  .glo "_law_trail_piles",
  .glo "_law_limit",
  .glo "_law_last_leavings",
  .glo "_law_bent_walk",
  .glo "_law_first_comings",
  .glo "_law_door",
  .glo "_law_turn_right",
  .glo "law",
  .free "len",
  .free "abs",
  .free "sum",
  .free "min",
  .free "max",
  .free "int",
  .free "bool",
  .free "tuple",
  .free "list",
  .free "range",
  .free "enumerate",
  .free "zip",
  .free "isinstance",
  .free "sorted",
  .free "str",
  .free "ValueError",
  .free "set",
  .free "dict",
  .cls "Deal",
  .mkr "Deal",
  .noat "Deal" "piles",
  .noat "Deal" "starts",
  .noat "BadStation" "station",
  .exm "BadStation" "Refused" true,
  .noat "Empty" "what",
  .exm "Empty" "Refused" true,
  .noat "TooMany" "what",
  .noat "TooMany" "limit",
  .exm "TooMany" "Refused" true,
  .noat "Unframed" "station",
  .exm "Unframed" "Refused" true]
def d_BadStation___init__ : He.DefD := ⟨("BadStation", some "__init__"), "__init__", "BadStation.__init__", defArgs s_BadStation___init__, defBody s_BadStation___init__, defScope s_BadStation___init__, [], []⟩
def d_TooMany___init__ : He.DefD := ⟨("TooMany", some "__init__"), "__init__", "TooMany.__init__", defArgs s_TooMany___init__, defBody s_TooMany___init__, defScope s_TooMany___init__, [], []⟩
def d_Empty___init__ : He.DefD := ⟨("Empty", some "__init__"), "__init__", "Empty.__init__", defArgs s_Empty___init__, defBody s_Empty___init__, defScope s_Empty___init__, [], []⟩
def d_Unframed___init__ : He.DefD := ⟨("Unframed", some "__init__"), "__init__", "Unframed.__init__", defArgs s_Unframed___init__, defBody s_Unframed___init__, defScope s_Unframed___init__, [], []⟩
def d_Deal___init__ : He.DefD := ⟨("Deal", some "__init__"), "__init__", "Deal.__init__", defArgs s_Deal___init__, defBody s_Deal___init__, defScope s_Deal___init__, [], []⟩
def d_Deal___eq__ : He.DefD := ⟨("Deal", some "__eq__"), "__eq__", "Deal.__eq__", defArgs s_Deal___eq__, defBody s_Deal___eq__, defScope s_Deal___eq__, [], []⟩
def d_Deal___len__ : He.DefD := ⟨("Deal", some "__len__"), "__len__", "Deal.__len__", defArgs s_Deal___len__, defBody s_Deal___len__, defScope s_Deal___len__, [], []⟩
def d_check_station : He.DefD := ⟨("check_station", none), "check_station", "check_station", defArgs s_check_station, defBody s_check_station, defScope s_check_station, [], []⟩
def d_check_count : He.DefD := ⟨("check_count", none), "check_count", "check_count", defArgs s_check_count, defBody s_check_count, defScope s_check_count, [], []⟩
def d_check_pile : He.DefD := ⟨("check_pile", none), "check_pile", "check_pile", defArgs s_check_pile, defBody s_check_pile, defScope s_check_pile, [], []⟩
def d_check_total : He.DefD := ⟨("check_total", none), "check_total", "check_total", defArgs s_check_total, defBody s_check_total, defScope s_check_total, [], []⟩
def d_check_piles : He.DefD := ⟨("check_piles", none), "check_piles", "check_piles", defArgs s_check_piles, defBody s_check_piles, defScope s_check_piles, [], []⟩
def d_check_starts : He.DefD := ⟨("check_starts", none), "check_starts", "check_starts", defArgs s_check_starts, defBody s_check_starts, defScope s_check_starts, [], []⟩
def d_tally_of : He.DefD := ⟨("tally_of", none), "tally_of", "tally_of", defArgs s_tally_of, defBody s_tally_of, defScope s_tally_of, [], []⟩
def d_make_deal : He.DefD := ⟨("make_deal", none), "make_deal", "make_deal", defArgs s_make_deal, defBody s_make_deal, defScope s_make_deal, [.adr (He.dflAt ("make_deal", none) 0)], []⟩
def d_sizes_of : He.DefD := ⟨("sizes_of", none), "sizes_of", "sizes_of", defArgs s_sizes_of, defBody s_sizes_of, defScope s_sizes_of, [], []⟩
def d_pack_of : He.DefD := ⟨("pack_of", none), "pack_of", "pack_of", defArgs s_pack_of, defBody s_pack_of, defScope s_pack_of, [], []⟩
def d_begins_of : He.DefD := ⟨("begins_of", none), "begins_of", "begins_of", defArgs s_begins_of, defBody s_begins_of, defScope s_begins_of, [], []⟩
def d_counts_at_end : He.DefD := ⟨("counts_at_end", none), "counts_at_end", "counts_at_end", defArgs s_counts_at_end, defBody s_counts_at_end, defScope s_counts_at_end, [], []⟩
def d_need_counts : He.DefD := ⟨("need_counts", none), "need_counts", "need_counts", defArgs s_need_counts, defBody s_need_counts, defScope s_need_counts, [], []⟩
def d_other_row : He.DefD := ⟨("other_row", none), "other_row", "other_row", defArgs s_other_row, defBody s_other_row, defScope s_other_row, [], []⟩
def d_end_counts : He.DefD := ⟨("end_counts", none), "end_counts", "end_counts", defArgs s_end_counts, defBody s_end_counts, defScope s_end_counts, [], []⟩
def d_others : He.DefD := ⟨("others", none), "others", "others", defArgs s_others, defBody s_others, defScope s_others, [], []⟩
def d_aim : He.DefD := ⟨("aim", none), "aim", "aim", defArgs s_aim, defBody s_aim, defScope s_aim, [], []⟩
def d_check_some : He.DefD := ⟨("check_some", none), "check_some", "check_some", defArgs s_check_some, defBody s_check_some, defScope s_check_some, [], []⟩
def d_check_trail : He.DefD := ⟨("check_trail", none), "check_trail", "check_trail", defArgs s_check_trail, defBody s_check_trail, defScope s_check_trail, [], []⟩
def d_deal_of : He.DefD := ⟨("deal_of", none), "deal_of", "deal_of", defArgs s_deal_of, defBody s_deal_of, defScope s_deal_of, [], []⟩
def d_last_leavings : He.DefD := ⟨("last_leavings", none), "last_leavings", "last_leavings", defArgs s_last_leavings, defBody s_last_leavings, defScope s_last_leavings, [], []⟩
def d_first_comings : He.DefD := ⟨("first_comings", none), "first_comings", "first_comings", defArgs s_first_comings, defBody s_first_comings, defScope s_first_comings, [], []⟩
def d_turned : He.DefD := ⟨("turned", none), "turned", "turned", defArgs s_turned, defBody s_turned, defScope s_turned, [], []⟩
def d__law_mix : He.DefD := ⟨("_law_mix", none), "_law_mix", "_law_mix", defArgs s__law_mix, defBody s__law_mix, defScope s__law_mix, [], []⟩
def d__law_store : He.DefD := ⟨("_law_store", none), "_law_store", "_law_store", defArgs s__law_store, defBody s__law_store, defScope s__law_store, [], []⟩
def d__law_take : He.DefD := ⟨("_law_take", none), "_law_take", "_law_take", defArgs s__law_take, defBody s__law_take, defScope s__law_take, [], []⟩
def d__law_number : He.DefD := ⟨("_law_number", none), "_law_number", "_law_number", defArgs s__law_number, defBody s__law_number, defScope s__law_number, [], []⟩
def d__law_shuffled : He.DefD := ⟨("_law_shuffled", none), "_law_shuffled", "_law_shuffled", defArgs s__law_shuffled, defBody s__law_shuffled, defScope s__law_shuffled, [], []⟩
def d__law_trail : He.DefD := ⟨("_law_trail", none), "_law_trail", "_law_trail", defArgs s__law_trail, defBody s__law_trail, defScope s__law_trail, [], []⟩
def d__law_alike : He.DefD := ⟨("_law_alike", none), "_law_alike", "_law_alike", defArgs s__law_alike, defBody s__law_alike, defScope s__law_alike, [], []⟩
def d__law_kind : He.DefD := ⟨("_law_kind", none), "_law_kind", "_law_kind", defArgs s__law_kind, defBody s__law_kind, defScope s__law_kind, [], []⟩
def d__law_walked : He.DefD := ⟨("_law_walked", none), "_law_walked", "_law_walked", defArgs s__law_walked, defBody s__law_walked, defScope s__law_walked, [], []⟩
def d__law_trail_piles : He.DefD := ⟨("_law_trail_piles", none), "_law_trail_piles", "_law_trail_piles", defArgs s__law_trail_piles, defBody s__law_trail_piles, defScope s__law_trail_piles, [], []⟩
def d__law_limit : He.DefD := ⟨("_law_limit", none), "_law_limit", "_law_limit", defArgs s__law_limit, defBody s__law_limit, defScope s__law_limit, [], []⟩
def d__law_last_leavings : He.DefD := ⟨("_law_last_leavings", none), "_law_last_leavings", "_law_last_leavings", defArgs s__law_last_leavings, defBody s__law_last_leavings, defScope s__law_last_leavings, [], []⟩
def d__law_bent_walk : He.DefD := ⟨("_law_bent_walk", none), "_law_bent_walk", "_law_bent_walk", defArgs s__law_bent_walk, defBody s__law_bent_walk, defScope s__law_bent_walk, [], []⟩
def d__law_first_comings : He.DefD := ⟨("_law_first_comings", none), "_law_first_comings", "_law_first_comings", defArgs s__law_first_comings, defBody s__law_first_comings, defScope s__law_first_comings, [], []⟩
def d__law_door : He.DefD := ⟨("_law_door", none), "_law_door", "_law_door", defArgs s__law_door, defBody s__law_door, defScope s__law_door, [], []⟩
def d__law_turn_right : He.DefD := ⟨("_law_turn_right", none), "_law_turn_right", "_law_turn_right", defArgs s__law_turn_right, defBody s__law_turn_right, defScope s__law_turn_right, [], []⟩
def d_law : He.DefD := ⟨("law", none), "law", "law", defArgs s_law, defBody s_law, defScope s_law, [], []⟩
def fn : List He.DefD := [d_BadStation___init__, d_TooMany___init__, d_Empty___init__, d_Unframed___init__, d_Deal___init__, d_Deal___eq__, d_Deal___len__, d_check_station, d_check_count, d_check_pile, d_check_total, d_check_piles, d_check_starts, d_tally_of, d_make_deal, d_sizes_of, d_pack_of, d_begins_of, d_counts_at_end, d_need_counts, d_other_row, d_end_counts, d_others, d_aim, d_check_some, d_check_trail, d_deal_of, d_last_leavings, d_first_comings, d_turned, d__law_mix, d__law_store, d__law_take, d__law_number, d__law_shuffled, d__law_trail, d__law_alike, d__law_kind, d__law_walked, d__law_trail_piles, d__law_limit, d__law_last_leavings, d__law_bent_walk, d__law_first_comings, d__law_door, d__law_turn_right, d_law]
def errs : List Str := ["BadStation", "Empty", "TooMany", "Unframed"]
def kinds : List Str := ["BadStation", "TooMany", "Empty", "Unframed"]
def classes : List Str := ["BadText", "Malformed", "BadStation", "BadPlace", "BadNumber", "TooMany", "Empty", "Unframed", "NotPack", "Unlike", "Stuck", "NothingBack", "LeftOver", "NotTrail", "Blocked", "Unnamed", "Opened", "Missing", "NotLocal", "NoPlan", "Doubled", "BadCard", "Unknown", "NotEnd"]
def exb (K : PySem.W.Frag) : Bool := errsB K errs && kitsB K kinds classes && readB K (He.ga K "Deal") && conB K (He.ga K "Deal") "STATIONS" 40 && conB K (He.ga K "Deal") "PILE" 60 && conB K (He.ga K "Deal") "SLIPS" 300 && conB K (He.ga K "Deal") "COURIERS" 40
structure Tx (K : PySem.W.Frag) (mg : Str → Option Value) : Prop where
  h : ∃ h : Heap, K.In h ∧ h.Ns mainGlobals mg
  s : Says fa fn exb K
section
variable {K : PySem.W.Frag} {mg : Str → Option Value} {P : Program} {w : World} {base : Heap}
theorem Tx.g_Refused (T : Tx K mg) : mg "Refused" = some (.ref (He.ga K "Refused")) := T.h.elim fun _ h => He.glo_ok h.1 h.2 (T.s.d.fact 0 (f := .glo "Refused") rfl)
theorem Tx.g_BadText (T : Tx K mg) : mg "BadText" = some (.ref (He.ga K "BadText")) := T.h.elim fun _ h => He.glo_ok h.1 h.2 (T.s.d.fact 1 (f := .glo "BadText") rfl)
theorem Tx.g_Malformed (T : Tx K mg) : mg "Malformed" = some (.ref (He.ga K "Malformed")) := T.h.elim fun _ h => He.glo_ok h.1 h.2 (T.s.d.fact 2 (f := .glo "Malformed") rfl)
theorem Tx.g_BadStation (T : Tx K mg) : mg "BadStation" = some (.ref (He.ga K "BadStation")) := T.h.elim fun _ h => He.glo_ok h.1 h.2 (T.s.d.fact 3 (f := .glo "BadStation") rfl)
theorem Tx.g_BadPlace (T : Tx K mg) : mg "BadPlace" = some (.ref (He.ga K "BadPlace")) := T.h.elim fun _ h => He.glo_ok h.1 h.2 (T.s.d.fact 4 (f := .glo "BadPlace") rfl)
theorem Tx.g_BadNumber (T : Tx K mg) : mg "BadNumber" = some (.ref (He.ga K "BadNumber")) := T.h.elim fun _ h => He.glo_ok h.1 h.2 (T.s.d.fact 5 (f := .glo "BadNumber") rfl)
theorem Tx.g_TooMany (T : Tx K mg) : mg "TooMany" = some (.ref (He.ga K "TooMany")) := T.h.elim fun _ h => He.glo_ok h.1 h.2 (T.s.d.fact 6 (f := .glo "TooMany") rfl)
theorem Tx.g_Empty (T : Tx K mg) : mg "Empty" = some (.ref (He.ga K "Empty")) := T.h.elim fun _ h => He.glo_ok h.1 h.2 (T.s.d.fact 7 (f := .glo "Empty") rfl)
theorem Tx.g_Unframed (T : Tx K mg) : mg "Unframed" = some (.ref (He.ga K "Unframed")) := T.h.elim fun _ h => He.glo_ok h.1 h.2 (T.s.d.fact 8 (f := .glo "Unframed") rfl)
theorem Tx.g_NotPack (T : Tx K mg) : mg "NotPack" = some (.ref (He.ga K "NotPack")) := T.h.elim fun _ h => He.glo_ok h.1 h.2 (T.s.d.fact 9 (f := .glo "NotPack") rfl)
theorem Tx.g_Unlike (T : Tx K mg) : mg "Unlike" = some (.ref (He.ga K "Unlike")) := T.h.elim fun _ h => He.glo_ok h.1 h.2 (T.s.d.fact 10 (f := .glo "Unlike") rfl)
theorem Tx.g_Stuck (T : Tx K mg) : mg "Stuck" = some (.ref (He.ga K "Stuck")) := T.h.elim fun _ h => He.glo_ok h.1 h.2 (T.s.d.fact 11 (f := .glo "Stuck") rfl)
theorem Tx.g_NothingBack (T : Tx K mg) : mg "NothingBack" = some (.ref (He.ga K "NothingBack")) := T.h.elim fun _ h => He.glo_ok h.1 h.2 (T.s.d.fact 12 (f := .glo "NothingBack") rfl)
theorem Tx.g_LeftOver (T : Tx K mg) : mg "LeftOver" = some (.ref (He.ga K "LeftOver")) := T.h.elim fun _ h => He.glo_ok h.1 h.2 (T.s.d.fact 13 (f := .glo "LeftOver") rfl)
theorem Tx.g_NotTrail (T : Tx K mg) : mg "NotTrail" = some (.ref (He.ga K "NotTrail")) := T.h.elim fun _ h => He.glo_ok h.1 h.2 (T.s.d.fact 14 (f := .glo "NotTrail") rfl)
theorem Tx.g_Blocked (T : Tx K mg) : mg "Blocked" = some (.ref (He.ga K "Blocked")) := T.h.elim fun _ h => He.glo_ok h.1 h.2 (T.s.d.fact 15 (f := .glo "Blocked") rfl)
theorem Tx.g_Unnamed (T : Tx K mg) : mg "Unnamed" = some (.ref (He.ga K "Unnamed")) := T.h.elim fun _ h => He.glo_ok h.1 h.2 (T.s.d.fact 16 (f := .glo "Unnamed") rfl)
theorem Tx.g_Opened (T : Tx K mg) : mg "Opened" = some (.ref (He.ga K "Opened")) := T.h.elim fun _ h => He.glo_ok h.1 h.2 (T.s.d.fact 17 (f := .glo "Opened") rfl)
theorem Tx.g_Missing (T : Tx K mg) : mg "Missing" = some (.ref (He.ga K "Missing")) := T.h.elim fun _ h => He.glo_ok h.1 h.2 (T.s.d.fact 18 (f := .glo "Missing") rfl)
theorem Tx.g_NotLocal (T : Tx K mg) : mg "NotLocal" = some (.ref (He.ga K "NotLocal")) := T.h.elim fun _ h => He.glo_ok h.1 h.2 (T.s.d.fact 19 (f := .glo "NotLocal") rfl)
theorem Tx.g_NoPlan (T : Tx K mg) : mg "NoPlan" = some (.ref (He.ga K "NoPlan")) := T.h.elim fun _ h => He.glo_ok h.1 h.2 (T.s.d.fact 20 (f := .glo "NoPlan") rfl)
theorem Tx.g_Doubled (T : Tx K mg) : mg "Doubled" = some (.ref (He.ga K "Doubled")) := T.h.elim fun _ h => He.glo_ok h.1 h.2 (T.s.d.fact 21 (f := .glo "Doubled") rfl)
theorem Tx.g_BadCard (T : Tx K mg) : mg "BadCard" = some (.ref (He.ga K "BadCard")) := T.h.elim fun _ h => He.glo_ok h.1 h.2 (T.s.d.fact 22 (f := .glo "BadCard") rfl)
theorem Tx.g_Unknown (T : Tx K mg) : mg "Unknown" = some (.ref (He.ga K "Unknown")) := T.h.elim fun _ h => He.glo_ok h.1 h.2 (T.s.d.fact 23 (f := .glo "Unknown") rfl)
theorem Tx.g_NotEnd (T : Tx K mg) : mg "NotEnd" = some (.ref (He.ga K "NotEnd")) := T.h.elim fun _ h => He.glo_ok h.1 h.2 (T.s.d.fact 24 (f := .glo "NotEnd") rfl)
theorem Tx.g_Deal (T : Tx K mg) : mg "Deal" = some (.ref (He.ga K "Deal")) := T.h.elim fun _ h => He.glo_ok h.1 h.2 (T.s.d.fact 25 (f := .glo "Deal") rfl)
theorem Tx.g_check_station (T : Tx K mg) : mg "check_station" = some (.ref (He.ga K "check_station")) := T.h.elim fun _ h => He.glo_ok h.1 h.2 (T.s.d.fact 26 (f := .glo "check_station") rfl)
theorem Tx.g_check_count (T : Tx K mg) : mg "check_count" = some (.ref (He.ga K "check_count")) := T.h.elim fun _ h => He.glo_ok h.1 h.2 (T.s.d.fact 27 (f := .glo "check_count") rfl)
theorem Tx.g_check_pile (T : Tx K mg) : mg "check_pile" = some (.ref (He.ga K "check_pile")) := T.h.elim fun _ h => He.glo_ok h.1 h.2 (T.s.d.fact 28 (f := .glo "check_pile") rfl)
theorem Tx.g_check_total (T : Tx K mg) : mg "check_total" = some (.ref (He.ga K "check_total")) := T.h.elim fun _ h => He.glo_ok h.1 h.2 (T.s.d.fact 29 (f := .glo "check_total") rfl)
theorem Tx.g_check_piles (T : Tx K mg) : mg "check_piles" = some (.ref (He.ga K "check_piles")) := T.h.elim fun _ h => He.glo_ok h.1 h.2 (T.s.d.fact 30 (f := .glo "check_piles") rfl)
theorem Tx.g_check_starts (T : Tx K mg) : mg "check_starts" = some (.ref (He.ga K "check_starts")) := T.h.elim fun _ h => He.glo_ok h.1 h.2 (T.s.d.fact 31 (f := .glo "check_starts") rfl)
theorem Tx.g_tally_of (T : Tx K mg) : mg "tally_of" = some (.ref (He.ga K "tally_of")) := T.h.elim fun _ h => He.glo_ok h.1 h.2 (T.s.d.fact 32 (f := .glo "tally_of") rfl)
theorem Tx.g_make_deal (T : Tx K mg) : mg "make_deal" = some (.ref (He.ga K "make_deal")) := T.h.elim fun _ h => He.glo_ok h.1 h.2 (T.s.d.fact 33 (f := .glo "make_deal") rfl)
theorem Tx.g_sizes_of (T : Tx K mg) : mg "sizes_of" = some (.ref (He.ga K "sizes_of")) := T.h.elim fun _ h => He.glo_ok h.1 h.2 (T.s.d.fact 34 (f := .glo "sizes_of") rfl)
theorem Tx.g_pack_of (T : Tx K mg) : mg "pack_of" = some (.ref (He.ga K "pack_of")) := T.h.elim fun _ h => He.glo_ok h.1 h.2 (T.s.d.fact 35 (f := .glo "pack_of") rfl)
theorem Tx.g_begins_of (T : Tx K mg) : mg "begins_of" = some (.ref (He.ga K "begins_of")) := T.h.elim fun _ h => He.glo_ok h.1 h.2 (T.s.d.fact 36 (f := .glo "begins_of") rfl)
theorem Tx.g_counts_at_end (T : Tx K mg) : mg "counts_at_end" = some (.ref (He.ga K "counts_at_end")) := T.h.elim fun _ h => He.glo_ok h.1 h.2 (T.s.d.fact 37 (f := .glo "counts_at_end") rfl)
theorem Tx.g_need_counts (T : Tx K mg) : mg "need_counts" = some (.ref (He.ga K "need_counts")) := T.h.elim fun _ h => He.glo_ok h.1 h.2 (T.s.d.fact 38 (f := .glo "need_counts") rfl)
theorem Tx.g_other_row (T : Tx K mg) : mg "other_row" = some (.ref (He.ga K "other_row")) := T.h.elim fun _ h => He.glo_ok h.1 h.2 (T.s.d.fact 39 (f := .glo "other_row") rfl)
theorem Tx.g_end_counts (T : Tx K mg) : mg "end_counts" = some (.ref (He.ga K "end_counts")) := T.h.elim fun _ h => He.glo_ok h.1 h.2 (T.s.d.fact 40 (f := .glo "end_counts") rfl)
theorem Tx.g_others (T : Tx K mg) : mg "others" = some (.ref (He.ga K "others")) := T.h.elim fun _ h => He.glo_ok h.1 h.2 (T.s.d.fact 41 (f := .glo "others") rfl)
theorem Tx.g_aim (T : Tx K mg) : mg "aim" = some (.ref (He.ga K "aim")) := T.h.elim fun _ h => He.glo_ok h.1 h.2 (T.s.d.fact 42 (f := .glo "aim") rfl)
theorem Tx.g_check_some (T : Tx K mg) : mg "check_some" = some (.ref (He.ga K "check_some")) := T.h.elim fun _ h => He.glo_ok h.1 h.2 (T.s.d.fact 43 (f := .glo "check_some") rfl)
theorem Tx.g_check_trail (T : Tx K mg) : mg "check_trail" = some (.ref (He.ga K "check_trail")) := T.h.elim fun _ h => He.glo_ok h.1 h.2 (T.s.d.fact 44 (f := .glo "check_trail") rfl)
theorem Tx.g_deal_of (T : Tx K mg) : mg "deal_of" = some (.ref (He.ga K "deal_of")) := T.h.elim fun _ h => He.glo_ok h.1 h.2 (T.s.d.fact 45 (f := .glo "deal_of") rfl)
theorem Tx.g_last_leavings (T : Tx K mg) : mg "last_leavings" = some (.ref (He.ga K "last_leavings")) := T.h.elim fun _ h => He.glo_ok h.1 h.2 (T.s.d.fact 46 (f := .glo "last_leavings") rfl)
theorem Tx.g_first_comings (T : Tx K mg) : mg "first_comings" = some (.ref (He.ga K "first_comings")) := T.h.elim fun _ h => He.glo_ok h.1 h.2 (T.s.d.fact 47 (f := .glo "first_comings") rfl)
theorem Tx.g_turned (T : Tx K mg) : mg "turned" = some (.ref (He.ga K "turned")) := T.h.elim fun _ h => He.glo_ok h.1 h.2 (T.s.d.fact 48 (f := .glo "turned") rfl)
theorem Tx.g__law_mix (T : Tx K mg) : mg "_law_mix" = some (.ref (He.ga K "_law_mix")) := T.h.elim fun _ h => He.glo_ok h.1 h.2 (T.s.d.fact 49 (f := .glo "_law_mix") rfl)
theorem Tx.g__law_store (T : Tx K mg) : mg "_law_store" = some (.ref (He.ga K "_law_store")) := T.h.elim fun _ h => He.glo_ok h.1 h.2 (T.s.d.fact 50 (f := .glo "_law_store") rfl)
theorem Tx.g__law_take (T : Tx K mg) : mg "_law_take" = some (.ref (He.ga K "_law_take")) := T.h.elim fun _ h => He.glo_ok h.1 h.2 (T.s.d.fact 51 (f := .glo "_law_take") rfl)
theorem Tx.g__law_number (T : Tx K mg) : mg "_law_number" = some (.ref (He.ga K "_law_number")) := T.h.elim fun _ h => He.glo_ok h.1 h.2 (T.s.d.fact 52 (f := .glo "_law_number") rfl)
theorem Tx.g__law_shuffled (T : Tx K mg) : mg "_law_shuffled" = some (.ref (He.ga K "_law_shuffled")) := T.h.elim fun _ h => He.glo_ok h.1 h.2 (T.s.d.fact 53 (f := .glo "_law_shuffled") rfl)
theorem Tx.g__law_trail (T : Tx K mg) : mg "_law_trail" = some (.ref (He.ga K "_law_trail")) := T.h.elim fun _ h => He.glo_ok h.1 h.2 (T.s.d.fact 54 (f := .glo "_law_trail") rfl)
theorem Tx.g__law_alike (T : Tx K mg) : mg "_law_alike" = some (.ref (He.ga K "_law_alike")) := T.h.elim fun _ h => He.glo_ok h.1 h.2 (T.s.d.fact 55 (f := .glo "_law_alike") rfl)
theorem Tx.g__law_kind (T : Tx K mg) : mg "_law_kind" = some (.ref (He.ga K "_law_kind")) := T.h.elim fun _ h => He.glo_ok h.1 h.2 (T.s.d.fact 56 (f := .glo "_law_kind") rfl)
theorem Tx.g__law_walked (T : Tx K mg) : mg "_law_walked" = some (.ref (He.ga K "_law_walked")) := T.h.elim fun _ h => He.glo_ok h.1 h.2 (T.s.d.fact 57 (f := .glo "_law_walked") rfl)
theorem Tx.g__law_trail_piles (T : Tx K mg) : mg "_law_trail_piles" = some (.ref (He.ga K "_law_trail_piles")) := T.h.elim fun _ h => He.glo_ok h.1 h.2 (T.s.d.fact 58 (f := .glo "_law_trail_piles") rfl)
theorem Tx.g__law_limit (T : Tx K mg) : mg "_law_limit" = some (.ref (He.ga K "_law_limit")) := T.h.elim fun _ h => He.glo_ok h.1 h.2 (T.s.d.fact 59 (f := .glo "_law_limit") rfl)
theorem Tx.g__law_last_leavings (T : Tx K mg) : mg "_law_last_leavings" = some (.ref (He.ga K "_law_last_leavings")) := T.h.elim fun _ h => He.glo_ok h.1 h.2 (T.s.d.fact 60 (f := .glo "_law_last_leavings") rfl)
theorem Tx.g__law_bent_walk (T : Tx K mg) : mg "_law_bent_walk" = some (.ref (He.ga K "_law_bent_walk")) := T.h.elim fun _ h => He.glo_ok h.1 h.2 (T.s.d.fact 61 (f := .glo "_law_bent_walk") rfl)
theorem Tx.g__law_first_comings (T : Tx K mg) : mg "_law_first_comings" = some (.ref (He.ga K "_law_first_comings")) := T.h.elim fun _ h => He.glo_ok h.1 h.2 (T.s.d.fact 62 (f := .glo "_law_first_comings") rfl)
theorem Tx.g__law_door (T : Tx K mg) : mg "_law_door" = some (.ref (He.ga K "_law_door")) := T.h.elim fun _ h => He.glo_ok h.1 h.2 (T.s.d.fact 63 (f := .glo "_law_door") rfl)
theorem Tx.g__law_turn_right (T : Tx K mg) : mg "_law_turn_right" = some (.ref (He.ga K "_law_turn_right")) := T.h.elim fun _ h => He.glo_ok h.1 h.2 (T.s.d.fact 64 (f := .glo "_law_turn_right") rfl)
theorem Tx.g_law (T : Tx K mg) : mg "law" = some (.ref (He.ga K "law")) := T.h.elim fun _ h => He.glo_ok h.1 h.2 (T.s.d.fact 65 (f := .glo "law") rfl)
theorem Tx.m_len (T : Tx K mg) : mg "len" = none := T.h.elim fun _ h => He.free_ok h.1 h.2 (T.s.d.fact 66 (f := .free "len") rfl)
theorem Tx.m_abs (T : Tx K mg) : mg "abs" = none := T.h.elim fun _ h => He.free_ok h.1 h.2 (T.s.d.fact 67 (f := .free "abs") rfl)
theorem Tx.m_sum (T : Tx K mg) : mg "sum" = none := T.h.elim fun _ h => He.free_ok h.1 h.2 (T.s.d.fact 68 (f := .free "sum") rfl)
theorem Tx.m_min (T : Tx K mg) : mg "min" = none := T.h.elim fun _ h => He.free_ok h.1 h.2 (T.s.d.fact 69 (f := .free "min") rfl)
theorem Tx.m_max (T : Tx K mg) : mg "max" = none := T.h.elim fun _ h => He.free_ok h.1 h.2 (T.s.d.fact 70 (f := .free "max") rfl)
theorem Tx.m_int (T : Tx K mg) : mg "int" = none := T.h.elim fun _ h => He.free_ok h.1 h.2 (T.s.d.fact 71 (f := .free "int") rfl)
theorem Tx.m_bool (T : Tx K mg) : mg "bool" = none := T.h.elim fun _ h => He.free_ok h.1 h.2 (T.s.d.fact 72 (f := .free "bool") rfl)
theorem Tx.m_tuple (T : Tx K mg) : mg "tuple" = none := T.h.elim fun _ h => He.free_ok h.1 h.2 (T.s.d.fact 73 (f := .free "tuple") rfl)
theorem Tx.m_list (T : Tx K mg) : mg "list" = none := T.h.elim fun _ h => He.free_ok h.1 h.2 (T.s.d.fact 74 (f := .free "list") rfl)
theorem Tx.m_range (T : Tx K mg) : mg "range" = none := T.h.elim fun _ h => He.free_ok h.1 h.2 (T.s.d.fact 75 (f := .free "range") rfl)
theorem Tx.m_enumerate (T : Tx K mg) : mg "enumerate" = none := T.h.elim fun _ h => He.free_ok h.1 h.2 (T.s.d.fact 76 (f := .free "enumerate") rfl)
theorem Tx.m_zip (T : Tx K mg) : mg "zip" = none := T.h.elim fun _ h => He.free_ok h.1 h.2 (T.s.d.fact 77 (f := .free "zip") rfl)
theorem Tx.m_isinstance (T : Tx K mg) : mg "isinstance" = none := T.h.elim fun _ h => He.free_ok h.1 h.2 (T.s.d.fact 78 (f := .free "isinstance") rfl)
theorem Tx.m_sorted (T : Tx K mg) : mg "sorted" = none := T.h.elim fun _ h => He.free_ok h.1 h.2 (T.s.d.fact 79 (f := .free "sorted") rfl)
theorem Tx.m_str (T : Tx K mg) : mg "str" = none := T.h.elim fun _ h => He.free_ok h.1 h.2 (T.s.d.fact 80 (f := .free "str") rfl)
theorem Tx.m_ValueError (T : Tx K mg) : mg "ValueError" = none := T.h.elim fun _ h => He.free_ok h.1 h.2 (T.s.d.fact 81 (f := .free "ValueError") rfl)
theorem Tx.m_set (T : Tx K mg) : mg "set" = none := T.h.elim fun _ h => He.free_ok h.1 h.2 (T.s.d.fact 82 (f := .free "set") rfl)
theorem Tx.m_dict (T : Tx K mg) : mg "dict" = none := T.h.elim fun _ h => He.free_ok h.1 h.2 (T.s.d.fact 83 (f := .free "dict") rfl)
theorem Tx.cls_Deal (T : Tx K mg) : Cls K (He.ga K "Deal") := He.cls_ok (T.s.d.fact 84 (f := .cls "Deal") rfl)
theorem Tx.mk_Deal (T : Tx K mg) : Mk K (He.ga K "Deal") (He.ma K (He.ga K "Deal") "__init__") := He.mkr_ok (T.s.d.fact 85 (f := .mkr "Deal") rfl)
theorem Tx.no_Deal_piles (T : Tx K mg) : PySem.W.findIn K (.ref (He.ga K "Deal")) "piles" = some none := He.noat_ok (T.s.d.fact 86 (f := .noat "Deal" "piles") rfl)
theorem Tx.no_Deal_starts (T : Tx K mg) : PySem.W.findIn K (.ref (He.ga K "Deal")) "starts" = some none := He.noat_ok (T.s.d.fact 87 (f := .noat "Deal" "starts") rfl)
theorem Tx.no_BadStation_station (T : Tx K mg) : PySem.W.findIn K (.ref (He.ga K "BadStation")) "station" = some none := He.noat_ok (T.s.d.fact 88 (f := .noat "BadStation" "station") rfl)
theorem Tx.ex_BadStation (T : Tx K mg) : PySem.W.exmOne K (.ref (He.ga K "BadStation")) (.ref (He.ga K "Refused")) = some true := He.exm_ok (T.s.d.fact 89 (f := .exm "BadStation" "Refused" true) rfl)
theorem Tx.no_Empty_what (T : Tx K mg) : PySem.W.findIn K (.ref (He.ga K "Empty")) "what" = some none := He.noat_ok (T.s.d.fact 90 (f := .noat "Empty" "what") rfl)
theorem Tx.ex_Empty (T : Tx K mg) : PySem.W.exmOne K (.ref (He.ga K "Empty")) (.ref (He.ga K "Refused")) = some true := He.exm_ok (T.s.d.fact 91 (f := .exm "Empty" "Refused" true) rfl)
theorem Tx.no_TooMany_what (T : Tx K mg) : PySem.W.findIn K (.ref (He.ga K "TooMany")) "what" = some none := He.noat_ok (T.s.d.fact 92 (f := .noat "TooMany" "what") rfl)
theorem Tx.no_TooMany_limit (T : Tx K mg) : PySem.W.findIn K (.ref (He.ga K "TooMany")) "limit" = some none := He.noat_ok (T.s.d.fact 93 (f := .noat "TooMany" "limit") rfl)
theorem Tx.ex_TooMany (T : Tx K mg) : PySem.W.exmOne K (.ref (He.ga K "TooMany")) (.ref (He.ga K "Refused")) = some true := He.exm_ok (T.s.d.fact 94 (f := .exm "TooMany" "Refused" true) rfl)
theorem Tx.no_Unframed_station (T : Tx K mg) : PySem.W.findIn K (.ref (He.ga K "Unframed")) "station" = some none := He.noat_ok (T.s.d.fact 95 (f := .noat "Unframed" "station") rfl)
theorem Tx.ex_Unframed (T : Tx K mg) : PySem.W.exmOne K (.ref (He.ga K "Unframed")) (.ref (He.ga K "Refused")) = some true := He.exm_ok (T.s.d.fact 96 (f := .exm "Unframed" "Refused" true) rfl)
theorem Tx.f_BadStation___init__ (T : Tx K mg) : ∃ fd, FunD K "__init__" "BadStation.__init__" (defArgs s_BadStation___init__) (defBody s_BadStation___init__) (defScope s_BadStation___init__) [] [] (He.ma K (He.ga K "BadStation") "__init__") fd := T.s.d.def_ 0 (d := d_BadStation___init__) rfl
theorem Tx.f_TooMany___init__ (T : Tx K mg) : ∃ fd, FunD K "__init__" "TooMany.__init__" (defArgs s_TooMany___init__) (defBody s_TooMany___init__) (defScope s_TooMany___init__) [] [] (He.ma K (He.ga K "TooMany") "__init__") fd := T.s.d.def_ 1 (d := d_TooMany___init__) rfl
theorem Tx.f_Empty___init__ (T : Tx K mg) : ∃ fd, FunD K "__init__" "Empty.__init__" (defArgs s_Empty___init__) (defBody s_Empty___init__) (defScope s_Empty___init__) [] [] (He.ma K (He.ga K "Empty") "__init__") fd := T.s.d.def_ 2 (d := d_Empty___init__) rfl
theorem Tx.f_Unframed___init__ (T : Tx K mg) : ∃ fd, FunD K "__init__" "Unframed.__init__" (defArgs s_Unframed___init__) (defBody s_Unframed___init__) (defScope s_Unframed___init__) [] [] (He.ma K (He.ga K "Unframed") "__init__") fd := T.s.d.def_ 3 (d := d_Unframed___init__) rfl
theorem Tx.f_Deal___init__ (T : Tx K mg) : ∃ fd, FunD K "__init__" "Deal.__init__" (defArgs s_Deal___init__) (defBody s_Deal___init__) (defScope s_Deal___init__) [] [] (He.ma K (He.ga K "Deal") "__init__") fd := T.s.d.def_ 4 (d := d_Deal___init__) rfl
theorem Tx.f_Deal___eq__ (T : Tx K mg) : ∃ fd, FunD K "__eq__" "Deal.__eq__" (defArgs s_Deal___eq__) (defBody s_Deal___eq__) (defScope s_Deal___eq__) [] [] (He.ma K (He.ga K "Deal") "__eq__") fd := T.s.d.def_ 5 (d := d_Deal___eq__) rfl
theorem Tx.f_Deal___len__ (T : Tx K mg) : ∃ fd, FunD K "__len__" "Deal.__len__" (defArgs s_Deal___len__) (defBody s_Deal___len__) (defScope s_Deal___len__) [] [] (He.ma K (He.ga K "Deal") "__len__") fd := T.s.d.def_ 6 (d := d_Deal___len__) rfl
theorem Tx.f_check_station (T : Tx K mg) : ∃ fd, FunD K "check_station" "check_station" (defArgs s_check_station) (defBody s_check_station) (defScope s_check_station) [] [] (He.ga K "check_station") fd := T.s.d.def_ 7 (d := d_check_station) rfl
theorem Tx.f_check_count (T : Tx K mg) : ∃ fd, FunD K "check_count" "check_count" (defArgs s_check_count) (defBody s_check_count) (defScope s_check_count) [] [] (He.ga K "check_count") fd := T.s.d.def_ 8 (d := d_check_count) rfl
theorem Tx.f_check_pile (T : Tx K mg) : ∃ fd, FunD K "check_pile" "check_pile" (defArgs s_check_pile) (defBody s_check_pile) (defScope s_check_pile) [] [] (He.ga K "check_pile") fd := T.s.d.def_ 9 (d := d_check_pile) rfl
theorem Tx.f_check_total (T : Tx K mg) : ∃ fd, FunD K "check_total" "check_total" (defArgs s_check_total) (defBody s_check_total) (defScope s_check_total) [] [] (He.ga K "check_total") fd := T.s.d.def_ 10 (d := d_check_total) rfl
theorem Tx.f_check_piles (T : Tx K mg) : ∃ fd, FunD K "check_piles" "check_piles" (defArgs s_check_piles) (defBody s_check_piles) (defScope s_check_piles) [] [] (He.ga K "check_piles") fd := T.s.d.def_ 11 (d := d_check_piles) rfl
theorem Tx.f_check_starts (T : Tx K mg) : ∃ fd, FunD K "check_starts" "check_starts" (defArgs s_check_starts) (defBody s_check_starts) (defScope s_check_starts) [] [] (He.ga K "check_starts") fd := T.s.d.def_ 12 (d := d_check_starts) rfl
theorem Tx.f_tally_of (T : Tx K mg) : ∃ fd, FunD K "tally_of" "tally_of" (defArgs s_tally_of) (defBody s_tally_of) (defScope s_tally_of) [] [] (He.ga K "tally_of") fd := T.s.d.def_ 13 (d := d_tally_of) rfl
theorem Tx.f_make_deal (T : Tx K mg) : ∃ fd, FunD K "make_deal" "make_deal" (defArgs s_make_deal) (defBody s_make_deal) (defScope s_make_deal) ((d_make_deal).dvs K) [] (He.ga K "make_deal") fd := T.s.d.def_ 14 (d := d_make_deal) rfl
theorem Tx.f_sizes_of (T : Tx K mg) : ∃ fd, FunD K "sizes_of" "sizes_of" (defArgs s_sizes_of) (defBody s_sizes_of) (defScope s_sizes_of) [] [] (He.ga K "sizes_of") fd := T.s.d.def_ 15 (d := d_sizes_of) rfl
theorem Tx.f_pack_of (T : Tx K mg) : ∃ fd, FunD K "pack_of" "pack_of" (defArgs s_pack_of) (defBody s_pack_of) (defScope s_pack_of) [] [] (He.ga K "pack_of") fd := T.s.d.def_ 16 (d := d_pack_of) rfl
theorem Tx.f_begins_of (T : Tx K mg) : ∃ fd, FunD K "begins_of" "begins_of" (defArgs s_begins_of) (defBody s_begins_of) (defScope s_begins_of) [] [] (He.ga K "begins_of") fd := T.s.d.def_ 17 (d := d_begins_of) rfl
theorem Tx.f_counts_at_end (T : Tx K mg) : ∃ fd, FunD K "counts_at_end" "counts_at_end" (defArgs s_counts_at_end) (defBody s_counts_at_end) (defScope s_counts_at_end) [] [] (He.ga K "counts_at_end") fd := T.s.d.def_ 18 (d := d_counts_at_end) rfl
theorem Tx.f_need_counts (T : Tx K mg) : ∃ fd, FunD K "need_counts" "need_counts" (defArgs s_need_counts) (defBody s_need_counts) (defScope s_need_counts) [] [] (He.ga K "need_counts") fd := T.s.d.def_ 19 (d := d_need_counts) rfl
theorem Tx.f_other_row (T : Tx K mg) : ∃ fd, FunD K "other_row" "other_row" (defArgs s_other_row) (defBody s_other_row) (defScope s_other_row) [] [] (He.ga K "other_row") fd := T.s.d.def_ 20 (d := d_other_row) rfl
theorem Tx.f_end_counts (T : Tx K mg) : ∃ fd, FunD K "end_counts" "end_counts" (defArgs s_end_counts) (defBody s_end_counts) (defScope s_end_counts) [] [] (He.ga K "end_counts") fd := T.s.d.def_ 21 (d := d_end_counts) rfl
theorem Tx.f_others (T : Tx K mg) : ∃ fd, FunD K "others" "others" (defArgs s_others) (defBody s_others) (defScope s_others) [] [] (He.ga K "others") fd := T.s.d.def_ 22 (d := d_others) rfl
theorem Tx.f_aim (T : Tx K mg) : ∃ fd, FunD K "aim" "aim" (defArgs s_aim) (defBody s_aim) (defScope s_aim) [] [] (He.ga K "aim") fd := T.s.d.def_ 23 (d := d_aim) rfl
theorem Tx.f_check_some (T : Tx K mg) : ∃ fd, FunD K "check_some" "check_some" (defArgs s_check_some) (defBody s_check_some) (defScope s_check_some) [] [] (He.ga K "check_some") fd := T.s.d.def_ 24 (d := d_check_some) rfl
theorem Tx.f_check_trail (T : Tx K mg) : ∃ fd, FunD K "check_trail" "check_trail" (defArgs s_check_trail) (defBody s_check_trail) (defScope s_check_trail) [] [] (He.ga K "check_trail") fd := T.s.d.def_ 25 (d := d_check_trail) rfl
theorem Tx.f_deal_of (T : Tx K mg) : ∃ fd, FunD K "deal_of" "deal_of" (defArgs s_deal_of) (defBody s_deal_of) (defScope s_deal_of) [] [] (He.ga K "deal_of") fd := T.s.d.def_ 26 (d := d_deal_of) rfl
theorem Tx.f_last_leavings (T : Tx K mg) : ∃ fd, FunD K "last_leavings" "last_leavings" (defArgs s_last_leavings) (defBody s_last_leavings) (defScope s_last_leavings) [] [] (He.ga K "last_leavings") fd := T.s.d.def_ 27 (d := d_last_leavings) rfl
theorem Tx.f_first_comings (T : Tx K mg) : ∃ fd, FunD K "first_comings" "first_comings" (defArgs s_first_comings) (defBody s_first_comings) (defScope s_first_comings) [] [] (He.ga K "first_comings") fd := T.s.d.def_ 28 (d := d_first_comings) rfl
theorem Tx.f_turned (T : Tx K mg) : ∃ fd, FunD K "turned" "turned" (defArgs s_turned) (defBody s_turned) (defScope s_turned) [] [] (He.ga K "turned") fd := T.s.d.def_ 29 (d := d_turned) rfl
theorem Tx.f__law_mix (T : Tx K mg) : ∃ fd, FunD K "_law_mix" "_law_mix" (defArgs s__law_mix) (defBody s__law_mix) (defScope s__law_mix) [] [] (He.ga K "_law_mix") fd := T.s.d.def_ 30 (d := d__law_mix) rfl
theorem Tx.f__law_store (T : Tx K mg) : ∃ fd, FunD K "_law_store" "_law_store" (defArgs s__law_store) (defBody s__law_store) (defScope s__law_store) [] [] (He.ga K "_law_store") fd := T.s.d.def_ 31 (d := d__law_store) rfl
theorem Tx.f__law_take (T : Tx K mg) : ∃ fd, FunD K "_law_take" "_law_take" (defArgs s__law_take) (defBody s__law_take) (defScope s__law_take) [] [] (He.ga K "_law_take") fd := T.s.d.def_ 32 (d := d__law_take) rfl
theorem Tx.f__law_number (T : Tx K mg) : ∃ fd, FunD K "_law_number" "_law_number" (defArgs s__law_number) (defBody s__law_number) (defScope s__law_number) [] [] (He.ga K "_law_number") fd := T.s.d.def_ 33 (d := d__law_number) rfl
theorem Tx.f__law_shuffled (T : Tx K mg) : ∃ fd, FunD K "_law_shuffled" "_law_shuffled" (defArgs s__law_shuffled) (defBody s__law_shuffled) (defScope s__law_shuffled) [] [] (He.ga K "_law_shuffled") fd := T.s.d.def_ 34 (d := d__law_shuffled) rfl
theorem Tx.f__law_trail (T : Tx K mg) : ∃ fd, FunD K "_law_trail" "_law_trail" (defArgs s__law_trail) (defBody s__law_trail) (defScope s__law_trail) [] [] (He.ga K "_law_trail") fd := T.s.d.def_ 35 (d := d__law_trail) rfl
theorem Tx.f__law_alike (T : Tx K mg) : ∃ fd, FunD K "_law_alike" "_law_alike" (defArgs s__law_alike) (defBody s__law_alike) (defScope s__law_alike) [] [] (He.ga K "_law_alike") fd := T.s.d.def_ 36 (d := d__law_alike) rfl
theorem Tx.f__law_kind (T : Tx K mg) : ∃ fd, FunD K "_law_kind" "_law_kind" (defArgs s__law_kind) (defBody s__law_kind) (defScope s__law_kind) [] [] (He.ga K "_law_kind") fd := T.s.d.def_ 37 (d := d__law_kind) rfl
theorem Tx.f__law_walked (T : Tx K mg) : ∃ fd, FunD K "_law_walked" "_law_walked" (defArgs s__law_walked) (defBody s__law_walked) (defScope s__law_walked) [] [] (He.ga K "_law_walked") fd := T.s.d.def_ 38 (d := d__law_walked) rfl
theorem Tx.f__law_trail_piles (T : Tx K mg) : ∃ fd, FunD K "_law_trail_piles" "_law_trail_piles" (defArgs s__law_trail_piles) (defBody s__law_trail_piles) (defScope s__law_trail_piles) [] [] (He.ga K "_law_trail_piles") fd := T.s.d.def_ 39 (d := d__law_trail_piles) rfl
theorem Tx.f__law_limit (T : Tx K mg) : ∃ fd, FunD K "_law_limit" "_law_limit" (defArgs s__law_limit) (defBody s__law_limit) (defScope s__law_limit) [] [] (He.ga K "_law_limit") fd := T.s.d.def_ 40 (d := d__law_limit) rfl
theorem Tx.f__law_last_leavings (T : Tx K mg) : ∃ fd, FunD K "_law_last_leavings" "_law_last_leavings" (defArgs s__law_last_leavings) (defBody s__law_last_leavings) (defScope s__law_last_leavings) [] [] (He.ga K "_law_last_leavings") fd := T.s.d.def_ 41 (d := d__law_last_leavings) rfl
theorem Tx.f__law_bent_walk (T : Tx K mg) : ∃ fd, FunD K "_law_bent_walk" "_law_bent_walk" (defArgs s__law_bent_walk) (defBody s__law_bent_walk) (defScope s__law_bent_walk) [] [] (He.ga K "_law_bent_walk") fd := T.s.d.def_ 42 (d := d__law_bent_walk) rfl
theorem Tx.f__law_first_comings (T : Tx K mg) : ∃ fd, FunD K "_law_first_comings" "_law_first_comings" (defArgs s__law_first_comings) (defBody s__law_first_comings) (defScope s__law_first_comings) [] [] (He.ga K "_law_first_comings") fd := T.s.d.def_ 43 (d := d__law_first_comings) rfl
theorem Tx.f__law_door (T : Tx K mg) : ∃ fd, FunD K "_law_door" "_law_door" (defArgs s__law_door) (defBody s__law_door) (defScope s__law_door) [] [] (He.ga K "_law_door") fd := T.s.d.def_ 44 (d := d__law_door) rfl
theorem Tx.f__law_turn_right (T : Tx K mg) : ∃ fd, FunD K "_law_turn_right" "_law_turn_right" (defArgs s__law_turn_right) (defBody s__law_turn_right) (defScope s__law_turn_right) [] [] (He.ga K "_law_turn_right") fd := T.s.d.def_ 45 (d := d__law_turn_right) rfl
theorem Tx.f_law (T : Tx K mg) : ∃ fd, FunD K "law" "law" (defArgs s_law) (defBody s_law) (defScope s_law) [] [] (He.ga K "law") fd := T.s.d.def_ 46 (d := d_law) rfl
theorem Tx.ba (T : Tx K mg) : exb K = true := T.s.m
theorem Tx.errs (T : Tx K mg) : errsB K errs = true := (He.ba (He.ba (He.ba (He.ba (He.ba (He.ba (T.ba)).1).1).1).1).1).1
theorem Tx.kits (T : Tx K mg) : kitsB K kinds classes = true := (He.ba (He.ba (He.ba (He.ba (He.ba (He.ba (T.ba)).1).1).1).1).1).2
theorem Tx.read (T : Tx K mg) : ClX.CRead K (He.ga K "Deal") (.type "type") := readB_ok (He.ba (He.ba (He.ba (He.ba (He.ba (T.ba)).1).1).1).1).2
theorem Tx.con_STATIONS (T : Tx K mg) : ∃ u, ClX.CVal K (He.ga K "Deal") (.type "type") "STATIONS" (.int 40) u := conB_ok (He.ba (He.ba (He.ba (He.ba (T.ba)).1).1).1).2
theorem Tx.con_PILE (T : Tx K mg) : ∃ u, ClX.CVal K (He.ga K "Deal") (.type "type") "PILE" (.int 60) u := conB_ok (He.ba (He.ba (He.ba (T.ba)).1).1).2
theorem Tx.con_SLIPS (T : Tx K mg) : ∃ u, ClX.CVal K (He.ga K "Deal") (.type "type") "SLIPS" (.int 300) u := conB_ok (He.ba (He.ba (T.ba)).1).2
theorem Tx.con_COURIERS (T : Tx K mg) : ∃ u, ClX.CVal K (He.ga K "Deal") (.type "type") "COURIERS" (.int 40) u := conB_ok (He.ba (T.ba)).2
theorem ini_BadStation (T : Tx K mg) : ErrI P w K mg base 1 "BadStation" ["self", "station"] ["station"] := init1 T.f_BadStation___init__ (errsB_ok T.errs (x := "BadStation") (by decide)) T.g_BadStation T.no_BadStation_station rfl sc_BadStation___init__ (.inl rfl) (.inl rfl) (by decide) (by decide) (fun _ _ _ _ _ _ us hl => match us, hl with | [_, _], _ => rfl)
theorem ini_Empty (T : Tx K mg) : ErrI P w K mg base 1 "Empty" ["self", "what"] ["what"] := init1 T.f_Empty___init__ (errsB_ok T.errs (x := "Empty") (by decide)) T.g_Empty T.no_Empty_what rfl sc_Empty___init__ (.inl rfl) (.inl rfl) (by decide) (by decide) (fun _ _ _ _ _ _ us hl => match us, hl with | [_, _], _ => rfl)
theorem ini_TooMany (T : Tx K mg) : ErrI P w K mg base 1 "TooMany" ["self", "what", "limit"] ["what", "limit"] := init2 T.f_TooMany___init__ (errsB_ok T.errs (x := "TooMany") (by decide)) T.g_TooMany T.no_TooMany_what T.no_TooMany_limit rfl sc_TooMany___init__ (.inl rfl) (.inl rfl) (.inl rfl) (by decide) (by decide) (by decide) (by decide) (fun _ _ _ _ _ _ us hl => match us, hl with | [_, _, _], _ => rfl)
theorem ini_Unframed (T : Tx K mg) : ErrI P w K mg base 1 "Unframed" ["self", "station"] ["station"] := init1 T.f_Unframed___init__ (errsB_ok T.errs (x := "Unframed") (by decide)) T.g_Unframed T.no_Unframed_station rfl sc_Unframed___init__ (.inl rfl) (.inl rfl) (by decide) (by decide) (fun _ _ _ _ _ _ us hl => match us, hl with | [_, _], _ => rfl)
end
end K59

set_option Elab.async false
set_option linter.all false
set_option maxRecDepth 100000
set_option maxHeartbeats 0
/-! K59R: the top is run once, in the kernel. Printed by headrun.py. -/
namespace K59
open PySem PySem.Spec PyProof.Rows L2 Rd
def loose0 : List PySem.Str := ["_wall", "Refused", "BadText", "Malformed", "BadStation", "BadPlace", "BadNumber", "TooMany", "Empty", "Unframed", "NotPack", "Unlike", "Stuck", "NothingBack", "LeftOver", "NotTrail", "Blocked", "Unnamed", "Opened", "Missing", "NotLocal", "NoPlan", "Doubled", "BadCard", "Unknown", "NotEnd", "Deal", "check_station", "check_count", "check_pile"]
def loose1 : List PySem.Str := ["check_total", "check_piles", "check_starts", "tally_of", "make_deal", "sizes_of", "pack_of", "begins_of", "counts_at_end", "need_counts", "other_row", "end_counts", "others", "aim", "check_some", "check_trail", "deal_of", "last_leavings", "first_comings", "turned", "_law_mix", "_law_store", "_law_take", "_law_number", "_law_shuffled", "_law_trail", "_law_alike", "_law_kind", "_law_walked", "_law_trail_piles"]
def loose2 : List PySem.Str := ["_law_limit", "_law_last_leavings", "_law_bent_walk", "_law_first_comings", "_law_door", "_law_turn_right"]
def loose : List PySem.Str := loose0 ++ loose1 ++ loose2
abbrev R : PySem.W.OpenRow := PySem.W.OpenLaw.row PySem.Challenge.rw_lastslips_k59_turned_trail
abbrev hk : PySem.W.Hook := hookM 5 fa fn exb
def ob (s : PySem.W.SharedT) : He.AlD × Bool := obsM 5 fa fn exb (HandSHeadRun.getT s)
theorem ob_eq (s : PySem.W.SharedT) : ob s = hk.obs s.abs := obsM_eq (HandSHeadRun.getT_eq s)
theorem run (w : World) : HandSHeadRun.RunEq R (PySem.W.view R.prog [72]) hk ob 8000 loose w := by
  intro os
  kernel_rfl
end K59

set_option Elab.async false
set_option linter.all false
set_option maxRecDepth 100000
set_option maxHeartbeats 4000000
local macro_rules | `(tactic| walk_at "ne") => `(tactic| first
  | assumption
  | (refine Ne.symm ?_; assumption)
  | (refine L2.ne_of (by assumption) (by assumption) (by intro z; cases z))
  | (refine Ne.symm (L2.ne_of (by assumption) (by assumption) (by intro z; cases z))))
local macro_rules | `(tactic| walk_at "hp") => `(tactic| first
  | assumption
  | exact L2.upd_same
  | ((with_reducible refine Rd.goN (by assumption) ?_); (walk_at "hp"))
  | ((with_reducible refine Rd.goU ?_ ?_); (walk_at "ne"); (walk_at "hp"))
  | (refine Rd.go (by assumption) ?_; (walk_at "hp"))
  | (refine Rd.goB (by assumption) ?_ ?_; (walk_at "ne"); (walk_at "hp")))
local macro_rules | `(tactic| walk_at "sq") => `(tactic| first
  | assumption
  | (exact Rd.sqL (by walk_at "hp"))
  | (exact Rd.sqT (by walk_at "hp"))
  | (exact Rd.Sq.l (by walk_at "hp"))
  | (exact Rd.Sq.t (by walk_at "hp"))
  | ((with_reducible apply Rd.Sq.ofT); (focus assumption))
  | ((with_reducible apply Rd.Sq.ofL); (focus assumption))
  | (refine Rd.goSq (by assumption) ?_; (walk_at "sq"))
  | (refine Rd.goSqL (by assumption) ?_; (walk_at "sq"))
  | (refine Rd.goSqT (by assumption) ?_; (walk_at "sq"))
  | (refine Rd.goSqLB (by assumption) ?_ ?_; (walk_at "ne"); (walk_at "sq"))
  | (refine Rd.goSqTB (by assumption) ?_ ?_; (walk_at "ne"); (walk_at "sq")))
local macro_rules | `(tactic| walk_at "lg") => `(tactic| first
  | assumption
  | (exact Rd.Wd.lg (by assumption))
  | (exact Rd.lg_mod (by decide) (by decide))
  | (exact Rd.lg_moddiv (by decide) (by decide) (by decide))
  | (decide +kernel)
  | (exact Rd.lg_small (by omega) (by omega)))
local macro_rules | `(tactic| walk_at "r1") => `(tactic| with_reducible first
  | refine Rd.con ?_
  | refine Rd.asg ?_
  | refine Rd.op ?_
  | refine Rd.i0 ?_
  | refine Rd.plus ?_
  | refine Rd.eqi ?_
  | refine Rd.nei ?_
  | refine Rd.cb ?_
  | refine Rd.acons ?_
  | refine Rd.anil ?_
  | refine Rd.cll ?_
  | refine Rd.test ?_
  | refine Rd.tB ?_
  | refine Rd.isb ?_
  | refine Rd.isb' ?_
  | refine Rd.ifs ?_
  | refine Rd.ret ?_
  | refine Rd.retN ?_
  | refine Rd.drop ?_
  | refine Rd.nxt ?_
  | refine Rd.and ?_
  | refine Rd.or ?_
  | refine Rd.not ?_
  | refine Rd.ife ?_
  | refine Rd.andV ?_
  | refine Rd.orV ?_
  | refine Rd.notV ?_
  | refine Rd.yes ?_
  | refine Rd.no ?_
  | refine Rd.nyes ?_
  | refine Rd.nno ?_
  | refine Rd.un ?_
  | refine Rd.iu ?_
  | refine Rd.bm ?_
  | refine Rd.bm0 ?_
  | refine Rd.tup ?_
  | refine Rd.lst ?_
  | refine Rd.gsub ?_
  | refine Rd.brk ?_
  | refine Rd.cnt ?_
  | refine Rd.mk ?_
  | refine Rd.gnil ?_
  | refine Rd.gcons ?_
  | refine Rd.npart ?_
  | refine Rd.part ?_
  | refine Rd.isi1 ?_
  | refine Rd.slice ?_
  | refine Rd.augS ?_
  | refine Rd.ipi ?_
  | refine Rd.fld ?_
  | refine Rd.sfld ?_
  | refine Rd.mkI ?_
  | refine Rd.g0 ?_ | refine Rd.g1 ?_ | refine Rd.g2 ?_ | refine Rd.g3 ?_ | refine Rd.g4 ?_ | refine Rd.g5 ?_ | refine Rd.g6 ?_ | refine Rd.g7 ?_
  | refine Rd.g8 ?_ | refine Rd.g9 ?_ | refine Rd.g10 ?_ | refine Rd.g11 ?_ | refine Rd.g12 ?_ | refine Rd.g13 ?_ | refine Rd.g14 ?_ | refine Rd.g15 ?_)
local macro_rules | `(tactic| walk_at "r2") => `(tactic| first
  | ((with_reducible apply Rd.var); (exact rfl))
  | ((with_reducible apply Rd.cval); (focus assumption); (focus assumption))
  | ((with_reducible apply Rd.len); (focus (walk_at "sq")))
  | (with_reducible refine Rd.isNo ?_)
  | ((with_reducible apply Rd.tyL); (focus (exact Rd.sqL (by walk_at "hp"))))
  | ((with_reducible refine Rd.mod ?_ ?_); (focus first | assumption | omega))
  | ((with_reducible apply Rd.gtup); (focus (exact Rd.sqT (by walk_at "hp"))); (focus (exact rfl)))
  | (with_reducible refine Rd.noNo ?_)
  | (with_reducible refine Rd.int1 ?_)
  | (with_reducible refine Rd.int1b ?_)
  | (with_reducible refine Rd.min2 ?_)
  | (with_reducible refine Rd.abs1 ?_)
  | ((with_reducible refine Rd.dyes ?_ ?_); (focus first | assumption | omega))
  | ((with_reducible refine Rd.dno ?_ ?_); (focus first | assumption | omega))
  | ((with_reducible refine Rd.dnyes ?_ ?_); (focus first | assumption | omega))
  | ((with_reducible refine Rd.dnno ?_ ?_); (focus first | assumption | omega)))
local macro_rules | `(tactic| walk_at "r3") => `(tactic| first
  | ((with_reducible apply Rd.ixA); (focus (walk_at "hp")); (focus (exact rfl)))
  | ((with_reducible apply Rd.ixB); (focus (walk_at "hp")); (focus (exact rfl)))
  | ((with_reducible apply Rd.setL); (focus (walk_at "hp")); (focus (exact rfl)))
  | ((with_reducible refine Rd.timesB ?_ ?_ ?_); (focus (walk_at "lg")); (focus (walk_at "lg")))
  | ((with_reducible refine Rd.fdv ?_ ?_ ?_); (focus first | omega | decide); (focus (decide +kernel))))
local macro_rules | `(tactic| walk_at "ra") => `(tactic| repeat' (first
  | (with_reducible refine Rd.seqA ?_)
  | (with_reducible refine Rd.seqD ?_)
  | (walk_at "r1")
  | (walk_at "r2")
  | (walk_at "r3")))
local macro_rules | `(tactic| walk_at "rd") => `(tactic| repeat' (first
  | (with_reducible refine Rd.seq ?_)
  | (walk_at "r1")
  | (walk_at "r2")))
namespace K59
open PySem PySem.Spec PyProof.Rows L2 Rd
-- OPT pat = ⟨n, v, rfl, o⟩
/-- the error of a station -/
def stErr (n v : Int) : Option ErrV := if 0 ≤ v ∧ v < n then none else some ("BadStation", [("station", .int v)])
def sp_check_station (K : PySem.W.Frag) : Sp := fun vs H Q E => ∃ n v : Int, vs = [.int n, .int v] ∧ Out K E H (stErr n v) (Q .non H)
section
variable {K : PySem.W.Frag} {mg : Str → Option Value} {P : Program} {w : World} {base : Heap}
theorem ok_check_station (T : Tx K mg) : Okd P w K mg base 3 "check_station" ["n", "v"] (sp_check_station K) := by
  have i_BadStation := ini_BadStation (P := P) (w := w) (base := base) T
  refine Okd.mk' T.g_check_station T.f_check_station (fun _ _ _ _ _ _ us hl => match us, hl with | [_, _], _ => rfl) sc_check_station (fun vs H Q E h => ?_) (fun cdv A outer s H vs Q E hr h => ?_)
  · obtain ⟨n, v, rfl, o⟩ := h
    rfl
  · obtain ⟨n, v, rfl, o⟩ := h
    refine ⟨_, (pss_one (ps_if (PW.pt (pw_or (pt_cmpR op_lt (pv 1) pe_int (nomark _)) (pw_or1 (pt_cmpR op_ge (pv 1) (pv 0) (nomark _))))) (pss_one (ps_raise rfl (takes_of rfl rfl rfl rfl) (kmk_err K i_BadStation (hr.mono (by decide)) rfl (pa_cons (pv 1) pa_nil)))) pss_nil)), ?_⟩
    refine start' (σ' := [some _, some _]) rfl ?_
    walk_at "rd"
    refine ways (fun c => ?_) (fun c => ?_)
    · walk_at "rd"
      exact mkd rfl (by simp) fun d hd => (o.2 _ _ (if_neg (by omega))).at hd
    · walk_at "rd"
      refine ways (fun c2 => ?_) (fun c2 => ?_)
      · walk_at "rd"
        exact mkd rfl (by simp) fun d hd => (o.2 _ _ (if_neg (by omega))).at hd
      · walk_at "rd"
        exact o.1 (if_pos (by omega))
end
-- OPT pat = ⟨n, rfl, o⟩
def cntErr (n : Int) : Option ErrV := if n < 1 then some ("Empty", [("what", .str "stations")]) else if 40 < n then some ("TooMany", [("limit", .int 40), ("what", .str "stations")]) else none
def sp_check_count (K : PySem.W.Frag) : Sp := fun vs H Q E => ∃ n : Int, vs = [.int n] ∧ Out K E H (cntErr n) (Q .non H)
section
variable {K : PySem.W.Frag} {mg : Str → Option Value} {P : Program} {w : World} {base : Heap}
theorem ok_check_count (T : Tx K mg) : Okd P w K mg base 3 "check_count" ["n"] (sp_check_count K) := by
  have i_Empty := ini_Empty (P := P) (w := w) (base := base) T
  have i_TooMany := ini_TooMany (P := P) (w := w) (base := base) T
  refine Okd.mk' T.g_check_count T.f_check_count (fun _ _ _ _ _ _ us hl => match us, hl with | [_], _ => rfl) sc_check_count (fun vs H Q E h => ?_) (fun cdv A outer s H vs Q E hr h => ?_)
  · obtain ⟨n, rfl, o⟩ := h
    rfl
  · obtain ⟨n, rfl, o⟩ := h
    refine ⟨_, (pss_cons (ps_if (pt_cmpR op_lt (pv 0) pe_int (nomark _)) (pss_one (ps_raise rfl (takes_of rfl rfl rfl rfl) (kmk_err K i_Empty (hr.mono (by decide)) rfl (pa_cons pe_str pa_nil)))) pss_nil)
      (pss_one (ps_if (pt_cmpR op_gt (pv 0) (kp_cval K (pe_glob (v := V.ref (He.ga K "Deal")) rfl T.g_Deal rfl)) (nomark _)) (pss_one (ps_raise rfl (takes_of rfl rfl rfl rfl) (kmk_err K i_TooMany (hr.mono (by decide)) rfl (pa_cons pe_str (pa_cons (kp_cval K (pe_glob (v := V.ref (He.ga K "Deal")) rfl T.g_Deal rfl)) pa_nil))))) pss_nil))), ?_⟩
    refine start' (σ' := [some _]) rfl ?_
    have cread := T.read
    have cSTATIONS := T.con_STATIONS
    walk_at "rd"
    refine ways (fun c => ?_) (fun c => ?_)
    · walk_at "rd"
      exact mkd rfl (by simp) fun d hd => (o.2 _ _ (if_pos c)).at hd
    · walk_at "rd"
      refine ways (fun c2 => ?_) (fun c2 => ?_)
      · walk_at "rd"
        exact mkd rfl (by simp) fun d hd => (o.2 _ _ ((if_neg c).trans (if_pos c2))).at hd
      · walk_at "rd"
        exact o.1 ((if_neg c).trans (if_neg c2))
end
-- OPT pat = ⟨n, p, ns, rfl, hp, o⟩
/-- the first error of a row -/
def rowErr (n : Int) (ns : List Int) : Option ErrV := ns.findSome? (stErr n)
def pileErr (n : Int) (ns : List Int) : Option ErrV := if 60 < ns.length then some ("TooMany", [("limit", .int 60), ("what", .str "pile")]) else rowErr n ns
theorem row_take {α β : Type} {f : α → Option β} {ns : List α} {i : Nat} {z : α} (h : (ns.take i).findSome? f = none) (hz : ns[i]? = some z) : (f z = none → (ns.take (i + 1)).findSome? f = none) ∧ ∀ e, f z = some e → ns.findSome? f = some e := by
  have e : ns.take (i + 1) = ns.take i ++ [z] := by
    rw [List.take_add_one, hz]
    rfl
  refine ⟨fun q => ?_, fun x q => ?_⟩
  · rw [e, List.findSome?_append, h]
    simp [q]
  · have e2 : ns = ns.take i ++ ns.drop i := (List.take_append_drop i ns).symm
    have e3 : ns.drop i = z :: ns.drop (i + 1) := by
      have hi := (List.getElem?_eq_some_iff.mp hz).1
      rw [List.drop_eq_getElem_cons hi]
      have := (List.getElem?_eq_some_iff.mp hz).2
      rw [this]
    rw [e2, List.findSome?_append, h, e3]
    simp [q]
def sp_check_pile (K : PySem.W.Frag) : Sp := fun vs H Q E => ∃ (n : Int) (p : Addr) (ns : List Int), vs = [.int n, .ref p] ∧ Sq K H p (ns.map V.int) ∧ Out K E H (pileErr n ns) (Q .non H)
section
variable {K : PySem.W.Frag} {mg : Str → Option Value} {P : Program} {w : World} {base : Heap}
theorem ok_check_pile (T : Tx K mg) : Okd P w K mg base 4 "check_pile" ["n", "pile"] (sp_check_pile K) := by
  have c_check_station := ok_check_station (P := P) (w := w) (base := base) T
  have i_TooMany := ini_TooMany (P := P) (w := w) (base := base) T
  refine Okd.mk' T.g_check_pile T.f_check_pile (fun _ _ _ _ _ _ us hl => match us, hl with | [_, _], _ => rfl) sc_check_pile (fun vs H Q E h => ?_) (fun cdv A outer s H vs Q E hr h => ?_)
  · obtain ⟨n, p, ns, rfl, hp, o⟩ := h
    rfl
  · obtain ⟨n, p, ns, rfl, hp, o⟩ := h
    refine ⟨_, (pss_cons (ps_if (pt_cmpR op_gt (pe_callB (k_ln K) (by rfl) T.m_len bt_len (pa_cons (pv 1) pa_nil)) (kp_cval K (pe_glob (v := V.ref (He.ga K "Deal")) rfl T.g_Deal rfl)) (nomark _)) (pss_one (ps_raise rfl (takes_of rfl rfl rfl rfl) (kmk_err K i_TooMany (hr.mono (by decide)) rfl (pa_cons pe_str (pa_cons (kp_cval K (pe_glob (v := V.ref (He.ga K "Deal")) rfl T.g_Deal rfl)) pa_nil))))) pss_nil)
      (pss_one (ps_for (passes_of rfl) rfl (pi_or2 (ki_list K (pv 1)) (ki_tup K (pv 1))) (pg_name (i := 2) sc_check_pile.nd rfl (Or.inl rfl)) (pss_one (ps_expr (pe_def c_check_station (hr.mono (by decide)) (takes_of rfl rfl rfl rfl) rfl (pa_cons (pv 0) (pa_cons (pv 2) pa_nil)))))))), ?_⟩
    refine start' (σ' := [some _, some _, none]) rfl ?_
    have cread := T.read
    have cPILE := T.con_PILE
    walk_at "rd"
    rw [List.length_map]
    refine ways (fun c => ?_) (fun c => ?_)
    · walk_at "rd"
      exact mkd rfl (by simp) fun d hd => (o.2 _ _ (if_pos (by omega))).at hd
    · walk_at "rd"
      have eo : pileErr n ns = rowErr n ns := if_neg (by omega)
      rw [eo] at o
      refine forSq (xs := ns.map V.int) (fun R h => ⟨_, rfl, h⟩) hp (fun i σ H' => ∃ v : Option V, σ = [some (.int n), some (.ref p), v] ∧ H' = H ∧ rowErr n (ns.take i) = none) ⟨none, rfl, rfl, rfl⟩ (fun i σ H' ⟨_, _, e, _⟩ => by rw [e]; exact Same.refl H) ?_ ?_
      · rintro i x σ H' hx ⟨v, rfl, rfl, hr⟩
        obtain ⟨z, hz, rfl⟩ := ints_at hx
        have st := row_take hr hz
        walk_at "rd"
        refine ⟨n, z, rfl, fun q => ⟨_, rfl, rfl, st.1 q⟩, fun x fs q => ?_⟩
        exact o.2 x fs (st.2 _ q)
      · rintro σ H' ⟨v, rfl, rfl, hr⟩
        walk_at "rd"
        rw [List.length_map, List.take_length] at hr
        exact o.1 hr
end
-- OPT pat = ⟨n, rfl, o⟩
def totErr (n : Int) : Option ErrV := if 300 < n then some ("TooMany", [("limit", .int 300), ("what", .str "slips")]) else none
def sp_check_total (K : PySem.W.Frag) : Sp := fun vs H Q E => ∃ n : Int, vs = [.int n] ∧ Out K E H (totErr n) (Q .non H)
section
variable {K : PySem.W.Frag} {mg : Str → Option Value} {P : Program} {w : World} {base : Heap}
theorem ok_check_total (T : Tx K mg) : Okd P w K mg base 3 "check_total" ["total"] (sp_check_total K) := by
  have i_TooMany := ini_TooMany (P := P) (w := w) (base := base) T
  refine Okd.mk' T.g_check_total T.f_check_total (fun _ _ _ _ _ _ us hl => match us, hl with | [_], _ => rfl) sc_check_total (fun vs H Q E h => ?_) (fun cdv A outer s H vs Q E hr h => ?_)
  · obtain ⟨n, rfl, o⟩ := h
    rfl
  · obtain ⟨n, rfl, o⟩ := h
    refine ⟨_, (pss_one (ps_if (pt_cmpR op_gt (pv 0) (kp_cval K (pe_glob (v := V.ref (He.ga K "Deal")) rfl T.g_Deal rfl)) (nomark _)) (pss_one (ps_raise rfl (takes_of rfl rfl rfl rfl) (kmk_err K i_TooMany (hr.mono (by decide)) rfl (pa_cons pe_str (pa_cons (kp_cval K (pe_glob (v := V.ref (He.ga K "Deal")) rfl T.g_Deal rfl)) pa_nil))))) pss_nil)), ?_⟩
    refine start' (σ' := [some _]) rfl ?_
    have cread := T.read
    have cSLIPS := T.con_SLIPS
    walk_at "rd"
    refine ways (fun c => ?_) (fun c => ?_)
    · walk_at "rd"
      exact mkd rfl (by simp) fun d hd => (o.2 _ _ (if_pos c)).at hd
    · walk_at "rd"
      exact o.1 (if_neg c)
end
-- OPT pat = ⟨p, rs, nss, rfl, hp, hr', o⟩
def pilesErr (nss : List (List Int)) : Option ErrV := (cntErr nss.length).or ((nss.findSome? (pileErr nss.length)).or (totErr ((nss.map List.length).sum : Nat)))
theorem sum_lens (nss : List (List Int)) : ((nss.map fun ns => (ns.length : Int)).sum) = ((nss.map List.length).sum : Nat) := by
  induction nss with
  | nil => rfl
  | cons a r ih =>
    rw [List.map_cons, List.sum_cons, ih, List.map_cons, List.sum_cons]
    omega
theorem lens_idx {rs : List Addr} {nss : List (List Int)} (h : rs.length = nss.length) : (rs.map V.ref).mapIdx (fun i _ => V.int ((nss.getD i []).length : Nat)) = (nss.map fun ns => (ns.length : Int)).map V.int := by
  apply List.ext_getElem?
  intro i
  rw [List.getElem?_mapIdx, List.getElem?_map, List.getElem?_map, List.getElem?_map]
  by_cases hi : i < nss.length
  · rw [List.getElem?_eq_getElem hi, List.getElem?_eq_getElem (by omega)]
    simp [List.getD, hi]
  · rw [List.getElem?_eq_none (by omega), List.getElem?_eq_none (by omega)]
    rfl
def sp_check_piles (K : PySem.W.Frag) : Sp := fun vs H Q E => ∃ (p : Addr) (rs : List Addr) (nss : List (List Int)), vs = [.ref p] ∧ Sq K H p (rs.map V.ref) ∧ RowsAt K H rs nss ∧ Out K E H (pilesErr nss) (RetV H Q .non)
section
variable {K : PySem.W.Frag} {mg : Str → Option Value} {P : Program} {w : World} {base : Heap}
theorem ok_check_piles (T : Tx K mg) : Okd P w K mg base 5 "check_piles" ["piles"] (sp_check_piles K) := by
  have c_check_count := ok_check_count (P := P) (w := w) (base := base) T
  have c_check_pile := ok_check_pile (P := P) (w := w) (base := base) T
  have c_check_total := ok_check_total (P := P) (w := w) (base := base) T
  refine Okd.mk' T.g_check_piles T.f_check_piles (fun _ _ _ _ _ _ us hl => match us, hl with | [_], _ => rfl) sc_check_piles (fun vs H Q E h => ?_) (fun cdv A outer s H vs Q E hr h => ?_)
  · obtain ⟨p, rs, nss, rfl, hp, hr', o⟩ := h
    rfl
  · obtain ⟨p, rs, nss, rfl, hp, hr', o⟩ := h
    refine ⟨_, (pss_cons (ps_expr (pe_def c_check_count (hr.mono (by decide)) (takes_of rfl rfl rfl rfl) rfl (pa_cons (pe_callB (k_ln K) (by rfl) T.m_len bt_len (pa_cons (pv 0) pa_nil)) pa_nil)))
      (pss_cons (ps_for (passes_of rfl) rfl (pi_or2 (ki_list K (pv 0)) (ki_tup K (pv 0))) (pg_name (i := 1) sc_check_piles.nd rfl (Or.inl rfl)) (pss_one (ps_expr (pe_def c_check_pile (hr.mono (by decide)) (takes_of rfl rfl rfl rfl) rfl (pa_cons (pe_callB (k_ln K) (by rfl) T.m_len bt_len (pa_cons (pv 0) pa_nil)) (pa_cons (pv 1) pa_nil))))))
      (pss_one (ps_expr (pe_def c_check_total (hr.mono (by decide)) (takes_of rfl rfl rfl rfl) rfl (pa_cons (pe_callB (k_sum K rfl) (by rfl) T.m_sum bt_sum (pa_cons (pe_lc (own := [("pile", 1)]) rfl sc_check_piles.nd (pi_or2 (ki_list K (pv 0)) (ki_tup K (pv 0))) (blkOk_by (own := [("pile", 1)]) (N := ["piles", "pile"]) (sc := defScope s_check_piles) (by decide +kernel)) (fun _ _ _ _ _ => (pg_name (i := 1) sc_check_piles.nd rfl (Or.inl rfl))) (fun _ _ _ _ _ => pts_nil) (fun _ _ _ _ _ => (pe_callB (k_ln K) (by rfl) T.m_len bt_len (pa_cons (pv 1) pa_nil)))) pa_nil)) pa_nil)))))), ?_⟩
    refine start' (σ' := [some _, none]) rfl ?_
    have hl := hr'.1
    walk_at "rd"
    refine ⟨_, rfl, ?_⟩
    rw [List.length_map, hl]
    refine ⟨fun q1 => ?_, fun x fs q => o.2 x fs (by unfold pilesErr; rw [q]; rfl)⟩
    have hn : nss.length ≤ 40 := by
      unfold cntErr at q1
      split at q1
      · cases q1
      · split at q1
        · cases q1
        · omega
    walk_at "rd"
    refine forSq (xs := rs.map V.ref) (fun R h => ⟨_, rfl, h⟩) hp (fun i σ H' => ∃ v : Option V, σ = [some (.ref p), v] ∧ H' = H ∧ (nss.take i).findSome? (pileErr nss.length) = none) ⟨none, rfl, rfl, rfl⟩ (fun i σ H' ⟨_, _, e, _⟩ => by rw [e]; exact Same.refl H) ?_ ?_
    · rintro i x σ H' hx ⟨v, rfl, rfl, hf⟩
      obtain ⟨r, hri, rfl⟩ := refs_at hx
      have hi : i < nss.length := by
        have := (List.getElem?_eq_some_iff.mp hri).1
        omega
      have hni : nss[i]? = some nss[i] := List.getElem?_eq_getElem hi
      have st := row_take hf hni
      walk_at "rd"
      rw [List.length_map, hl]
      walk_at "rd"
      refine ⟨_, r, nss[i], rfl, hr'.2 i r _ hri hni, fun q => ⟨_, rfl, rfl, st.1 q⟩, fun x fs q => ?_⟩
      exact o.2 x fs (by unfold pilesErr; rw [q1, st.2 _ q]; rfl)
    · rintro σ H' ⟨v, rfl, rfl, hf⟩
      rw [List.length_map, hl, List.take_length] at hf
      walk_at "rd"
      refine lcSq (xs := rs.map V.ref) (fun R h => ⟨_, rfl, h⟩) hp (fun i _ => V.int ((nss.getD i []).length : Nat)) (fun _ => rfl) (line_ge (by rw [List.length_map]; omega)) ?_ ?_
      · intro k x H1 R hx s1 hR
        obtain ⟨r, hri, rfl⟩ := refs_at hx
        have hi : k < nss.length := by
          have := (List.getElem?_eq_some_iff.mp hri).1
          omega
        have hni : nss[k]? = some nss[k] := List.getElem?_eq_getElem hi
        have hsq := goSq s1 (hr'.2 k r _ hri hni)
        walk_at "rd"
        have e : ((nss.getD k []).length : Nat) = nss[k].length := by simp [List.getD, hi]
        rw [List.length_map]
        rw [e] at hR
        exact hR H1 (Same.refl H1)
      · intro H1 D s1 hD hd
        rw [lens_idx hl] at hd
        walk_at "rd"
        refine sum (by walk_at "sq") ?_
        walk_at "rd"
        refine ⟨_, rfl, ?_⟩
        rw [sum_lens]
        have ep : pilesErr nss = totErr ((nss.map List.length).sum : Nat) := by
          unfold pilesErr
          rw [q1, hf]
          rfl
        rw [ep] at o
        exact ⟨fun q => o.1 q H1 s1, fun x fs q => (o.2 x fs q).go s1⟩
end
-- OPT pat = ⟨n, p, ns, rfl, hp, o⟩
def startsErr (n : Int) (ns : List Int) : Option ErrV := if 40 < ns.length then some ("TooMany", [("limit", .int 40), ("what", .str "couriers")]) else rowErr n ns
def sp_check_starts (K : PySem.W.Frag) : Sp := fun vs H Q E => ∃ (n : Int) (p : Addr) (ns : List Int), vs = [.int n, .ref p] ∧ Sq K H p (ns.map V.int) ∧ Out K E H (startsErr n ns) (Q .non H)
section
variable {K : PySem.W.Frag} {mg : Str → Option Value} {P : Program} {w : World} {base : Heap}
theorem ok_check_starts (T : Tx K mg) : Okd P w K mg base 4 "check_starts" ["n", "starts"] (sp_check_starts K) := by
  have c_check_station := ok_check_station (P := P) (w := w) (base := base) T
  have i_TooMany := ini_TooMany (P := P) (w := w) (base := base) T
  refine Okd.mk' T.g_check_starts T.f_check_starts (fun _ _ _ _ _ _ us hl => match us, hl with | [_, _], _ => rfl) sc_check_starts (fun vs H Q E h => ?_) (fun cdv A outer s H vs Q E hr h => ?_)
  · obtain ⟨n, p, ns, rfl, hp, o⟩ := h
    rfl
  · obtain ⟨n, p, ns, rfl, hp, o⟩ := h
    refine ⟨_, (pss_cons (ps_if (pt_cmpR op_gt (pe_callB (k_ln K) (by rfl) T.m_len bt_len (pa_cons (pv 1) pa_nil)) (kp_cval K (pe_glob (v := V.ref (He.ga K "Deal")) rfl T.g_Deal rfl)) (nomark _)) (pss_one (ps_raise rfl (takes_of rfl rfl rfl rfl) (kmk_err K i_TooMany (hr.mono (by decide)) rfl (pa_cons pe_str (pa_cons (kp_cval K (pe_glob (v := V.ref (He.ga K "Deal")) rfl T.g_Deal rfl)) pa_nil))))) pss_nil)
      (pss_one (ps_for (passes_of rfl) rfl (pi_or2 (ki_list K (pv 1)) (ki_tup K (pv 1))) (pg_name (i := 2) sc_check_starts.nd rfl (Or.inl rfl)) (pss_one (ps_expr (pe_def c_check_station (hr.mono (by decide)) (takes_of rfl rfl rfl rfl) rfl (pa_cons (pv 0) (pa_cons (pv 2) pa_nil)))))))), ?_⟩
    refine start' (σ' := [some _, some _, none]) rfl ?_
    have cread := T.read
    have cCOURIERS := T.con_COURIERS
    walk_at "rd"
    rw [List.length_map]
    refine ways (fun c => ?_) (fun c => ?_)
    · walk_at "rd"
      exact mkd rfl (by simp) fun d hd => (o.2 _ _ (if_pos (by omega))).at hd
    · walk_at "rd"
      have eo : startsErr n ns = rowErr n ns := if_neg (by omega)
      rw [eo] at o
      refine forSq (xs := ns.map V.int) (fun R h => ⟨_, rfl, h⟩) hp (fun i σ H' => ∃ v : Option V, σ = [some (.int n), some (.ref p), v] ∧ H' = H ∧ rowErr n (ns.take i) = none) ⟨none, rfl, rfl, rfl⟩ (fun i σ H' ⟨_, _, e, _⟩ => by rw [e]; exact Same.refl H) ?_ ?_
      · rintro i x σ H' hx ⟨v, rfl, rfl, hr⟩
        obtain ⟨z, hz, rfl⟩ := ints_at hx
        have st := row_take hr hz
        walk_at "rd"
        refine ⟨n, z, rfl, fun q => ⟨_, rfl, rfl, st.1 q⟩, fun x fs q => ?_⟩
        exact o.2 x fs (st.2 _ q)
      · rintro σ H' ⟨v, rfl, rfl, hr⟩
        walk_at "rd"
        rw [List.length_map, List.take_length] at hr
        exact o.1 hr
end
end K59

set_option Elab.async false
set_option linter.all false
set_option maxRecDepth 100000
set_option maxHeartbeats 4000000
namespace K59
open PySem PySem.Spec PyProof.Rows L2 Rd
-- OPT pat = ⟨n, p, ns, rfl, hp, hn, hall, k⟩
/-- how often each of 0 .. n - 1 stands in the row -/
def tally (n : Nat) (ns : List Int) : List Int := (List.range n).map fun (v : Nat) => ((ns.count (v : Int) : Nat) : Int)
theorem tally_len (n : Nat) (ns : List Int) : (tally n ns).length = n := by simp [tally]
theorem tally_at {n v : Nat} (ns : List Int) (h : v < n) : (tally n ns)[v]? = some ((ns.count (v : Int) : Nat) : Int) := by simp [tally, h]
theorem tally_step {n j i : Nat} {ns : List Int} (h : ns[i]? = some (j : Int)) : (tally n (ns.take i)).set j (((ns.take i).count (j : Int) : Nat) + 1 : Int) = tally n (ns.take (i + 1)) := by
  have e : ns.take (i + 1) = ns.take i ++ [(j : Int)] := by
    rw [List.take_add_one, h]
    rfl
  apply List.ext_getElem?
  intro v
  rw [List.getElem?_set]
  by_cases hv : v < n
  · by_cases hj : j = v
    · subst hj
      rw [if_pos rfl, if_pos (by rw [tally_len]; exact hv), tally_at _ hv, e, List.count_append]
      simp
    · rw [if_neg hj, tally_at _ hv, tally_at _ hv, e, List.count_append]
      have : ([(j : Int)].count (v : Int)) = 0 := by
        rw [List.count_eq_zero]
        simp
        omega
      rw [this]
      simp
  · rw [List.getElem?_eq_none (l := tally n (ns.take (i + 1))) (by rw [tally_len]; omega)]
    split
    · rw [if_neg (by rw [tally_len]; omega)]
    · rw [List.getElem?_eq_none (by rw [tally_len]; omega)]
theorem zeros (n : Nat) : (List.replicate n [V.int 0]).flatten = (List.replicate n (0 : Int)).map V.int := by
  induction n with
  | zero => rfl
  | succ n ih =>
    rw [List.replicate_succ, List.flatten_cons, ih, List.replicate_succ]
    rfl
theorem tally_nil (n : Nat) : tally n [] = List.replicate n 0 := by
  apply List.ext_getElem?
  intro v
  by_cases hv : v < n
  · rw [tally_at _ hv]
    simp [hv]
  · rw [List.getElem?_eq_none (by rw [tally_len]; omega), List.getElem?_eq_none (by simp; omega)]
def sp_tally_of (K : PySem.W.Frag) : Sp := fun vs H Q E => ∃ (n : Nat) (p : Addr) (ns : List Int), vs = [.int (n : Int), .ref p] ∧ Sq K H p (ns.map V.int) ∧ n ≤ 1000 ∧ (∀ v, v ∈ ns → 0 ≤ v ∧ v < n) ∧ RetT K H Q ((tally n ns).map V.int)
section
variable {K : PySem.W.Frag} {mg : Str → Option Value} {P : Program} {w : World} {base : Heap}
theorem ok_tally_of (T : Tx K mg) : Okd P w K mg base 1 "tally_of" ["n", "row"] (sp_tally_of K) := by
  refine Okd.mk' T.g_tally_of T.f_tally_of (fun _ _ _ _ _ _ us hl => match us, hl with | [_, _], _ => rfl) sc_tally_of (fun vs H Q E h => ?_) (fun cdv A outer s H vs Q E hr h => ?_)
  · obtain ⟨n, p, ns, rfl, hp, hn, hall, k⟩ := h
    rfl
  · obtain ⟨n, p, ns, rfl, hp, hn, hall, k⟩ := h
    refine ⟨_, (pss_cons (ps_set (i := 2) sc_tally_of.nd rfl (Or.inl rfl) (pe_op op_times (pe_lst (pa_cons pe_int pa_nil)) (pv 0)))
      (pss_cons (ps_for (passes_of rfl) rfl (pi_or2 (ki_list K (pv 1)) (ki_tup K (pv 1))) (pg_name (i := 3) sc_tally_of.nd rfl (Or.inl rfl)) (pss_one (ps_augS (pv 2) (pv 3) (k_get K) pe_int ip_add set_list)))
      (pss_one (ps_ret (pe_callTy (k_tp K) (by rfl) T.m_tuple bt_tuple (pa_cons (pv 2) pa_nil)))))), ?_⟩
    refine start' (σ' := [some _, some _, none, none]) rfl ?_
    walk_at "rd"
    refine ⟨le_line (by simp), fun z hz => ?_⟩
    walk_at "rd"
    refine timesL (l := z) (by walk_at "hp") (by omega) (by omega) ?_ fun c hc => ?_
    · have := line_ge (n := 1000) (by omega)
      simp
      omega
    · walk_at "rd"
      have e0 : ((List.replicate (n : Int).toNat [V.int 0]).flatten) = (tally n []).map V.int := by rw [Int.toNat_natCast, zeros, tally_nil]
      rw [e0]
      have s0 : Same H (upd (upd H z (.lst [.int 0])) c (.lst ((tally n []).map V.int))) := (Rd.Same.new hz).trans (Rd.Same.new hc)
      refine forSq (H0 := H) (xs := ns.map V.int) (fun R h => ⟨_, rfl, h⟩) hp (fun i σ H' => ∃ v : Option V, σ = [some (.int n), some (.ref p), some (.ref c), v] ∧ Same (upd H z (.lst [.int 0])) H' ∧ H' c = some (.lst ((tally n (ns.take i)).map V.int)))
        ⟨none, rfl, Rd.Same.new hc, upd_same⟩ (fun i σ H' ⟨_, _, s, e⟩ => (Rd.Same.new hz).trans s) ?_ ?_
      · rintro i x σ H' hx ⟨v, rfl, s, e⟩
        obtain ⟨y, hy, rfl⟩ := ints_at hx
        have hb := hall y (List.mem_of_getElem? hy)
        obtain ⟨j, rfl⟩ : ∃ j : Nat, y = j := ⟨y.toNat, by omega⟩
        have hj : j < n := by omega
        walk_at "rd"
        refine getL (sqL e) (v := .int ((ns.take i).count (j : Int) : Nat)) (by rw [List.getElem?_map, tally_at _ hj]; rfl) ?_
        walk_at "rd"
        refine setL e (ixN_nat (by rw [List.length_map, tally_len]; exact hj)) ?_
        refine ⟨_, rfl, Rd.Same.own s hc, ?_⟩
        rw [upd_same, ← tally_step hy, List.map_set]
      · rintro σ H' ⟨v, rfl, s, e⟩
        rw [List.length_map, List.take_length] at e
        walk_at "rd"
        refine tupOfL (sqL e) fun l hl => ?_
        exact k _ l (((Rd.Same.new hz).trans s).trans (Rd.Same.new hl)) (sqT upd_same)
end
-- OPT pat = ⟨x, dx, p, rs, nss, s, sts, rfl, hx, hp, hrs, hs, hnl, k⟩
def sp_Deal___init__ (K : PySem.W.Frag) : Sp := fun vs H Q E => ∃ (x dx p : Addr) (rs : List Addr) (nss : List (List Int)) (s : Addr) (sts : List Int), vs = [.ref x, .ref p, .ref s] ∧ H x = some (.ins (He.ga K "Deal") dx []) ∧
  Sq K H p (rs.map V.ref) ∧ RowsAt K H rs nss ∧ Sq K H s (sts.map V.int) ∧ rs.length ≤ 100000 ∧ ∀ H', But x H H' → IsDeal K H' x nss sts → Q .non H'
/-- tuples that stand for the rows so far -/
def Tups (K : PySem.W.Frag) (nss : List (List Int)) (k : Nat) (acc : List V) (H : Hp) : Prop := ∃ rs : List Addr, acc = rs.map V.ref ∧ rs.length = k ∧ ∀ (i : Nat) (r : Addr) (ns : List Int), rs[i]? = some r → nss[i]? = some ns → SqT K H r (ns.map V.int)
theorem Tups.mono {K : PySem.W.Frag} {nss : List (List Int)} {k : Nat} {acc : List V} {H H' : Hp} (t : Tups K nss k acc H) (f : ∀ r xs, SqT K H r xs → SqT K H' r xs) : Tups K nss k acc H' := by
  obtain ⟨rs, e, l, h⟩ := t
  exact ⟨rs, e, l, fun i r ns a b => f _ _ (h i r ns a b)⟩
theorem Tups.snoc {K : PySem.W.Frag} {nss : List (List Int)} {k : Nat} {acc : List V} {H H' : Hp} {r : Addr} {ns : List Int} (t : Tups K nss k acc H) (s : Same H H') (hn : nss[k]? = some ns) (h : SqT K H' r (ns.map V.int)) : Tups K nss (k + 1) (acc ++ [.ref r]) H' := by
  obtain ⟨rs, e, l, g⟩ := t
  refine ⟨rs ++ [r], by rw [e, List.map_append]; rfl, by simp [l], fun i r' ns' a b => ?_⟩
  by_cases hi : i < rs.length
  · rw [List.getElem?_append_left hi] at a
    exact goSqT s (g i r' ns' a b)
  · have hi2 := (List.getElem?_eq_some_iff.mp a).1
    have e1 : i = k := by
      rw [List.length_append, List.length_singleton] at hi2
      omega
    subst e1
    rw [List.getElem?_append_right (by omega), l, Nat.sub_self] at a
    have e2 : r = r' := Option.some.inj a
    have e3 : ns = ns' := Option.some.inj (hn.symm.trans b)
    rw [← e2, ← e3]
    exact h
section
variable {K : PySem.W.Frag} {mg : Str → Option Value} {P : Program} {w : World} {base : Heap}
theorem ok_Deal___init__ (T : Tx K mg) : ∃ fd, FnOk P w K mg base (L2.CX P w) 1 (He.ma K (He.ga K "Deal") "__init__") fd ["self", "piles", "starts"] (sp_Deal___init__ K) ∧ Binds K fd ["self", "piles", "starts"] [] := by
  obtain ⟨fd, F⟩ := T.f_Deal___init__
  refine ⟨fd, F.ok sc_Deal___init__ (fun vs H Q E h => ?_) (fun cdv A outer s H vs Q E hr h => ?_), F.bindsN (ps := ["self", "piles", "starts"]) (fun _ _ _ _ _ _ us hl => match us, hl with | [_, _, _], _ => rfl)⟩
  · obtain ⟨x, dx, p, rs, nss, s, sts, rfl, hx, hp, hrs, hs, hnl, k⟩ := h
    rfl
  · obtain ⟨x, dx, p, rs, nss, s, sts, rfl, hx, hp, hrs, hs, hnl, k⟩ := h
    refine ⟨_, (pss_cons (ps_fld (pv 0) (pe_callTy (k_tp K) (by rfl) T.m_tuple bt_tuple (pa_cons (pe_lc (own := [("pile", 3)]) rfl sc_Deal___init__.nd (pi_or2 (ki_list K (pv 1)) (ki_tup K (pv 1))) (blkOk_by (own := [("pile", 3)]) (N := ["self", "piles", "starts", "pile"]) (sc := defScope s_Deal___init__) (by decide +kernel)) (fun _ _ _ _ _ => (pg_name (i := 3) sc_Deal___init__.nd rfl (Or.inl rfl))) (fun _ _ _ _ _ => pts_nil) (fun _ _ _ _ _ => (pe_callTy (k_tp K) (by rfl) T.m_tuple bt_tuple (pa_cons (pv 3) pa_nil)))) pa_nil)) rfl)
      (pss_one (ps_fld (pv 0) (pe_callTy (k_tp K) (by rfl) T.m_tuple bt_tuple (pa_cons (pv 2) pa_nil)) rfl))), ?_⟩
    refine start' (σ' := [some _, some _, some _, none]) rfl ?_
    have hl := hrs.1
    walk_at "rd"
    refine lcSqP (xs := rs.map V.ref) (fun R h => ⟨_, rfl, h⟩) hp (fun _ => rfl) (line_ge (by rw [List.length_map]; omega)) (Tups K nss) (fun H' _ => ⟨[], rfl, rfl, fun i r ns a b => by simp at a⟩)
      (fun k acc H1 H2 D l hD s t => t.mono fun r xs h => sqT_but hD s h) ?_ ?_
    · intro i y acc H1 R hy s1 t hR
      obtain ⟨r, hri, rfl⟩ := refs_at hy
      have hi : i < nss.length := by
        have := (List.getElem?_eq_some_iff.mp hri).1
        omega
      have hni : nss[i]? = some nss[i] := List.getElem?_eq_getElem hi
      walk_at "rd"
      refine tupOf (ys := nss[i].map V.int) (goSq s1 (hrs.2 i r _ hri hni)) fun H2 q s2 hq => ?_
      exact hR _ H2 s2 (t.snoc s2 hni hq)
    · intro acc H1 D s1 hD hd hlen t
      obtain ⟨ts, rfl, htl, ht⟩ := t
      walk_at "rd"
      refine tupOfL (sqL hd) fun P hP => ?_
      walk_at "rd"
      have hx1 : upd H1 P (.tup (ts.map V.ref)) x = some (.ins (He.ga K "Deal") dx []) := (by walk_at "hp")
      refine ⟨x, _, dx, [], rfl, hx1, T.cls_Deal, T.no_Deal_piles, by simp, ?_⟩
      walk_at "rd"
      have hs2 : Sq K (upd H1 P (.tup (ts.map V.ref))) s (sts.map V.int) := goSq (s1.trans (Rd.Same.new hP)) hs
      refine tupOf (sq_ins hx1 But.upd hs2) fun H2 S s2 hS => ?_
      walk_at "rd"
      have hx2 := s2 _ _ (upd_same (H := upd H1 P (.tup (ts.map V.ref))) (a := x) (o := .ins (He.ga K "Deal") dx (putF "piles" (.ref P) [])))
      refine ⟨x, _, dx, _, rfl, hx2, T.cls_Deal, T.no_Deal_starts, by simp [putF], ?_⟩
      walk_at "rd"
      have b1 : But x H1 (upd (upd H1 P (.tup (ts.map V.ref))) x (.ins (He.ga K "Deal") dx (putF "piles" (.ref P) []))) := (But.of (Rd.Same.new hP)).trans But.upd
      have b2 : But x H1 (upd H2 x (.ins (He.ga K "Deal") dx (putF "starts" (.ref S) (putF "piles" (.ref P) [])))) := (b1.trans (But.of s2)).trans But.upd
      have tp : SqT K (upd H1 P (.tup (ts.map V.ref))) P (ts.map V.ref) := sqT upd_same
      have keep : ∀ r xs, SqT K H1 r xs → SqT K (upd H2 x (.ins (He.ga K "Deal") dx (putF "starts" (.ref S) (putF "piles" (.ref P) [])))) r xs := fun r xs h => sqT_ins (s1 _ _ hx) b2 h
      refine k _ ((But.of s1).trans b2) ⟨dx, P, S, ts, upd_same, ?_, ⟨htl.trans (by rw [List.length_map, hl]), fun i r ns a b => keep _ _ (ht i r ns a b)⟩, sqT_ins hx2 But.upd hS⟩
      exact sqT_ins hx2 But.upd (goSqT s2 (sqT_ins hx1 But.upd tp))
end
end K59

set_option Elab.async false
set_option linter.all false
set_option maxRecDepth 100000
set_option maxHeartbeats 4000000
namespace K59
open PySem PySem.Spec PyProof.Rows L2 Rd
-- OPT pat = ⟨x, nss, sts, rfl, ⟨dx, P, S, rs, hx, hP, hrs, hS⟩, hn, k⟩
def lensOf (nss : List (List Int)) : List Int := nss.map fun ns => (ns.length : Int)
def sp_sizes_of (K : PySem.W.Frag) : Sp := fun vs H Q E => ∃ (x : Addr) (nss : List (List Int)) (sts : List Int), vs = [.ref x] ∧ IsDeal K H x nss sts ∧ nss.length ≤ 1000 ∧ RetT K H Q ((lensOf nss).map V.int)
section
variable {K : PySem.W.Frag} {mg : Str → Option Value} {P : Program} {w : World} {base : Heap}
theorem ok_sizes_of (T : Tx K mg) : Okd P w K mg base 1 "sizes_of" ["deal"] (sp_sizes_of K) := by
  refine Okd.mk' T.g_sizes_of T.f_sizes_of (fun _ _ _ _ _ _ us hl => match us, hl with | [_], _ => rfl) sc_sizes_of (fun vs H Q E h => ?_) (fun cdv A outer s H vs Q E hr h => ?_)
  · obtain ⟨x, nss, sts, rfl, ⟨dx, P, S, rs, hx, hP, hrs, hS⟩, hn, k⟩ := h
    rfl
  · obtain ⟨x, nss, sts, rfl, ⟨dx, P, S, rs, hx, hP, hrs, hS⟩, hn, k⟩ := h
    refine ⟨_, (pss_one (ps_ret (pe_callTy (k_tp K) (by rfl) T.m_tuple bt_tuple (pa_cons (pe_lc (own := [("pile", 1)]) rfl sc_sizes_of.nd (pi_or2 (ki_list K (kp_fld K (pv 0))) (ki_tup K (kp_fld K (pv 0)))) (blkOk_by (own := [("pile", 1)]) (N := ["deal", "pile"]) (sc := defScope s_sizes_of) (by decide +kernel)) (fun _ _ _ _ _ => (pg_name (i := 1) sc_sizes_of.nd rfl (Or.inl rfl))) (fun _ _ _ _ _ => pts_nil) (fun _ _ _ _ _ => (pe_callB (k_ln K) (by rfl) T.m_len bt_len (pa_cons (pv 1) pa_nil)))) pa_nil)))), ?_⟩
    refine start' (σ' := [some _, none]) rfl ?_
    have hl := hrs.1
    walk_at "rd"
    refine lcSq (a := P) (xs := rs.map V.ref) (fun R h => ?_) (.inr hP) (fun i _ => V.int ((nss.getD i []).length : Nat)) (fun _ => rfl) (line_ge (by rw [List.length_map]; omega)) ?_ ?_
    · walk_at "rd"
      exact ⟨x, _, dx, _, _, rfl, hx, T.cls_Deal, T.no_Deal_piles, rfl, h⟩
    · intro k x H1 R hx s1 hR
      obtain ⟨r, hri, rfl⟩ := refs_at hx
      have hi : k < nss.length := by
        have := (List.getElem?_eq_some_iff.mp hri).1
        omega
      have hni : nss[k]? = some nss[k] := List.getElem?_eq_getElem hi
      have hsq := goSqT s1 (hrs.2 k r _ hri hni)
      walk_at "rd"
      have e : ((nss.getD k []).length : Nat) = nss[k].length := by simp [List.getD, hi]
      rw [List.length_map]
      rw [e] at hR
      exact hR H1 (Same.refl H1)
    · intro H1 D s1 hD hd
      rw [lens_idx hl] at hd
      walk_at "rd"
      refine tupOfL (sqL hd) fun l hl => ?_
      exact k _ l (s1.trans (Rd.Same.new hl)) (sqT upd_same)
end
-- OPT pat = ⟨x, nss, sts, rfl, ⟨dx, P, S, rs, hx, hP, hrs, hS⟩, hn, hall, k⟩
def sp_begins_of (K : PySem.W.Frag) : Sp := fun vs H Q E => ∃ (x : Addr) (nss : List (List Int)) (sts : List Int), vs = [.ref x] ∧ IsDeal K H x nss sts ∧ nss.length ≤ 1000 ∧ (∀ v, v ∈ sts → 0 ≤ v ∧ v < nss.length) ∧ RetT K H Q ((tally nss.length sts).map V.int)
section
variable {K : PySem.W.Frag} {mg : Str → Option Value} {P : Program} {w : World} {base : Heap}
theorem ok_begins_of (T : Tx K mg) : Okd P w K mg base 2 "begins_of" ["deal"] (sp_begins_of K) := by
  have c_tally_of := ok_tally_of (P := P) (w := w) (base := base) T
  refine Okd.mk' T.g_begins_of T.f_begins_of (fun _ _ _ _ _ _ us hl => match us, hl with | [_], _ => rfl) sc_begins_of (fun vs H Q E h => ?_) (fun cdv A outer s H vs Q E hr h => ?_)
  · obtain ⟨x, nss, sts, rfl, ⟨dx, P, S, rs, hx, hP, hrs, hS⟩, hn, hall, k⟩ := h
    rfl
  · obtain ⟨x, nss, sts, rfl, ⟨dx, P, S, rs, hx, hP, hrs, hS⟩, hn, hall, k⟩ := h
    refine ⟨_, (pss_one (ps_ret (pe_def c_tally_of (hr.mono (by decide)) (takes_of rfl rfl rfl rfl) rfl (pa_cons (pe_callB (k_ln K) (by rfl) T.m_len bt_len (pa_cons (kp_fld K (pv 0)) pa_nil)) (pa_cons (kp_fld K (pv 0)) pa_nil))))), ?_⟩
    refine start' (σ' := [some _]) rfl ?_
    walk_at "rd"
    refine ⟨x, _, dx, _, _, rfl, hx, T.cls_Deal, T.no_Deal_piles, rfl, ?_⟩
    walk_at "rd"
    rw [List.length_map, hrs.1]
    refine ⟨x, _, dx, _, _, rfl, hx, T.cls_Deal, T.no_Deal_starts, rfl, ?_⟩
    walk_at "rd"
    exact ⟨nss.length, S, sts, rfl, .inr hS, hn, hall, k⟩
end
-- OPT pat = ⟨x, nss, sts, rfl, ⟨dx, P, S, rs, hx, hP, hrs, hS⟩, hn, hall, hlen, k⟩
def sp_pack_of (K : PySem.W.Frag) : Sp := fun vs H Q E => ∃ (x : Addr) (nss : List (List Int)) (sts : List Int), vs = [.ref x] ∧ IsDeal K H x nss sts ∧ nss.length ≤ 1000 ∧ (∀ v, v ∈ nss.flatten → 0 ≤ v ∧ v < nss.length) ∧ nss.flatten.length ≤ 16777000 ∧ RetT K H Q ((tally nss.length nss.flatten).map V.int)
section
variable {K : PySem.W.Frag} {mg : Str → Option Value} {P : Program} {w : World} {base : Heap}
theorem ok_pack_of (T : Tx K mg) : Okd P w K mg base 2 "pack_of" ["deal"] (sp_pack_of K) := by
  have c_tally_of := ok_tally_of (P := P) (w := w) (base := base) T
  refine Okd.mk' T.g_pack_of T.f_pack_of (fun _ _ _ _ _ _ us hl => match us, hl with | [_], _ => rfl) sc_pack_of (fun vs H Q E h => ?_) (fun cdv A outer s H vs Q E hr h => ?_)
  · obtain ⟨x, nss, sts, rfl, ⟨dx, P, S, rs, hx, hP, hrs, hS⟩, hn, hall, hlen, k⟩ := h
    rfl
  · obtain ⟨x, nss, sts, rfl, ⟨dx, P, S, rs, hx, hP, hrs, hS⟩, hn, hall, hlen, k⟩ := h
    refine ⟨_, (pss_one (ps_ret (pe_def c_tally_of (hr.mono (by decide)) (takes_of rfl rfl rfl rfl) rfl (pa_cons (pe_callB (k_ln K) (by rfl) T.m_len bt_len (pa_cons (kp_fld K (pv 0)) pa_nil)) (pa_cons (pe_lc2 (own := [("pile", 1), ("slip", 2)]) (vs1 := [2]) rfl sc_pack_of.nd (pi_or2 (ki_list K (kp_fld K (pv 0))) (ki_tup K (kp_fld K (pv 0)))) (blkOk_by (own := [("pile", 1), ("slip", 2)]) (N := ["deal", "pile", "slip"]) (sc := defScope s_pack_of) (by decide +kernel)) (by decide) (fun _ _ _ _ _ => (pg_name (i := 1) sc_pack_of.nd rfl (Or.inl rfl))) (fun _ _ _ _ _ => pts_nil) (fun _ _ _ _ _ => (pi_or2 (ki_list K (pv 1)) (ki_tup K (pv 1)))) (fun _ _ _ _ _ => (pg_name (i := 2) sc_pack_of.nd rfl (Or.inl rfl))) (fun _ _ _ _ _ => pts_nil) (fun _ _ _ _ _ => (pv 2))) pa_nil))))), ?_⟩
    refine start' (σ' := [some _, none, none]) rfl ?_
    walk_at "rd"
    refine ⟨x, _, dx, _, _, rfl, hx, T.cls_Deal, T.no_Deal_piles, rfl, ?_⟩
    walk_at "rd"
    rw [List.length_map, hrs.1]
    refine lc2Rows (a := P) (fun R h => ?_) (.inr hP) ⟨hrs.1, fun i r ns a b => .inr (hrs.2 i r ns a b)⟩ (fun _ => rfl) (fun _ _ => rfl) (fun _ => rfl) (fun _ _ => rfl) hlen ?_
    · walk_at "rd"
      exact ⟨x, _, dx, _, _, rfl, hx, T.cls_Deal, T.no_Deal_piles, rfl, h⟩
    · intro H1 D s1 hD hd
      walk_at "rd"
      exact ⟨nss.length, D, nss.flatten, rfl, .inl (sqL hd), hn, hall, k.go s1⟩
end
-- OPT pat = ⟨a, b, c, sz, bg, pk, rfl, ha, hb, hc, lb, lc, hn, k⟩
def endCounts (sz bg pk : List Int) : List Int := (List.range sz.length).map fun v => pk.getD v 0 + bg.getD v 0 - sz.getD v 0
def sp_counts_at_end (K : PySem.W.Frag) : Sp := fun vs H Q E => ∃ (a b c : Addr) (sz bg pk : List Int), vs = [.ref a, .ref b, .ref c] ∧ SqT K H a (sz.map V.int) ∧ SqT K H b (bg.map V.int) ∧ SqT K H c (pk.map V.int) ∧ bg.length = sz.length ∧ pk.length = sz.length ∧ sz.length ≤ 1000 ∧ RetT K H Q ((endCounts sz bg pk).map V.int)
section
variable {K : PySem.W.Frag} {mg : Str → Option Value} {P : Program} {w : World} {base : Heap}
theorem ok_counts_at_end (T : Tx K mg) : Okd P w K mg base 1 "counts_at_end" ["sizes", "begins", "pack"] (sp_counts_at_end K) := by
  refine Okd.mk' T.g_counts_at_end T.f_counts_at_end (fun _ _ _ _ _ _ us hl => match us, hl with | [_, _, _], _ => rfl) sc_counts_at_end (fun vs H Q E h => ?_) (fun cdv A outer s H vs Q E hr h => ?_)
  · obtain ⟨a, b, c, sz, bg, pk, rfl, ha, hb, hc, lb, lc, hn, k⟩ := h
    rfl
  · obtain ⟨a, b, c, sz, bg, pk, rfl, ha, hb, hc, lb, lc, hn, k⟩ := h
    refine ⟨_, (pss_one (ps_ret (pe_callTy (k_tp K) (by rfl) T.m_tuple bt_tuple (pa_cons (pe_lc (own := [("v", 3)]) rfl sc_counts_at_end.nd (pi_range1 (by rfl) T.m_range (pa_cons (pe_callB (k_ln K) (by rfl) T.m_len bt_len (pa_cons (pv 0) pa_nil)) pa_nil)) (blkOk_by (own := [("v", 3)]) (N := ["sizes", "begins", "pack", "v"]) (sc := defScope s_counts_at_end) (by decide +kernel)) (fun _ _ _ _ _ => (pg_name (i := 3) sc_counts_at_end.nd rfl (Or.inl rfl))) (fun _ _ _ _ _ => pts_nil) (fun _ _ _ _ _ => (pe_op op_sub (pe_op (k_plus K) (pe_ix (k_ix K) (pv 2) (pv 3) (fun _ _ => rfl)) (pe_ix (k_ix K) (pv 1) (pv 3) (fun _ _ => rfl))) (pe_ix (k_ix K) (pv 0) (pv 3) (fun _ _ => rfl))))) pa_nil)))), ?_⟩
    refine start' (σ' := [some _, some _, some _, none]) rfl ?_
    walk_at "rd"
    refine lcR1 (n := sz.length) (fun R h => ?_) (by omega) (fun v => V.int (pk.getD v 0 + bg.getD v 0 - sz.getD v 0)) (fun _ => rfl) ?_ ?_
    · walk_at "rd"
      rw [List.length_map]
      exact h
    · intro v H1 R hv s1 hR
      walk_at "rd"
      refine ixI (.inr (goSqT s1 hc)) (by omega) ?_
      walk_at "rd"
      refine ixI (.inr (goSqT s1 hb)) (by omega) ?_
      walk_at "rd"
      refine ixI (.inr (goSqT s1 ha)) (by omega) ?_
      walk_at "rd"
      exact hR H1 (Same.refl H1)
    · intro H1 D s1 hD hd
      walk_at "rd"
      refine tupOfL (sqL hd) fun l hl => ?_
      refine k _ l (s1.trans (Rd.Same.new hl)) (sqT ?_)
      rw [upd_same, Int.toNat_natCast, endCounts, List.map_map]
      rfl
end
end K59

set_option Elab.async false
set_option linter.all false
set_option maxRecDepth 100000
set_option maxHeartbeats 4000000
namespace K59
open PySem PySem.Spec PyProof.Rows L2 Rd
-- OPT pat = ⟨p, cs, rfl, hp, hall, k⟩
def sp_need_counts (K : PySem.W.Frag) : Sp := fun vs H Q E => ∃ (p : Addr) (cs : List Int), vs = [.ref p] ∧ Sq K H p (cs.map V.int) ∧ (∀ c, c ∈ cs → 0 ≤ c) ∧ RetV H Q .non
section
variable {K : PySem.W.Frag} {mg : Str → Option Value} {P : Program} {w : World} {base : Heap}
theorem ok_need_counts (T : Tx K mg) : Okd P w K mg base 3 "need_counts" ["counts"] (sp_need_counts K) := by
  have i_Unframed := ini_Unframed (P := P) (w := w) (base := base) T
  refine Okd.mk' T.g_need_counts T.f_need_counts (fun _ _ _ _ _ _ us hl => match us, hl with | [_], _ => rfl) sc_need_counts (fun vs H Q E h => ?_) (fun cdv A outer s H vs Q E hr h => ?_)
  · obtain ⟨p, cs, rfl, hp, hall, k⟩ := h
    rfl
  · obtain ⟨p, cs, rfl, hp, hall, k⟩ := h
    refine ⟨_, (pss_one (ps_for (passes_of rfl) rfl (pi_or2 (ki_enum K (by rfl) T.m_enumerate (pa_cons (pv 0) pa_nil)) (ki_enumT K (by rfl) T.m_enumerate (pa_cons (pv 0) pa_nil))) (kg_tup K (n := 2) rfl (pgs_cons (pg_name (i := 1) sc_need_counts.nd rfl (Or.inl rfl)) (pgs_cons (pg_name (i := 2) sc_need_counts.nd rfl (Or.inl rfl)) pgs_nil))) (pss_one (ps_if (pt_cmpR op_lt (pv 2) pe_int (nomark _)) (pss_one (ps_raise rfl (takes_of rfl rfl rfl rfl) (kmk_err K i_Unframed (hr.mono (by decide)) rfl (pa_cons (pv 1) pa_nil)))) pss_nil)))), ?_⟩
    refine start' (σ' := [some _, none, none]) rfl ?_
    walk_at "rd"
    refine forEn (xs := cs.map V.int) (fun R h => ?_) hp (fun i σ H' => ∃ u v : Option V, σ = [some (.ref p), u, v] ∧ Same H H') ⟨none, none, rfl, Same.refl H⟩ (fun i σ H' ⟨_, _, _, s⟩ => s) ?_ ?_
    · walk_at "rd"
      exact h
    · rintro i x σ H1 T hx ⟨u, v, rfl, s1⟩ hT
      obtain ⟨z, hz, rfl⟩ := ints_at hx
      have h0 := hall z (List.mem_of_getElem? hz)
      walk_at "rd"
      exact ⟨_, _, rfl, s1.trans (Rd.Same.new hT)⟩
    · rintro σ H1 ⟨u, v, rfl, s1⟩
      walk_at "rd"
      exact k H1 s1
end
-- OPT pat = ⟨p, q, cs, sz, rfl, hp, hq, ll, hn, k⟩
def othersTo (cs sz : List Int) (n : Nat) : List Int := ((List.range n).filter fun v => decide (cs.getD v 0 = 0 ∧ 1 ≤ sz.getD v 0)).map fun (v : Nat) => (v : Int)
def othersOf (cs sz : List Int) : List Int := othersTo cs sz cs.length
theorem othersTo_len (cs sz : List Int) (n : Nat) : (othersTo cs sz n).length ≤ n := by
  unfold othersTo
  rw [List.length_map]
  exact Nat.le_trans (List.length_filter_le _ _) (by simp)
theorem othersTo_yes {cs sz : List Int} {n : Nat} (h : cs.getD n 0 = 0 ∧ 1 ≤ sz.getD n 0) : othersTo cs sz (n + 1) = othersTo cs sz n ++ [(n : Int)] := by
  unfold othersTo
  rw [List.range_succ, List.filter_append, List.map_append]
  congr 1
  rw [List.filter_cons_of_pos (by simpa using h)]
  rfl
theorem othersTo_no {cs sz : List Int} {n : Nat} (h : ¬ (cs.getD n 0 = 0 ∧ 1 ≤ sz.getD n 0)) : othersTo cs sz (n + 1) = othersTo cs sz n := by
  unfold othersTo
  rw [List.range_succ, List.filter_append, List.map_append]
  rw [List.filter_cons_of_neg (by simpa using h)]
  simp
def sp_other_row (K : PySem.W.Frag) : Sp := fun vs H Q E => ∃ (p q : Addr) (cs sz : List Int), vs = [.ref p, .ref q] ∧ Sq K H p (cs.map V.int) ∧ Sq K H q (sz.map V.int) ∧ sz.length = cs.length ∧ cs.length ≤ 1000 ∧ RetT K H Q ((othersOf cs sz).map V.int)
section
variable {K : PySem.W.Frag} {mg : Str → Option Value} {P : Program} {w : World} {base : Heap}
theorem ok_other_row (T : Tx K mg) : Okd P w K mg base 1 "other_row" ["counts", "sizes"] (sp_other_row K) := by
  refine Okd.mk' T.g_other_row T.f_other_row (fun _ _ _ _ _ _ us hl => match us, hl with | [_, _], _ => rfl) sc_other_row (fun vs H Q E h => ?_) (fun cdv A outer s H vs Q E hr h => ?_)
  · obtain ⟨p, q, cs, sz, rfl, hp, hq, ll, hn, k⟩ := h
    rfl
  · obtain ⟨p, q, cs, sz, rfl, hp, hq, ll, hn, k⟩ := h
    refine ⟨_, (pss_one (ps_ret (pe_callTy (k_tp K) (by rfl) T.m_tuple bt_tuple (pa_cons (pe_lc (own := [("v", 2), ("count", 3)]) rfl sc_other_row.nd (pi_or2 (ki_enum K (by rfl) T.m_enumerate (pa_cons (pv 0) pa_nil)) (ki_enumT K (by rfl) T.m_enumerate (pa_cons (pv 0) pa_nil))) (blkOk_by (own := [("v", 2), ("count", 3)]) (N := ["counts", "sizes", "v", "count"]) (sc := defScope s_other_row) (by decide +kernel)) (fun _ _ _ _ _ => (kg_tup K (n := 2) rfl (pgs_cons (pg_name (i := 2) sc_other_row.nd rfl (Or.inl rfl)) (pgs_cons (pg_name (i := 3) sc_other_row.nd rfl (Or.inl rfl)) pgs_nil)))) (fun _ _ _ _ _ => (pts_one (PW.pt (pw_and (pt_cmpR (k_same K (hr_units hr)) (pv 3) pe_int (nomark _)) (pw_and1 (pt_cmpR op_ge (pe_ix (k_ix K) (pv 1) (pv 2) (fun _ _ => rfl)) pe_int (nomark _))))))) (fun _ _ _ _ _ => (pv 2))) pa_nil)))), ?_⟩
    refine start' (σ' := [some _, some _, none, none]) rfl ?_
    walk_at "rd"
    refine lcEn (σw := [some (.ref p), some (.ref q), none, none]) rfl (xs := cs.map V.int) (fun R h => ?_) hp (fun i => (othersTo cs sz i).map V.int) rfl (fun i hi => ?_) ?_ ?_
    · walk_at "rd"
      exact h
    · rw [List.length_map] at hi ⊢
      have := othersTo_len cs sz i
      exact sm_le (by omega)
    · intro i x H1 T Y N hx s1 hT hY hN
      obtain ⟨z, hz, rfl⟩ := ints_at hx
      have hi := (List.getElem?_eq_some_iff.mp hz).1
      have ez : z = cs.getD i 0 := by simp [List.getD, hz]
      refine gtup (sqT hT) rfl ?_
      walk_at "rd"
      refine ⟨rfl, ?_⟩
      walk_at "rd"
      subst ez
      refine ways (fun c => ?_) (fun c => ?_)
      · walk_at "rd"
        refine ixI (goSq s1 hq) (by omega) ?_
        walk_at "rd"
        refine ways (fun c2 => ?_) (fun c2 => ?_)
        · walk_at "rd"
          refine hY _ _ (Same.refl H1) ?_
          rw [othersTo_yes ⟨c, c2⟩, List.map_append]
          rfl
        · refine hN _ (Same.refl H1) ?_
          rw [othersTo_no fun z => c2 z.2]
      · walk_at "rd"
        refine hN _ (Same.refl H1) ?_
        rw [othersTo_no fun z => c z.1]
    · intro H1 D s1 hD hd
      walk_at "rd"
      refine tupOfL (sqL hd) fun l hl => ?_
      refine k _ l (s1.trans (Rd.Same.new hl)) (sqT ?_)
      rw [upd_same, List.length_map]
      rfl
end
end K59

set_option Elab.async false
set_option linter.all false
set_option maxRecDepth 100000
set_option maxHeartbeats 4000000
namespace K59
open PySem PySem.Spec PyProof.Rows L2 Rd
-- OPT pat = ⟨x, nss, sts, rfl, hd, ok, k⟩
/-- the station numbers of a deal stand within it -/
def DealOk (nss : List (List Int)) (sts : List Int) : Prop := nss.length ≤ 1000 ∧ (∀ v, v ∈ sts → 0 ≤ v ∧ v < nss.length) ∧ (∀ v, v ∈ nss.flatten → 0 ≤ v ∧ v < nss.length) ∧ nss.flatten.length ≤ 16777000
def endOf (nss : List (List Int)) (sts : List Int) : List Int := endCounts (lensOf nss) (tally nss.length sts) (tally nss.length nss.flatten)
theorem lensOf_len (nss : List (List Int)) : (lensOf nss).length = nss.length := by simp [lensOf]
theorem endOf_len (nss : List (List Int)) (sts : List Int) : (endOf nss sts).length = nss.length := by simp [endOf, endCounts, lensOf_len]
def sp_end_counts (K : PySem.W.Frag) : Sp := fun vs H Q E => ∃ (x : Addr) (nss : List (List Int)) (sts : List Int), vs = [.ref x] ∧ IsDeal K H x nss sts ∧ DealOk nss sts ∧ RetT K H Q ((endOf nss sts).map V.int)
section
variable {K : PySem.W.Frag} {mg : Str → Option Value} {P : Program} {w : World} {base : Heap}
theorem ok_end_counts (T : Tx K mg) : Okd P w K mg base 3 "end_counts" ["deal"] (sp_end_counts K) := by
  have c_begins_of := ok_begins_of (P := P) (w := w) (base := base) T
  have c_counts_at_end := ok_counts_at_end (P := P) (w := w) (base := base) T
  have c_pack_of := ok_pack_of (P := P) (w := w) (base := base) T
  have c_sizes_of := ok_sizes_of (P := P) (w := w) (base := base) T
  refine Okd.mk' T.g_end_counts T.f_end_counts (fun _ _ _ _ _ _ us hl => match us, hl with | [_], _ => rfl) sc_end_counts (fun vs H Q E h => ?_) (fun cdv A outer s H vs Q E hr h => ?_)
  · obtain ⟨x, nss, sts, rfl, hd, ok, k⟩ := h
    rfl
  · obtain ⟨x, nss, sts, rfl, hd, ok, k⟩ := h
    refine ⟨_, (pss_one (ps_ret (pe_def c_counts_at_end (hr.mono (by decide)) (takes_of rfl rfl rfl rfl) rfl (pa_cons (pe_def c_sizes_of (hr.mono (by decide)) (takes_of rfl rfl rfl rfl) rfl (pa_cons (pv 0) pa_nil)) (pa_cons (pe_def c_begins_of (hr.mono (by decide)) (takes_of rfl rfl rfl rfl) rfl (pa_cons (pv 0) pa_nil)) (pa_cons (pe_def c_pack_of (hr.mono (by decide)) (takes_of rfl rfl rfl rfl) rfl (pa_cons (pv 0) pa_nil)) pa_nil)))))), ?_⟩
    refine start' (σ' := [some _]) rfl ?_
    walk_at "rd"
    refine ⟨x, nss, sts, rfl, hd, ok.1, fun H1 a s1 ha => ?_⟩
    walk_at "rd"
    refine ⟨x, nss, sts, rfl, hd.go s1, ok.1, ok.2.1, fun H2 b s2 hb => ?_⟩
    walk_at "rd"
    refine ⟨x, nss, sts, rfl, hd.go (s1.trans s2), ok.1, ok.2.2.1, ok.2.2.2, fun H3 c s3 hc => ?_⟩
    walk_at "rd"
    exact ⟨a, b, c, lensOf nss, _, _, rfl, goSqT (s2.trans s3) ha, goSqT s3 hb, hc, by rw [tally_len, lensOf_len], by rw [tally_len, lensOf_len], by rw [lensOf_len]; exact ok.1, k.go (s1.trans (s2.trans s3))⟩
end
-- OPT pat = ⟨x, nss, sts, rfl, hd, ok, hpos, k⟩
def othOf (nss : List (List Int)) (sts : List Int) : List Int := othersOf (endOf nss sts) (lensOf nss)
def sp_others (K : PySem.W.Frag) : Sp := fun vs H Q E => ∃ (x : Addr) (nss : List (List Int)) (sts : List Int), vs = [.ref x] ∧ IsDeal K H x nss sts ∧ DealOk nss sts ∧ (∀ c, c ∈ endOf nss sts → 0 ≤ c) ∧ RetT K H Q ((othOf nss sts).map V.int)
section
variable {K : PySem.W.Frag} {mg : Str → Option Value} {P : Program} {w : World} {base : Heap}
theorem ok_others (T : Tx K mg) : Okd P w K mg base 4 "others" ["deal"] (sp_others K) := by
  have c_end_counts := ok_end_counts (P := P) (w := w) (base := base) T
  have c_need_counts := ok_need_counts (P := P) (w := w) (base := base) T
  have c_other_row := ok_other_row (P := P) (w := w) (base := base) T
  have c_sizes_of := ok_sizes_of (P := P) (w := w) (base := base) T
  refine Okd.mk' T.g_others T.f_others (fun _ _ _ _ _ _ us hl => match us, hl with | [_], _ => rfl) sc_others (fun vs H Q E h => ?_) (fun cdv A outer s H vs Q E hr h => ?_)
  · obtain ⟨x, nss, sts, rfl, hd, ok, hpos, k⟩ := h
    rfl
  · obtain ⟨x, nss, sts, rfl, hd, ok, hpos, k⟩ := h
    refine ⟨_, (pss_cons (ps_set (i := 1) sc_others.nd rfl (Or.inl rfl) (pe_def c_end_counts (hr.mono (by decide)) (takes_of rfl rfl rfl rfl) rfl (pa_cons (pv 0) pa_nil)))
      (pss_cons (ps_expr (pe_def c_need_counts (hr.mono (by decide)) (takes_of rfl rfl rfl rfl) rfl (pa_cons (pv 1) pa_nil)))
      (pss_one (ps_ret (pe_def c_other_row (hr.mono (by decide)) (takes_of rfl rfl rfl rfl) rfl (pa_cons (pv 1) (pa_cons (pe_def c_sizes_of (hr.mono (by decide)) (takes_of rfl rfl rfl rfl) rfl (pa_cons (pv 0) pa_nil)) pa_nil))))))), ?_⟩
    refine start' (σ' := [some _, none]) rfl ?_
    walk_at "rd"
    refine ⟨x, nss, sts, rfl, hd, ok, fun H1 a s1 ha => ?_⟩
    walk_at "rd"
    refine ⟨a, _, rfl, .inr ha, hpos, fun H2 s2 => ?_⟩
    walk_at "rd"
    refine ⟨x, nss, sts, rfl, hd.go (s1.trans s2), ok.1, fun H3 b s3 hb => ?_⟩
    walk_at "rd"
    exact ⟨a, b, _, _, rfl, .inr (goSqT (s2.trans s3) ha), .inr hb, by rw [lensOf_len, endOf_len], by rw [endOf_len]; exact ok.1, k.go (s1.trans (s2.trans s3))⟩
end
-- OPT pat = ⟨x, nss, sts, rfl, hd, ok, hpos, k⟩
theorem oth_mem {cs sz : List Int} {y : Int} (h : y ∈ othersOf cs sz) : ∃ j : Nat, y = j ∧ j < cs.length ∧ 1 ≤ sz.getD j 0 := by
  unfold othersOf othersTo at h
  obtain ⟨j, hj, rfl⟩ := List.mem_map.mp h
  obtain ⟨h1, h2⟩ := List.mem_filter.mp hj
  have h3 := of_decide_eq_true h2
  exact ⟨j, rfl, List.mem_range.mp h1, h3.2⟩
def arrAt (nss : List (List Int)) (os : List Int) : List V := (List.range nss.length).map fun (v : Nat) => if (v : Int) ∈ os then V.int ((nss.getD v []).getLastD 0) else .non
def aimOf (nss : List (List Int)) (sts : List Int) : List V := arrAt nss (othOf nss sts)
theorem arrAt_at {nss : List (List Int)} {os : List Int} {v : Nat} (h : v < nss.length) : (arrAt nss os)[v]? = some (if (v : Int) ∈ os then V.int ((nss.getD v []).getLastD 0) else .non) := by simp [arrAt, h]
theorem arrAt_len (nss : List (List Int)) (os : List Int) : (arrAt nss os).length = nss.length := by simp [arrAt]
theorem arrAt_step {nss : List (List Int)} {os : List Int} {i j : Nat} (h : os[i]? = some (j : Int)) : (arrAt nss (os.take i)).set j (V.int ((nss.getD j []).getLastD 0)) = arrAt nss (os.take (i + 1)) := by
  have e : os.take (i + 1) = os.take i ++ [(j : Int)] := by
    rw [List.take_add_one, h]
    rfl
  apply List.ext_getElem?
  intro v
  rw [List.getElem?_set, e]
  by_cases hv : v < nss.length
  · rw [arrAt_at hv, arrAt_at hv]
    by_cases hj : j = v
    · subst hj
      rw [if_pos rfl, if_pos (by rw [arrAt_len]; exact hv), if_pos (by simp)]
    · rw [if_neg hj]
      have : ((v : Int) ∈ os.take i ++ [(j : Int)]) ↔ (v : Int) ∈ os.take i := by
        rw [List.mem_append, List.mem_singleton]
        refine ⟨fun z => z.elim id fun z => absurd (Int.ofNat.inj z).symm hj, .inl⟩
      by_cases hm : (v : Int) ∈ os.take i
      · rw [if_pos hm, if_pos (this.mpr hm)]
      · rw [if_neg hm, if_neg fun z => hm (this.mp z)]
  · rw [List.getElem?_eq_none (l := arrAt nss _) (by rw [arrAt_len]; omega), List.getElem?_eq_none (l := arrAt nss (os.take i ++ _)) (by rw [arrAt_len]; omega)]
    split
    · rw [if_neg (by rw [arrAt_len]; omega)]
    · rfl
theorem nones (n : Nat) : (List.replicate n [V.non]).flatten = List.replicate n V.non := by
  induction n with
  | zero => rfl
  | succ n ih =>
    rw [List.replicate_succ, List.flatten_cons, ih, List.replicate_succ]
    rfl
theorem arrAt_nil (nss : List (List Int)) : arrAt nss [] = List.replicate nss.length .non := by
  apply List.ext_getElem?
  intro v
  by_cases hv : v < nss.length
  · rw [arrAt_at hv]
    simp [hv]
  · rw [List.getElem?_eq_none (by rw [arrAt_len]; omega), List.getElem?_eq_none (by simp; omega)]
def sp_aim (K : PySem.W.Frag) : Sp := fun vs H Q E => ∃ (x : Addr) (nss : List (List Int)) (sts : List Int), vs = [.ref x] ∧ IsDeal K H x nss sts ∧ DealOk nss sts ∧ (∀ c, c ∈ endOf nss sts → 0 ≤ c) ∧ RetT K H Q (aimOf nss sts)
section
variable {K : PySem.W.Frag} {mg : Str → Option Value} {P : Program} {w : World} {base : Heap}
theorem ok_aim (T : Tx K mg) : Okd P w K mg base 5 "aim" ["deal"] (sp_aim K) := by
  have c_others := ok_others (P := P) (w := w) (base := base) T
  refine Okd.mk' T.g_aim T.f_aim (fun _ _ _ _ _ _ us hl => match us, hl with | [_], _ => rfl) sc_aim (fun vs H Q E h => ?_) (fun cdv A outer s H vs Q E hr h => ?_)
  · obtain ⟨x, nss, sts, rfl, hd, ok, hpos, k⟩ := h
    rfl
  · obtain ⟨x, nss, sts, rfl, hd, ok, hpos, k⟩ := h
    refine ⟨_, (pss_cons (ps_set (i := 1) sc_aim.nd rfl (Or.inl rfl) (pe_op op_times (pe_lst (pa_cons pe_non pa_nil)) (pe_callB (k_ln K) (by rfl) T.m_len bt_len (pa_cons (kp_fld K (pv 0)) pa_nil))))
      (pss_cons (ps_for (passes_of rfl) rfl (pi_or2 (ki_list K (pe_def c_others (hr.mono (by decide)) (takes_of rfl rfl rfl rfl) rfl (pa_cons (pv 0) pa_nil))) (ki_tup K (pe_def c_others (hr.mono (by decide)) (takes_of rfl rfl rfl rfl) rfl (pa_cons (pv 0) pa_nil)))) (pg_name (i := 2) sc_aim.nd rfl (Or.inl rfl)) (pss_one (ps_asg (pe_ix (k_ix K) (pe_ix (k_ix K) (kp_fld K (pv 0)) (pv 2) (fun _ _ => rfl)) (pe_un un_neg pe_int) (fun _ _ => rfl)) (pg_sub (pv 1) (pv 2) set_list))))
      (pss_one (ps_ret (pe_callTy (k_tp K) (by rfl) T.m_tuple bt_tuple (pa_cons (pv 1) pa_nil)))))), ?_⟩
    refine start' (σ' := [some _, none, none]) rfl ?_
    have hd0 := hd
    obtain ⟨dx, P, S, rs, hx, hP, hrs, hS⟩ := hd
    walk_at "rd"
    refine ⟨le_line (by simp), fun z hz => ?_⟩
    have sz : Same H (upd H z (.lst [.non])) := Rd.Same.new hz
    walk_at "rd"
    refine ⟨x, _, dx, _, _, rfl, (by walk_at "hp"), T.cls_Deal, T.no_Deal_piles, rfl, ?_⟩
    have hP1 := goSqT sz hP
    walk_at "rd"
    rw [List.length_map, hrs.1]
    refine timesL (l := z) (by walk_at "hp") (by omega) (by have := ok.1; omega) ?_ fun c hc => ?_
    · have := line_ge (n := 1000) (by omega)
      have := ok.1
      simp
      omega
    · walk_at "rd"
      have e0 : ((List.replicate ((nss.length : Nat) : Int).toNat [V.non]).flatten) = arrAt nss [] := by rw [Int.toNat_natCast, nones, arrAt_nil]
      rw [e0]
      have s0 : Same H (upd (upd H z (.lst [.non])) c (.lst (arrAt nss []))) := sz.trans (Rd.Same.new hc)
      have hc0 : H c = none := sz.free hc
      refine forTE ?_
      walk_at "rd"
      refine ⟨x, nss, sts, rfl, hd0.go s0, ok, hpos, fun H1 o s1 ho => ?_⟩
      have a1 : H1 c = some (.lst (arrAt nss [])) := s1 _ _ upd_same
      refine lpT (xs := (othOf nss sts).map V.int) (R := fun _ _ => True) ho (fun i σ H' => ∃ v : Option V, σ = [some (.ref x), some (.ref c), v] ∧ Same H H' ∧ SqT K H' o ((othOf nss sts).map V.int) ∧ H' c = some (.lst (arrAt nss ((othOf nss sts).take i))))
        ⟨none, rfl, s0.trans s1, ho, a1⟩ (fun i σ H' ⟨_, _, _, h, _⟩ => h) ?_ ?_
      · rintro i y σ H2 hy ⟨v, rfl, s2, ho2, e2⟩
        obtain ⟨y2, hy2, rfl⟩ := ints_at hy
        obtain ⟨j, rfl, hj, h1⟩ := oth_mem (List.mem_of_getElem? hy2)
        rw [endOf_len] at hj
        have hjr : j < rs.length := by
          have := hrs.1
          omega
        have hni : nss[j]? = some nss[j] := List.getElem?_eq_getElem hj
        have hri : rs[j]? = some rs[j] := List.getElem?_eq_getElem hjr
        have hl1 : 1 ≤ nss[j].length := by
          have : (lensOf nss).getD j 0 = (nss[j].length : Int) := by simp [lensOf, List.getD, hj]
          omega
        have row := goSqT s2 (hrs.2 j _ _ hri hni)
        have eD : nss.getD j [] = nss[j] := by simp [List.getD, hj]
        walk_at "rd"
        refine ⟨x, _, dx, _, _, rfl, (by walk_at "hp"), T.cls_Deal, T.no_Deal_piles, rfl, ?_⟩
        walk_at "rd"
        refine ixT (goSqT s2 hP) (atN (by rw [List.getElem?_map, hri]; rfl)) ?_
        walk_at "rd"
        refine ixT row (v := .int ((nss.getD j []).getLastD 0)) (atLast ?_) ?_
        · rw [List.length_map, List.getElem?_map, eD, List.getElem?_eq_getElem (by omega), List.getLastD_eq_getLast?, List.getLast?_eq_getElem?, List.getElem?_eq_getElem (by omega)]
          rfl
        · walk_at "rd"
          refine setL e2 (ixN_nat (by rw [arrAt_len]; exact hj)) ?_
          refine ⟨_, rfl, Rd.Same.own s2 hc0, ?_, ?_⟩
          · exact sqT_but e2 But.upd ho2
          · rw [upd_same, arrAt_step hy2]
      · rintro σ H2 ⟨v, rfl, s2, ho2, e2⟩
        rw [List.length_map, List.take_length] at e2
        walk_at "rd"
        refine tupOfL (sqL e2) fun l hl => ?_
        exact k _ l (s2.trans (Rd.Same.new hl)) (sqT upd_same)
end
end K59

set_option Elab.async false
set_option linter.all false
set_option maxRecDepth 100000
set_option maxHeartbeats 4000000
namespace K59
open PySem PySem.Spec PyProof.Rows L2 Rd
-- OPT pat = ⟨p, xs, rfl, hp, o⟩
def someErr {α : Type} (xs : List α) : Option ErrV := if xs.length = 0 then some ("Empty", [("what", .str "trail")]) else none
def sp_check_some (K : PySem.W.Frag) : Sp := fun vs H Q E => ∃ (p : Addr) (xs : List V), vs = [.ref p] ∧ Sq K H p xs ∧ Out K E H (someErr xs) (Q .non H)
section
variable {K : PySem.W.Frag} {mg : Str → Option Value} {P : Program} {w : World} {base : Heap}
theorem ok_check_some (T : Tx K mg) : Okd P w K mg base 3 "check_some" ["trail"] (sp_check_some K) := by
  have i_Empty := ini_Empty (P := P) (w := w) (base := base) T
  refine Okd.mk' T.g_check_some T.f_check_some (fun _ _ _ _ _ _ us hl => match us, hl with | [_], _ => rfl) sc_check_some (fun vs H Q E h => ?_) (fun cdv A outer s H vs Q E hr h => ?_)
  · obtain ⟨p, xs, rfl, hp, o⟩ := h
    rfl
  · obtain ⟨p, xs, rfl, hp, o⟩ := h
    refine ⟨_, (pss_one (ps_if (pt_cmpR (k_same K (hr_units hr)) (pe_callB (k_ln K) (by rfl) T.m_len bt_len (pa_cons (pv 0) pa_nil)) pe_int (nomark _)) (pss_one (ps_raise rfl (takes_of rfl rfl rfl rfl) (kmk_err K i_Empty (hr.mono (by decide)) rfl (pa_cons pe_str pa_nil)))) pss_nil)), ?_⟩
    refine start' (σ' := [some _]) rfl ?_
    walk_at "rd"
    refine ways (fun c => ?_) (fun c => ?_)
    · walk_at "rd"
      exact mkd rfl (by simp) fun d hd => (o.2 _ _ (if_pos (by omega))).at hd
    · walk_at "rd"
      exact o.1 (if_neg (by omega))
end
-- OPT pat = ⟨n, p, ns, rfl, hp, o⟩
def trailErr (n : Int) (ns : List Int) : Option ErrV := (cntErr n).or ((someErr ns).or (rowErr n ns))
def sp_check_trail (K : PySem.W.Frag) : Sp := fun vs H Q E => ∃ (n : Int) (p : Addr) (ns : List Int), vs = [.int n, .ref p] ∧ Sq K H p (ns.map V.int) ∧ Out K E H (trailErr n ns) (Q .non H)
section
variable {K : PySem.W.Frag} {mg : Str → Option Value} {P : Program} {w : World} {base : Heap}
theorem ok_check_trail (T : Tx K mg) : Okd P w K mg base 4 "check_trail" ["n", "trail"] (sp_check_trail K) := by
  have c_check_some := ok_check_some (P := P) (w := w) (base := base) T
  have i_BadStation := ini_BadStation (P := P) (w := w) (base := base) T
  have i_Empty := ini_Empty (P := P) (w := w) (base := base) T
  have i_TooMany := ini_TooMany (P := P) (w := w) (base := base) T
  refine Okd.mk' T.g_check_trail T.f_check_trail (fun _ _ _ _ _ _ us hl => match us, hl with | [_, _], _ => rfl) sc_check_trail (fun vs H Q E h => ?_) (fun cdv A outer s H vs Q E hr h => ?_)
  · obtain ⟨n, p, ns, rfl, hp, o⟩ := h
    rfl
  · obtain ⟨n, p, ns, rfl, hp, o⟩ := h
    refine ⟨_, (pss_cons (ps_if (pt_cmpR op_lt (pv 0) pe_int (nomark _)) (pss_one (ps_raise rfl (takes_of rfl rfl rfl rfl) (kmk_err K i_Empty (hr.mono (by decide)) rfl (pa_cons pe_str pa_nil)))) pss_nil)
      (pss_cons (ps_if (pt_cmpR op_gt (pv 0) (kp_cval K (pe_glob (v := V.ref (He.ga K "Deal")) rfl T.g_Deal rfl)) (nomark _)) (pss_one (ps_raise rfl (takes_of rfl rfl rfl rfl) (kmk_err K i_TooMany (hr.mono (by decide)) rfl (pa_cons pe_str (pa_cons (kp_cval K (pe_glob (v := V.ref (He.ga K "Deal")) rfl T.g_Deal rfl)) pa_nil))))) pss_nil)
      (pss_cons (ps_expr (pe_def c_check_some (hr.mono (by decide)) (takes_of rfl rfl rfl rfl) rfl (pa_cons (pv 1) pa_nil)))
      (pss_one (ps_for (passes_of rfl) rfl (pi_or2 (ki_list K (pv 1)) (ki_tup K (pv 1))) (pg_name (i := 2) sc_check_trail.nd rfl (Or.inl rfl)) (pss_one (ps_if (PW.pt (pw_or (pt_cmpR op_lt (pv 2) pe_int (nomark _)) (pw_or1 (pt_cmpR op_ge (pv 2) (pv 0) (nomark _))))) (pss_one (ps_raise rfl (takes_of rfl rfl rfl rfl) (kmk_err K i_BadStation (hr.mono (by decide)) rfl (pa_cons (pv 2) pa_nil)))) pss_nil))))))), ?_⟩
    refine start' (σ' := [some _, some _, none]) rfl ?_
    have cread := T.read
    have cSTATIONS := T.con_STATIONS
    walk_at "rd"
    refine ways (fun c => ?_) (fun c => ?_)
    · walk_at "rd"
      exact mkd rfl (by simp) fun d hd => (o.2 _ _ (by unfold trailErr cntErr; rw [if_pos c]; rfl)).at hd
    · walk_at "rd"
      refine ways (fun c2 => ?_) (fun c2 => ?_)
      · walk_at "rd"
        exact mkd rfl (by simp) fun d hd => (o.2 _ _ (by unfold trailErr cntErr; rw [if_neg c, if_pos c2]; rfl)).at hd
      · walk_at "rd"
        have q0 : cntErr n = none := (if_neg c).trans (if_neg c2)
        refine ⟨p, _, rfl, hp, fun q1 => ?_, fun x fs q => o.2 x fs (by unfold trailErr; rw [q0]; unfold someErr at q ⊢; rw [List.length_map] at q; rw [q]; rfl)⟩
        have q1' : someErr ns = none := by
          unfold someErr at q1 ⊢
          rw [List.length_map] at q1
          exact q1
        have eo : trailErr n ns = rowErr n ns := by
          unfold trailErr
          rw [q0, q1']
          rfl
        rw [eo] at o
        walk_at "rd"
        refine forSq (xs := ns.map V.int) (fun R h => ⟨_, rfl, h⟩) hp (fun i σ H' => ∃ v : Option V, σ = [some (.int n), some (.ref p), v] ∧ H' = H ∧ rowErr n (ns.take i) = none) ⟨none, rfl, rfl, rfl⟩ (fun i σ H' ⟨_, _, e, _⟩ => by rw [e]; exact Same.refl H) ?_ ?_
        · rintro i x σ H' hx ⟨v, rfl, rfl, hr⟩
          obtain ⟨z, hz, rfl⟩ := ints_at hx
          have st := row_take hr hz
          walk_at "rd"
          refine ways (fun c3 => ?_) (fun c3 => ?_)
          · walk_at "rd"
            exact mkd rfl (by simp) fun d hd => (o.2 _ _ (st.2 _ (if_neg (by omega)))).at hd
          · walk_at "rd"
            refine ways (fun c4 => ?_) (fun c4 => ?_)
            · walk_at "rd"
              exact mkd rfl (by simp) fun d hd => (o.2 _ _ (st.2 _ (if_neg (by omega)))).at hd
            · walk_at "rd"
              exact ⟨_, rfl, rfl, st.1 (if_pos (by omega))⟩
        · rintro σ H' ⟨v, rfl, rfl, hr⟩
          walk_at "rd"
          rw [List.length_map, List.take_length] at hr
          exact o.1 hr
end
-- OPT pat = ⟨p, s, rs, nss, sts, rfl, hp, hrs, hs, o⟩
def dealErr (nss : List (List Int)) (sts : List Int) : Option ErrV := (pilesErr nss).or (startsErr nss.length sts)
/-- a Deal comes back -/
def RetD (K : PySem.W.Frag) (H : Hp) (Q : VK) (nss : List (List Int)) (sts : List Int) : Prop := ∀ H' x, Same H H' → IsDeal K H' x nss sts → Q (.ref x) H'
theorem RetD.go {K : PySem.W.Frag} {H H1 : Hp} {Q : VK} {nss : List (List Int)} {sts : List Int} (r : RetD K H Q nss sts) (s : Same H H1) : RetD K H1 Q nss sts := fun H' x t d => r H' x (s.trans t) d
theorem pilesErr_len {nss : List (List Int)} (h : pilesErr nss = none) : nss.length ≤ 40 := by
  unfold pilesErr cntErr at h
  split at h
  · cases h
  · split at h
    · cases h
    · omega
def sp_make_deal (K : PySem.W.Frag) : Sp := fun vs H Q E => ∃ (p s : Addr) (rs : List Addr) (nss : List (List Int)) (sts : List Int), vs = [.ref p, .ref s] ∧ Sq K H p (rs.map V.ref) ∧ RowsAt K H rs nss ∧ Sq K H s (sts.map V.int) ∧ Out K E H (dealErr nss sts) (RetD K H Q nss sts)
section
variable {K : PySem.W.Frag} {mg : Str → Option Value} {P : Program} {w : World} {base : Heap}
theorem ok_make_deal (T : Tx K mg) : Okd P w K mg base 6 "make_deal" ["piles", "starts"] (sp_make_deal K) := by
  have c_check_piles := ok_check_piles (P := P) (w := w) (base := base) T
  have c_check_starts := ok_check_starts (P := P) (w := w) (base := base) T
  obtain ⟨fd_Deal, G_Deal, b_Deal⟩ := ok_Deal___init__ (P := P) (w := w) (base := base) T
  refine Okd.mkd T.g_make_deal T.f_make_deal (by simp [He.DefD.dvs, d_make_deal]) (fun _ _ _ _ _ _ _ us its hl hz => match us, hl, its, hz with | [_, _], _, [_], _ => ⟨_, rfl, rfl⟩) sc_make_deal (fun vs H Q E h => ?_) (fun cdv A outer s H vs Q E hr h => ?_)
  · obtain ⟨p, s, rs, nss, sts, rfl, hp, hrs, hs, o⟩ := h
    rfl
  · obtain ⟨p, s, rs, nss, sts, rfl, hp, hrs, hs, o⟩ := h
    refine ⟨_, (pss_cons (ps_expr (pe_def c_check_piles (hr.mono (by decide)) (takes_of rfl rfl rfl rfl) rfl (pa_cons (pv 0) pa_nil)))
      (pss_cons (ps_expr (pe_def c_check_starts (hr.mono (by decide)) (takes_of rfl rfl rfl rfl) rfl (pa_cons (pe_callB (k_ln K) (by rfl) T.m_len bt_len (pa_cons (pv 0) pa_nil)) (pa_cons (pv 1) pa_nil))))
      (pss_one (ps_ret (pe_make T.mk_Deal G_Deal (hr.mono (by decide)) rfl T.g_Deal b_Deal .nil passL (pa_cons (pv 0) (pa_cons (pv 1) pa_nil))))))), ?_⟩
    refine start' (σ' := [some _, some _]) rfl ?_
    walk_at "rd"
    refine ⟨p, rs, nss, rfl, hp, hrs, fun q1 H1 s1 => ?_, fun x fs q => o.2 x fs (by unfold dealErr; rw [q]; rfl)⟩
    have hl := pilesErr_len q1
    have eo : dealErr nss sts = startsErr nss.length sts := by
      unfold dealErr
      rw [q1]
      rfl
    rw [eo] at o
    have hp1 := goSq s1 hp
    walk_at "rd"
    rw [List.length_map, hrs.1]
    refine ⟨_, s, sts, rfl, goSq s1 hs, fun q2 => ?_, fun x fs q => (o.2 x fs q).go s1⟩
    walk_at "rd"
    intro x dx hx hdx ne
    have sx : Same H1 (upd (upd H1 dx (.own x)) x (.ins (He.ga K "Deal") dx [])) := (Rd.Same.new hdx).trans (Rd.Same.new (by rw [upd_ne (Ne.symm ne)]; exact hx))
    refine ⟨x, dx, p, rs, nss, s, sts, rfl, upd_same, goSq sx hp1, (hrs.go s1).go sx, goSq sx (goSq s1 hs), by have := hrs.1; omega, fun H' b hd => ⟨rfl, ?_⟩⟩
    refine o.1 q2 H' x ?_ hd
    intro a u h
    have h1 := s1 a u h
    have na : a ≠ x := ne_of_none h1 hx
    exact b a u na (sx a u h1)
end
end K59

set_option Elab.async false
set_option linter.all false
set_option maxRecDepth 100000
set_option maxHeartbeats 4000000
namespace K59
open PySem PySem.Spec PyProof.Rows L2 Rd
-- OPT pat = ⟨p, xs, rfl, hp, o⟩
def sp_turned (K : PySem.W.Frag) : Sp := fun vs H Q E => ∃ (p : Addr) (xs : List V), vs = [.ref p] ∧ Sq K H p xs ∧ Out K E H (someErr xs) (RetT K H Q xs.reverse)
section
variable {K : PySem.W.Frag} {mg : Str → Option Value} {P : Program} {w : World} {base : Heap}
theorem ok_turned (T : Tx K mg) : Okd P w K mg base 4 "turned" ["trail"] (sp_turned K) := by
  have c_check_some := ok_check_some (P := P) (w := w) (base := base) T
  refine Okd.mk' T.g_turned T.f_turned (fun _ _ _ _ _ _ us hl => match us, hl with | [_], _ => rfl) sc_turned (fun vs H Q E h => ?_) (fun cdv A outer s H vs Q E hr h => ?_)
  · obtain ⟨p, xs, rfl, hp, o⟩ := h
    rfl
  · obtain ⟨p, xs, rfl, hp, o⟩ := h
    refine ⟨_, (pss_cons (ps_expr (pe_def c_check_some (hr.mono (by decide)) (takes_of rfl rfl rfl rfl) rfl (pa_cons (pv 0) pa_nil)))
      (pss_one (ps_ret (pe_callTy (k_tp K) (by rfl) T.m_tuple bt_tuple (pa_cons (pe_or2 (kp_revL K (pv 0)) (kp_revT K (pv 0))) pa_nil))))), ?_⟩
    refine start' (σ' := [some _]) rfl ?_
    walk_at "rd"
    refine ⟨p, xs, rfl, hp, fun q1 => ?_, o.2⟩
    walk_at "rd"
    refine rev (fun R h => ⟨_, rfl, h⟩) hp (fun z hz => ?_) (fun z hz => ?_)
    · walk_at "rd"
      refine tupOfL (sqL upd_same) fun l hl => ?_
      exact o.1 q1 _ l ((Rd.Same.new hz).trans (Rd.Same.new hl)) (sqT upd_same)
    · walk_at "rd"
      refine tupOfT (sqT upd_same) ?_
      exact o.1 q1 _ z (Rd.Same.new hz) (sqT upd_same)
end
-- OPT pat = ⟨n, p, ns, rfl, hp, hlen, o⟩
theorem trail_ok {n : Int} {ns : List Int} (h : trailErr n ns = none) : 1 ≤ n ∧ n ≤ 40 ∧ 0 < ns.length ∧ ∀ k, k < ns.length → 0 ≤ ns.getD k 0 ∧ ns.getD k 0 < n := by
  unfold trailErr at h
  cases h1 : cntErr n with
  | some e => rw [h1] at h; cases h
  | none =>
    rw [h1] at h
    have h : ((someErr ns).or (rowErr n ns)) = none := h
    cases h2 : someErr ns with
    | some e => rw [h2] at h; cases h
    | none =>
      rw [h2] at h
      have h : rowErr n ns = none := h
      have a : ¬ n < 1 ∧ ¬ 40 < n := by
        unfold cntErr at h1
        split at h1
        · cases h1
        · split at h1
          · cases h1
          · exact ⟨by assumption, by assumption⟩
      have b : ¬ ns.length = 0 := by
        unfold someErr at h2
        split at h2
        · cases h2
        · assumption
      refine ⟨by omega, by omega, by omega, fun k hk => ?_⟩
      have c := List.findSome?_eq_none_iff.mp h (ns.getD k 0) (by simp [List.getD, hk])
      unfold stErr at c
      split at c
      · assumption
      · cases c
/-- what follows v, in the first i steps -/
def outsAt (v : Nat) (ns : List Int) (i : Nat) : List Int := ((List.range i).filter fun k => decide (ns.getD k 0 = (v : Int))).map fun k => ns.getD (k + 1) 0
theorem outs_yes {v : Nat} {ns : List Int} {i : Nat} (h : ns.getD i 0 = (v : Int)) : outsAt v ns (i + 1) = outsAt v ns i ++ [ns.getD (i + 1) 0] := by
  unfold outsAt
  rw [List.range_succ, List.filter_append, List.map_append, List.filter_cons_of_pos (by simpa using h)]
  rfl
theorem outs_no {v : Nat} {ns : List Int} {i : Nat} (h : ¬ ns.getD i 0 = (v : Int)) : outsAt v ns (i + 1) = outsAt v ns i := by
  unfold outsAt
  rw [List.range_succ, List.filter_append, List.map_append, List.filter_cons_of_neg (by simpa using h)]
  simp
def lastsTo (n : Nat) (ns : List Int) (i : Nat) : List V := (List.range n).map fun v => optV (outsAt v ns i).getLast?
def lastsOf (n : Nat) (ns : List Int) : List V := lastsTo n ns (ns.length - 1)
theorem lastsTo_step {n j i : Nat} {ns : List Int} (hj : j < n) (h : ns.getD i 0 = (j : Int)) : (lastsTo n ns i).set j (.int (ns.getD (i + 1) 0)) = lastsTo n ns (i + 1) := by
  refine tab_set hj (by rw [outs_yes h]; simp [optV]) fun v hv nv => ?_
  rw [outs_no (by rw [h]; intro z; exact nv (Int.ofNat.inj z).symm)]
def sp_last_leavings (K : PySem.W.Frag) : Sp := fun vs H Q E => ∃ (n : Int) (p : Addr) (ns : List Int), vs = [.int n, .ref p] ∧ Sq K H p (ns.map V.int) ∧ ns.length ≤ 1000000 ∧ Out K E H (trailErr n ns) (RetT K H Q (lastsOf n.toNat ns))
section
variable {K : PySem.W.Frag} {mg : Str → Option Value} {P : Program} {w : World} {base : Heap}
theorem ok_last_leavings (T : Tx K mg) : Okd P w K mg base 5 "last_leavings" ["n", "trail"] (sp_last_leavings K) := by
  have c_check_trail := ok_check_trail (P := P) (w := w) (base := base) T
  refine Okd.mk' T.g_last_leavings T.f_last_leavings (fun _ _ _ _ _ _ us hl => match us, hl with | [_, _], _ => rfl) sc_last_leavings (fun vs H Q E h => ?_) (fun cdv A outer s H vs Q E hr h => ?_)
  · obtain ⟨n, p, ns, rfl, hp, hlen, o⟩ := h
    rfl
  · obtain ⟨n, p, ns, rfl, hp, hlen, o⟩ := h
    refine ⟨_, (pss_cons (ps_expr (pe_def c_check_trail (hr.mono (by decide)) (takes_of rfl rfl rfl rfl) rfl (pa_cons (pv 0) (pa_cons (pv 1) pa_nil))))
      (pss_cons (ps_setLc (i := 2) (own := [("v", 4)]) rfl sc_last_leavings.nd rfl rfl (sw_true rfl rfl rfl (by decide +kernel)) (pi_range1 (by rfl) T.m_range (pa_cons (pv 0) pa_nil)) (blkOk_by (own := [("v", 4)]) (N := ["n", "trail", "told", "at", "v"]) (sc := defScope s_last_leavings) (by decide +kernel)) (fun _ _ _ _ _ => (pg_name (i := 4) sc_last_leavings.nd rfl (Or.inl rfl))) (fun _ _ _ _ _ => pts_nil) (fun _ _ _ _ _ => pe_non))
      (pss_cons (ps_for (passes_of rfl) rfl (pi_range1 (by rfl) T.m_range (pa_cons (pe_op op_sub (pe_callB (k_ln K) (by rfl) T.m_len bt_len (pa_cons (pv 1) pa_nil)) pe_int) pa_nil)) (pg_name (i := 3) sc_last_leavings.nd rfl (Or.inl rfl)) (pss_one (ps_asg (pe_ix (k_ix K) (pv 1) (pe_op (k_plus K) (pv 3) pe_int) (fun _ _ => rfl)) (pg_sub (pv 2) (pe_ix (k_ix K) (pv 1) (pv 3) (fun _ _ => rfl)) set_list))))
      (pss_one (ps_ret (pe_callTy (k_tp K) (by rfl) T.m_tuple bt_tuple (pa_cons (pv 2) pa_nil))))))), ?_⟩
    refine start' (σ' := [some _, some _, none, none, none]) rfl ?_
    walk_at "rd"
    refine ⟨n, p, ns, rfl, hp, fun q1 => ?_, o.2⟩
    have o := o.1 q1
    obtain ⟨h1, h2, h3, hall⟩ := trail_ok q1
    obtain ⟨m, rfl⟩ : ∃ m : Nat, n = m := ⟨n.toNat, by omega⟩
    rw [Int.toNat_natCast] at o
    walk_at "rd"
    refine lcR1 (n := (m : Int)) (fun R h => ?_) (by omega) (fun v => .non) (fun _ => rfl) ?_ ?_
    · walk_at "rd"
      exact h
    · intro v H1 R hv s1 hR
      walk_at "rd"
      exact hR H1 (Same.refl H1)
    · intro H1 c s1 hcn hc
      rw [Int.toNat_natCast] at hc
      walk_at "rd"
      refine forR1 (n := (ns.length : Int) - 1) (fun R h => ?_) (by omega) (fun i σ H' => ∃ u v : Option V, σ = [some (.int m), some (.ref p), some (.ref c), u, v] ∧ Same H H' ∧ H' c = some (.lst (lastsTo m ns i))) ⟨none, none, rfl, s1, hc⟩ ?_ ?_
      · have := goSq s1 hp
        walk_at "rd"
        rw [List.length_map]
        exact h
      · rintro i σ H2 hi ⟨u, v, rfl, s2, e2⟩
        have hp2 := goSq s2 hp
        have hb := hall i (by omega)
        obtain ⟨j, hj⟩ : ∃ j : Nat, ns.getD i 0 = j := ⟨(ns.getD i 0).toNat, by omega⟩
        walk_at "rd"
        refine ixZ (j := i + 1) hp2 (by omega) (by omega) ?_
        walk_at "rd"
        refine ixI hp2 (by omega) ?_
        rw [hj]
        refine setL e2 (ixN_nat (by unfold lastsTo; rw [tab_len]; omega)) ?_
        refine ⟨_, _, rfl, Rd.Same.own s2 hcn, ?_⟩
        rw [upd_same, lastsTo_step (by omega) hj]
      · rintro σ H2 ⟨u, v, rfl, s2, e2⟩
        walk_at "rd"
        refine tupOfL (sqL e2) fun l hl => ?_
        refine o _ l (s2.trans (Rd.Same.new hl)) (sqT ?_)
        rw [upd_same]
        unfold lastsOf
        congr 3
        omega
end
-- OPT pat = ⟨n, p, ns, rfl, hp, hlen, o⟩
/-- what stands before the first v from place m on -/
def firstFrom (v : Nat) (ns : List Int) (m : Nat) : Option Int := ((List.range' m (ns.length - m)).find? fun k => decide (ns.getD k 0 = (v : Int))).map fun k => ns.getD (k - 1) 0
theorem first_step {v m : Nat} {ns : List Int} (h : m < ns.length) : firstFrom v ns m = if ns.getD m 0 = (v : Int) then some (ns.getD (m - 1) 0) else firstFrom v ns (m + 1) := by
  unfold firstFrom
  have e : ns.length - m = (ns.length - (m + 1)) + 1 := by omega
  rw [e, List.range'_succ, List.find?_cons]
  by_cases c : ns.getD m 0 = (v : Int)
  · rw [if_pos c, decide_eq_true c]
    rfl
  · rw [if_neg c, decide_eq_false c]
def firstsTo (n : Nat) (ns : List Int) (m : Nat) : List V := (List.range n).map fun v => optV (firstFrom v ns m)
def firstsOf (n : Nat) (ns : List Int) : List V := (List.range n).map fun (v : Nat) => if ns.getD 0 0 = (v : Int) then V.non else optV (firstFrom v ns 1)
theorem firstsTo_step {n j m : Nat} {ns : List Int} (hm : m < ns.length) (hj : j < n) (h : ns.getD m 0 = (j : Int)) : (firstsTo n ns (m + 1)).set j (.int (ns.getD (m - 1) 0)) = firstsTo n ns m := by
  refine tab_set hj (by rw [first_step hm, if_pos h]; rfl) fun v hv nv => ?_
  rw [first_step hm, if_neg (by rw [h]; intro z; exact nv (Int.ofNat.inj z).symm)]
theorem firstsOf_set {n j : Nat} {ns : List Int} (hj : j < n) (h : ns.getD 0 0 = (j : Int)) : (firstsTo n ns 1).set j .non = firstsOf n ns := by
  refine tab_set (g := fun (v : Nat) => if ns.getD 0 0 = (v : Int) then V.non else optV (firstFrom v ns 1)) hj (by rw [if_pos h]) fun v hv nv => ?_
  rw [if_neg (by rw [h]; intro z; exact nv (Int.ofNat.inj z).symm)]
theorem firstsTo_top (n : Nat) (ns : List Int) : firstsTo n ns ns.length = (List.range n).map fun _ => V.non := by
  refine tab_ext fun v hv => ?_
  unfold firstFrom
  rw [Nat.sub_self]
  rfl
def sp_first_comings (K : PySem.W.Frag) : Sp := fun vs H Q E => ∃ (n : Int) (p : Addr) (ns : List Int), vs = [.int n, .ref p] ∧ Sq K H p (ns.map V.int) ∧ ns.length ≤ 1000000 ∧ Out K E H (trailErr n ns) (RetT K H Q (firstsOf n.toNat ns))
section
variable {K : PySem.W.Frag} {mg : Str → Option Value} {P : Program} {w : World} {base : Heap}
theorem ok_first_comings (T : Tx K mg) : Okd P w K mg base 5 "first_comings" ["n", "trail"] (sp_first_comings K) := by
  have c_check_trail := ok_check_trail (P := P) (w := w) (base := base) T
  refine Okd.mk' T.g_first_comings T.f_first_comings (fun _ _ _ _ _ _ us hl => match us, hl with | [_, _], _ => rfl) sc_first_comings (fun vs H Q E h => ?_) (fun cdv A outer s H vs Q E hr h => ?_)
  · obtain ⟨n, p, ns, rfl, hp, hlen, o⟩ := h
    rfl
  · obtain ⟨n, p, ns, rfl, hp, hlen, o⟩ := h
    refine ⟨_, (pss_cons (ps_expr (pe_def c_check_trail (hr.mono (by decide)) (takes_of rfl rfl rfl rfl) rfl (pa_cons (pv 0) (pa_cons (pv 1) pa_nil))))
      (pss_cons (ps_setLc (i := 2) (own := [("v", 4)]) rfl sc_first_comings.nd rfl rfl (sw_true rfl rfl rfl (by decide +kernel)) (pi_range1 (by rfl) T.m_range (pa_cons (pv 0) pa_nil)) (blkOk_by (own := [("v", 4)]) (N := ["n", "trail", "told", "at", "v"]) (sc := defScope s_first_comings) (by decide +kernel)) (fun _ _ _ _ _ => (pg_name (i := 4) sc_first_comings.nd rfl (Or.inl rfl))) (fun _ _ _ _ _ => pts_nil) (fun _ _ _ _ _ => pe_non))
      (pss_cons (ps_for (passes_of rfl) rfl (pi_range3 (by rfl) T.m_range (pa_cons (pe_op op_sub (pe_callB (k_ln K) (by rfl) T.m_len bt_len (pa_cons (pv 1) pa_nil)) pe_int) (pa_cons pe_int (pa_cons (pe_un un_neg pe_int) pa_nil)))) (pg_name (i := 3) sc_first_comings.nd rfl (Or.inl rfl)) (pss_one (ps_asg (pe_ix (k_ix K) (pv 1) (pe_op op_sub (pv 3) pe_int) (fun _ _ => rfl)) (pg_sub (pv 2) (pe_ix (k_ix K) (pv 1) (pv 3) (fun _ _ => rfl)) set_list))))
      (pss_cons (ps_asg pe_non (pg_sub (pv 2) (pe_ix (k_ix K) (pv 1) pe_int (fun _ _ => rfl)) set_list))
      (pss_one (ps_ret (pe_callTy (k_tp K) (by rfl) T.m_tuple bt_tuple (pa_cons (pv 2) pa_nil)))))))), ?_⟩
    refine start' (σ' := [some _, some _, none, none, none]) rfl ?_
    walk_at "rd"
    refine ⟨n, p, ns, rfl, hp, fun q1 => ?_, o.2⟩
    have o := o.1 q1
    obtain ⟨h1, h2, h3, hall⟩ := trail_ok q1
    obtain ⟨m, rfl⟩ : ∃ m : Nat, n = m := ⟨n.toNat, by omega⟩
    rw [Int.toNat_natCast] at o
    walk_at "rd"
    refine lcR1 (n := (m : Int)) (fun R h => ?_) (by omega) (fun v => .non) (fun _ => rfl) ?_ ?_
    · walk_at "rd"
      exact h
    · intro v H1 R hv s1 hR
      walk_at "rd"
      exact hR H1 (Same.refl H1)
    · intro H1 c s1 hcn hc
      rw [Int.toNat_natCast] at hc
      walk_at "rd"
      refine forRd (a := (ns.length : Int) - 1) (b := 0) (fun R h => ?_) (by omega) (fun i σ H' => ∃ u v : Option V, σ = [some (.int m), some (.ref p), some (.ref c), u, v] ∧ Same H H' ∧ i < ns.length ∧ H' c = some (.lst (firstsTo m ns (ns.length - i)))) ⟨none, none, rfl, s1, h3, by rw [Nat.sub_zero, firstsTo_top]; exact hc⟩ ?_ ?_
      · have := goSq s1 hp
        walk_at "rd"
        rw [List.length_map]
        exact h
      · rintro i σ H2 hi ⟨u, v, rfl, s2, hi2, e2⟩
        have hp2 := goSq s2 hp
        have hb := hall (ns.length - 1 - i) (by omega)
        obtain ⟨j, hj⟩ : ∃ j : Nat, ns.getD (ns.length - 1 - i) 0 = j := ⟨(ns.getD (ns.length - 1 - i) 0).toNat, by omega⟩
        walk_at "rd"
        refine ixZ (j := ns.length - 1 - i - 1) hp2 (by omega) (by omega) ?_
        walk_at "rd"
        refine ixZ (j := ns.length - 1 - i) hp2 (by omega) (by omega) ?_
        rw [hj]
        refine setL e2 (ixN_nat (by unfold firstsTo; rw [tab_len]; omega)) ?_
        refine ⟨_, _, rfl, Rd.Same.own s2 hcn, by omega, ?_⟩
        have ea : ns.length - i = (ns.length - 1 - i) + 1 := by omega
        have eb : ns.length - (i + 1) = ns.length - 1 - i := by omega
        rw [upd_same, ea, eb, firstsTo_step (by omega) (by omega) hj]
      · rintro σ H2 ⟨u, v, rfl, s2, hi2, e2⟩
        have hp2 := goSq s2 hp
        have hb := hall 0 (by omega)
        obtain ⟨j, hj⟩ : ∃ j : Nat, ns.getD 0 0 = j := ⟨(ns.getD 0 0).toNat, by omega⟩
        have e1 : ns.length - ((ns.length : Int) - 1 - 0).toNat = 1 := by omega
        rw [e1] at e2
        walk_at "rd"
        refine ixZ (j := 0) hp2 (by omega) (by omega) ?_
        rw [hj]
        refine setL e2 (ixN_nat (by unfold firstsTo; rw [tab_len]; omega)) ?_
        walk_at "rd"
        refine tupOfL (sqL upd_same) fun l hl => ?_
        refine o _ l ((Rd.Same.own s2 hcn).trans (Rd.Same.new hl)) (sqT ?_)
        rw [upd_same, firstsOf_set (by omega) hj]
end
end K59

set_option Elab.async false
set_option linter.all false
set_option maxRecDepth 100000
set_option maxHeartbeats 4000000
namespace K59
open PySem PySem.Spec PyProof.Rows L2 Rd
-- OPT pat = ⟨n, p, ns, rfl, hp, hlen, o⟩
/-- the piles of a trail -/
def trailPiles (n : Nat) (ns : List Int) : List (List Int) := (List.range n).map fun v => outsAt v ns (ns.length - 1)
def Piles (K : PySem.W.Frag) (H0 H : Hp) (c : Addr) (rs : List Addr) (n : Nat) (ns : List Int) (i : Nat) : Prop :=
  Same H0 H ∧ H c = some (.lst (rs.map V.ref)) ∧ ∀ (v : Nat) (r : Addr), rs[v]? = some r → H r = some (.lst ((outsAt v ns i).map V.int))
theorem Piles.step {K : PySem.W.Frag} {H0 H : Hp} {c r : Addr} {rs : List Addr} {n i j : Nat} {ns : List Int} (p : Piles K H0 H c rs n ns i) (fresh : ∀ r, r ∈ rs → H0 r = none) (nd : rs.Nodup) (nm : ¬ c ∈ rs) (hj : rs[j]? = some r) (h : ns.getD i 0 = (j : Int)) :
    Piles K H0 (upd H r (.lst ((outsAt j ns i).map V.int ++ [.int (ns.getD (i + 1) 0)]))) c rs n ns (i + 1) := by
  have hm := List.mem_of_getElem? hj
  refine ⟨Rd.Same.own p.1 (fresh r hm), ?_, fun v r' hv => ?_⟩
  · rw [upd_ne (fun z => nm (by rw [z]; exact hm))]
    exact p.2.1
  · by_cases e : v = j
    · subst e
      obtain rfl := Option.some.inj (hj.symm.trans hv)
      rw [upd_same, outs_yes h, List.map_append]
      rfl
    · have ne : r' ≠ r := fun z => e (by
        subst z
        obtain ⟨a1, a2⟩ := List.getElem?_eq_some_iff.mp hv
        obtain ⟨b1, b2⟩ := List.getElem?_eq_some_iff.mp hj
        have pw := List.pairwise_iff_getElem.mp nd
        rcases Nat.lt_trichotomy v j with l | l | l
        · exact absurd (a2.trans b2.symm) (pw v j a1 b1 l)
        · exact l
        · exact absurd (b2.trans a2.symm) (pw j v b1 a1 l))
      rw [upd_ne ne, outs_no (by rw [h]; intro z; exact e (Int.ofNat.inj z).symm)]
      exact p.2.2 v r' hv
def trailDealErr (n : Int) (ns : List Int) : Option ErrV := (trailErr n ns).or (dealErr (trailPiles n.toNat ns) [ns.getD 0 0])
def sp_deal_of (K : PySem.W.Frag) : Sp := fun vs H Q E => ∃ (n : Int) (p : Addr) (ns : List Int), vs = [.int n, .ref p] ∧ Sq K H p (ns.map V.int) ∧ ns.length ≤ 1000000 ∧ Out K E H (trailDealErr n ns) (RetD K H Q (trailPiles n.toNat ns) [ns.getD 0 0])
section
variable {K : PySem.W.Frag} {mg : Str → Option Value} {P : Program} {w : World} {base : Heap}
theorem ok_deal_of (T : Tx K mg) : Okd P w K mg base 7 "deal_of" ["n", "trail"] (sp_deal_of K) := by
  have c_check_trail := ok_check_trail (P := P) (w := w) (base := base) T
  have c_make_deal := ok_make_deal (P := P) (w := w) (base := base) T
  refine Okd.mk' T.g_deal_of T.f_deal_of (fun _ _ _ _ _ _ us hl => match us, hl with | [_, _], _ => rfl) sc_deal_of (fun vs H Q E h => ?_) (fun cdv A outer s H vs Q E hr h => ?_)
  · obtain ⟨n, p, ns, rfl, hp, hlen, o⟩ := h
    rfl
  · obtain ⟨n, p, ns, rfl, hp, hlen, o⟩ := h
    refine ⟨_, (pss_cons (ps_expr (pe_def c_check_trail (hr.mono (by decide)) (takes_of rfl rfl rfl rfl) rfl (pa_cons (pv 0) (pa_cons (pv 1) pa_nil))))
      (pss_cons (ps_setLc (i := 2) (own := [("v", 4)]) rfl sc_deal_of.nd rfl rfl (sw_true rfl rfl rfl (by decide +kernel)) (pi_range1 (by rfl) T.m_range (pa_cons (pv 0) pa_nil)) (blkOk_by (own := [("v", 4)]) (N := ["n", "trail", "piles", "at", "v"]) (sc := defScope s_deal_of) (by decide +kernel)) (fun _ _ _ _ _ => (pg_name (i := 4) sc_deal_of.nd rfl (Or.inl rfl))) (fun _ _ _ _ _ => pts_nil) (fun _ _ _ _ _ => (pe_lst pa_nil)))
      (pss_cons (ps_for (passes_of rfl) rfl (pi_range1 (by rfl) T.m_range (pa_cons (pe_op op_sub (pe_callB (k_ln K) (by rfl) T.m_len bt_len (pa_cons (pv 1) pa_nil)) pe_int) pa_nil)) (pg_name (i := 3) sc_deal_of.nd rfl (Or.inl rfl)) (pss_one (ps_expr (kp_bm K PySem.F.plainAttrs_list PySem.F.slot_list_append PySem.F.type_list_append mt_append (pe_ix (k_ix K) (pv 2) (pe_ix (k_ix K) (pv 1) (pv 3) (fun _ _ => rfl)) (fun _ _ => rfl)) (pa_cons (pe_ix (k_ix K) (pv 1) (pe_op (k_plus K) (pv 3) pe_int) (fun _ _ => rfl)) pa_nil)))))
      (pss_one (ps_ret (pe_def c_make_deal (hr.mono (by decide)) (takes_of rfl rfl rfl rfl) rfl (pa_cons (pv 2) (pa_cons (pe_tup (pa_cons (pe_ix (k_ix K) (pv 1) pe_int (fun _ _ => rfl)) pa_nil)) pa_nil)))))))), ?_⟩
    refine start' (σ' := [some _, some _, none, none, none]) rfl ?_
    walk_at "rd"
    refine ⟨n, p, ns, rfl, hp, fun q1 => ?_, fun x fs q => o.2 x fs (by unfold trailDealErr; rw [q]; rfl)⟩
    have eo : trailDealErr n ns = dealErr (trailPiles n.toNat ns) [ns.getD 0 0] := by
      unfold trailDealErr
      rw [q1]
      rfl
    rw [eo] at o
    obtain ⟨h1, h2, h3, hall⟩ := trail_ok q1
    obtain ⟨m, rfl⟩ : ∃ m : Nat, n = m := ⟨n.toNat, by omega⟩
    rw [Int.toNat_natCast] at o
    walk_at "rd"
    refine lcNew (n := (m : Int)) (fun R h => ?_) (by omega) (fun _ => rfl) ?_
    · walk_at "rd"
      exact h
    · intro rs H1 c s1 hcn hc hrl nd nm hrs
      rw [Int.toNat_natCast] at hrl
      walk_at "rd"
      refine forR1 (n := (ns.length : Int) - 1) (fun R h => ?_) (by omega) (fun i σ H' => ∃ u v : Option V, σ = [some (.int m), some (.ref p), some (.ref c), u, v] ∧ Piles K H H' c rs m ns i) ⟨none, none, rfl, s1, hc, fun v r hv => (hrs r (List.mem_of_getElem? hv)).2⟩ ?_ ?_
      · have := goSq s1 hp
        walk_at "rd"
        rw [List.length_map]
        exact h
      · rintro i σ H2 hi ⟨u, v, rfl, pl⟩
        have hp2 := goSq pl.1 hp
        have hb := hall i (by omega)
        obtain ⟨j, hj⟩ : ∃ j : Nat, ns.getD i 0 = j := ⟨(ns.getD i 0).toNat, by omega⟩
        have hjr : rs[j]? = some rs[j] := List.getElem?_eq_getElem (by omega)
        have hr := pl.2.2 j _ hjr
        have hcl := pl.2.1
        walk_at "rd"
        refine ixI hp2 (by omega) ?_
        rw [hj]
        refine ixL (sqL hcl) (atN (by rw [List.getElem?_map, hjr]; rfl)) ?_
        walk_at "rd"
        refine ixZ (j := i + 1) hp2 (by omega) (by omega) ?_
        walk_at "rd"
        refine app hr ?_ ?_
        · refine sm_le ?_
          have : (outsAt j ns i).length ≤ i := by
            unfold outsAt
            rw [List.length_map]
            exact Nat.le_trans (List.length_filter_le _ _) (by simp)
          rw [List.length_map]
          omega
        · walk_at "rd"
          exact ⟨_, _, rfl, pl.step (fun r h => (hrs r h).1) nd nm hjr hj⟩
      · rintro σ H2 ⟨u, v, rfl, pl⟩
        have hp2 := goSq pl.1 hp
        have hcl := pl.2.1
        walk_at "rd"
        refine ixZ (j := 0) hp2 (by omega) (by omega) ?_
        walk_at "rd"
        refine ⟨le_line (by simp), fun t ht => ?_⟩
        walk_at "rd"
        have s3 : Same H2 (upd H2 t (.tup [.int (ns.getD 0 0)])) := Rd.Same.new ht
        have ei : ((ns.length : Int) - 1).toNat = ns.length - 1 := by omega
        refine ⟨c, t, rs, trailPiles m ns, [ns.getD 0 0], rfl, goSq s3 (.inl (sqL hcl)), ⟨by unfold trailPiles; rw [tab_len, hrl], fun v r ms a b => ?_⟩, .inr (sqT upd_same), ?_⟩
        · have hv : v < m := by
            have := (List.getElem?_eq_some_iff.mp a).1
            omega
          unfold trailPiles at b
          rw [tab_at hv] at b
          obtain rfl := Option.some.inj b
          have := pl.2.2 v r a
          rw [ei] at this
          exact goSq s3 (.inl (sqL this))
        · exact ⟨fun q => (o.1 q).go (pl.1.trans s3), fun x fs q => (o.2 x fs q).go (pl.1.trans s3)⟩
end
end K59

set_option Elab.async false
set_option linter.all false
set_option maxRecDepth 100000
set_option maxHeartbeats 4000000
namespace K59
open PySem PySem.Spec PyProof.Rows L2 Rd
-- OPT pat = ⟨a, b, c, rfl, ha, hb, hc, k⟩
def sp__law_mix (K : PySem.W.Frag) : Sp := fun vs H Q E => ∃ a b c : Int, vs = [.int a, .int b, .int c] ∧ Wd a ∧ Wd b ∧ Wd c ∧ ∀ v : Int, 0 ≤ v → v < 288230376151711744 → Q (.int v) H
section
variable {K : PySem.W.Frag} {mg : Str → Option Value} {P : Program} {w : World} {base : Heap}
theorem ok__law_mix (T : Tx K mg) : Okd P w K mg base 1 "_law_mix" ["base", "turn", "place"] (sp__law_mix K) := by
  refine Okd.mk' T.g__law_mix T.f__law_mix (fun _ _ _ _ _ _ us hl => match us, hl with | [_, _, _], _ => rfl) sc__law_mix (fun vs H Q E h => ?_) (fun cdv A outer s H vs Q E hr h => ?_)
  · obtain ⟨a, b, c, rfl, ha, hb, hc, k⟩ := h
    rfl
  · obtain ⟨a, b, c, rfl, ha, hb, hc, k⟩ := h
    refine ⟨_, (pss_cons (ps_set (i := 3) sc__law_mix.nd rfl (Or.inl rfl) pe_int)
      (pss_cons (ps_set (i := 4) sc__law_mix.nd rfl (Or.inl rfl) (pe_op (k_plus K) (pe_op (k_plus K) (pe_op (k_plus K) (pe_op op_times (pv 0) pe_int) (pe_op op_times (pv 1) pe_int)) (pe_op op_times (pv 2) pe_int)) pe_int))
      (pss_cons (ps_set (i := 4) sc__law_mix.nd rfl (Or.inl rfl) (pe_op op_mod (pe_callTy call_in (by rfl) T.m_int bt_int (pa_cons (pv 4) pa_nil)) (pv 3)))
      (pss_cons (ps_set (i := 5) sc__law_mix.nd rfl (Or.inl rfl) (pe_op op_mod (pe_callTy call_in (by rfl) T.m_int bt_int (pa_cons (pe_op (k_plus K) (pe_op (k_plus K) (pe_op op_times (pe_op op_fdivW (pv 4) pe_int) pe_int) (pe_op op_times (pv 4) pe_int)) (pv 1)) pa_nil)) (pv 3)))
      (pss_cons (ps_set (i := 6) sc__law_mix.nd rfl (Or.inl rfl) (pe_op op_mod (pe_callTy call_in (by rfl) T.m_int bt_int (pa_cons (pe_op (k_plus K) (pe_op (k_plus K) (pe_op op_times (pv 5) (pv 5)) (pe_op op_times (pe_op op_fdivW (pv 4) pe_int) pe_int)) (pv 2)) pa_nil)) (pv 3)))
      (pss_one (ps_ret (pe_op op_fdivW (pv 6) pe_int)))))))), ?_⟩
    refine start' (σ' := [some _, some _, some _, none, none, none, none]) rfl ?_
    walk_at "ra"
    exact k _ (mix_end _).1 (mix_end _).2
end
end K59

set_option Elab.async false
set_option linter.all false
set_option maxRecDepth 100000
set_option maxHeartbeats 4000000
namespace K59
open PySem PySem.Spec PyProof.Rows L2 Rd
-- OPT pat = ⟨H0, a, m, U, rfl, st, hm, hU, k⟩
/-- a draw comes back, the store has moved on -/
def RetS (H0 H : Hp) (a : Addr) (U : Nat) (P : Int → Prop) (Q : VK) : Prop := ∀ v H', But a H H' → Sto H0 H' a U → P v → Q (.int v) H'
def sp__law_take (K : PySem.W.Frag) : Sp := fun vs H Q E => ∃ (H0 : Hp) (a : Addr) (m : Int) (U : Nat), vs = [.ref a, .int m] ∧ Sto H0 H a U ∧ m < 2 ^ 200 ∧ U ≤ 1000000000000 ∧ RetS H0 H a (U + 1) (fun v => 0 ≤ v ∧ (v < m ∨ v = 0)) Q
theorem wd_step {v x : Int} {i : Nat} (h0 : 0 ≤ v) (h : v < 2 ^ (61 * i)) (x0 : 0 ≤ x) (hx : x < 288230376151711744) : 0 ≤ v * 288230376151711744 + x ∧ v * 288230376151711744 + x < 2 ^ (61 * (i + 1)) := by
  have e : (2 : Int) ^ (61 * (i + 1)) = 2 ^ (61 * i) * 2305843009213693952 := by rw [Nat.mul_add, Int.pow_add]; rfl
  have p : (1 : Int) ≤ 2 ^ (61 * i) := Int.pow_pos (by decide)
  rw [e]
  omega
theorem sp_step {s : Int} {i : Nat} (h0 : 0 ≤ s) (h : s ≤ 2 ^ (61 * i)) : 0 ≤ s * 288230376151711744 ∧ s * 288230376151711744 ≤ 2 ^ (61 * (i + 1)) := by
  have e : (2 : Int) ^ (61 * (i + 1)) = 2 ^ (61 * i) * 2305843009213693952 := by rw [Nat.mul_add, Int.pow_add]; rfl
  rw [e]
  omega
theorem lg_pow {v : Int} {i : Nat} (h0 : 0 ≤ v) (h : v ≤ 2 ^ (61 * i)) (hi : i ≤ 40) : Lg v := by
  refine lg_of (k := 61 * i + 1) h0 (Int.lt_of_le_of_lt h ?_) (by omega)
  have e : (2 : Int) ^ (61 * i + 1) = 2 ^ (61 * i) * 2 := by rw [Int.pow_add]; rfl
  have p : (1 : Int) ≤ 2 ^ (61 * i) := Int.pow_pos (by decide)
  rw [e]
  omega
theorem wd_div {g m : Int} (h : Wd g) (hm : 2 ≤ m) : Wd (g / m) := ⟨Int.ediv_nonneg h.1 (by omega), Int.lt_of_le_of_lt (Int.ediv_le_self _ h.1) h.2⟩
section
variable {K : PySem.W.Frag} {mg : Str → Option Value} {P : Program} {w : World} {base : Heap}
theorem ok__law_take (T : Tx K mg) : Okd P w K mg base 2 "_law_take" ["store", "many"] (sp__law_take K) := by
  have c__law_mix := ok__law_mix (P := P) (w := w) (base := base) T
  refine Okd.mk' T.g__law_take T.f__law_take (fun _ _ _ _ _ _ us hl => match us, hl with | [_, _], _ => rfl) sc__law_take (fun vs H Q E h => ?_) (fun cdv A outer s H vs Q E hr h => ?_)
  · obtain ⟨H0, a, m, U, rfl, st, hm, hU, k⟩ := h
    rfl
  · obtain ⟨H0, a, m, U, rfl, st, hm, hU, k⟩ := h
    refine ⟨_, (pss_cons (ps_if (pt_cmpR op_lt (pv 1) pe_int (nomark _)) (pss_one (ps_ret pe_int)) pss_nil)
      (pss_cons (ps_asg (pe_op (k_plus K) (pe_ix (k_ix K) (pv 0) pe_int (fun _ _ => rfl)) pe_int) (pg_sub (pv 0) pe_int set_list))
      (pss_cons (ps_if (PW.pt (pw_and (pt_cmpR op_lt (pe_ix (k_ix K) (pv 0) pe_int (fun _ _ => rfl)) pe_int (nomark _)) (pw_and (pt_cmpR op_lt (pe_ix (k_ix K) (pv 0) pe_int (fun _ _ => rfl)) pe_int (nomark _)) (pw_and1 (pt_cmpR op_lt (pe_ix (k_ix K) (pv 0) pe_int (fun _ _ => rfl)) (pe_callB (k_ln K) (by rfl) T.m_len bt_len (pa_cons (pe_ix (k_ix K) (pv 0) pe_int (fun _ _ => rfl)) pa_nil)) (nomark _)))))) (pss_cons (ps_set (i := 2) sc__law_take.nd rfl (Or.inl rfl) (pe_ix (k_ix K) (pe_ix (k_ix K) (pv 0) pe_int (fun _ _ => rfl)) (pe_ix (k_ix K) (pv 0) pe_int (fun _ _ => rfl)) (fun _ _ => rfl)))
      (pss_cons (ps_asg (pe_op (k_plus K) (pe_ix (k_ix K) (pv 0) pe_int (fun _ _ => rfl)) pe_int) (pg_sub (pv 0) pe_int set_list))
      (pss_one (ps_if (pt_cmpR (k_same K (hr_units hr)) (pe_ix (k_ix K) (pv 2) pe_int (fun _ _ => rfl)) pe_int (nomark _)) (pss_one (ps_asg (pe_ix (k_ix K) (pv 2) pe_int (fun _ _ => rfl)) (pg_sub (pv 0) pe_int set_list))) (pss_one (ps_asg pe_int (pg_sub (pv 0) pe_int set_list))))))) pss_nil)
      (pss_cons (ps_if (pt_cmpR op_gt (pe_ix (k_ix K) (pv 0) pe_int (fun _ _ => rfl)) pe_int (nomark _)) (pss_cons (ps_set (i := 3) sc__law_take.nd rfl (Or.inl rfl) (pe_op op_mod (pe_callTy call_in (by rfl) T.m_int bt_int (pa_cons (pe_ix (k_ix K) (pv 0) pe_int (fun _ _ => rfl)) pa_nil)) (pv 1)))
      (pss_cons (ps_asg (pe_op op_fdivW (pe_callTy call_in (by rfl) T.m_int bt_int (pa_cons (pe_ix (k_ix K) (pv 0) pe_int (fun _ _ => rfl)) pa_nil)) (pv 1)) (pg_sub (pv 0) pe_int set_list))
      (pss_one (ps_ret (pv 3))))) pss_nil)
      (pss_cons (ps_set (i := 4) sc__law_take.nd rfl (Or.inl rfl) (pe_ix (k_ix K) (pv 0) pe_int (fun _ _ => rfl)))
      (pss_cons (ps_if (pt_cmpR op_gt (pe_ix (k_ix K) (pv 0) pe_int (fun _ _ => rfl)) pe_int (nomark _)) (pss_cons (ps_asg (pe_op op_sub (pe_ix (k_ix K) (pv 0) pe_int (fun _ _ => rfl)) pe_int) (pg_sub (pv 0) pe_int set_list))
      (pss_one (ps_set (i := 4) sc__law_take.nd rfl (Or.inl rfl) (pe_ix (k_ix K) (pe_ix (k_ix K) (pe_ix (k_ix K) (pv 0) pe_int (fun _ _ => rfl)) (pe_op op_sub (pe_ix (k_ix K) (pv 0) pe_int (fun _ _ => rfl)) pe_int) (fun _ _ => rfl)) pe_int (fun _ _ => rfl))))) pss_nil)
      (pss_cons (ps_set (i := 3) sc__law_take.nd rfl (Or.inl rfl) pe_int)
      (pss_cons (ps_set (i := 5) sc__law_take.nd rfl (Or.inl rfl) pe_int)
      (pss_cons (ps_for (passes_of rfl) rfl (pi_range1 (by rfl) T.m_range (pa_cons pe_int pa_nil)) (pg_name (i := 6) sc__law_take.nd rfl (Or.inl rfl)) (pss_one (ps_if (pt_cmpR op_lt (pv 5) (pe_op op_times (pv 1) pe_int) (nomark _)) (pss_cons (ps_set (i := 3) sc__law_take.nd rfl (Or.inl rfl) (pe_op (k_plus K) (pe_op op_times (pv 3) pe_int) (pe_def c__law_mix (hr.mono (by decide)) (takes_of rfl rfl rfl rfl) rfl (pa_cons (pv 4) (pa_cons (pe_ix (k_ix K) (pv 0) pe_int (fun _ _ => rfl)) (pa_cons (pe_op (k_plus K) (pe_op op_times pe_int (pe_ix (k_ix K) (pv 0) pe_int (fun _ _ => rfl))) (pv 6)) pa_nil))))))
      (pss_one (ps_set (i := 5) sc__law_take.nd rfl (Or.inl rfl) (pe_op op_times (pv 5) pe_int)))) pss_nil)))
      (pss_one (ps_ret (pe_op op_mod (pe_callTy call_in (by rfl) T.m_int bt_int (pa_cons (pv 3) pa_nil)) (pv 1))))))))))))), ?_⟩
    refine start' (σ' := [some _, some _, none, none, none, none, none]) rfl ?_
    obtain ⟨C, rs, p, g, f, t, s, hc, naC, nrs, s6, ⟨ht0, ht⟩, hs⟩ := st
    have hH := s6.2.1
    have hmod : ∀ x : Int, 2 ≤ m → 0 ≤ x % m ∧ (x % m < m ∨ x % m = 0) := fun x hm2 => ⟨(mod_b (by omega)).1, .inl (mod_b (by omega)).2⟩
    have hmlg : 2 ≤ m → m.natAbs.log2 < 9000 := fun hm2 => by
      have e : ((m.natAbs : Nat) : Int) = m := by omega
      have h2 : ((m.natAbs : Nat) : Int) < ((2 ^ 200 : Nat) : Int) := by rw [e, Int.natCast_pow]; exact hm
      exact Nat.lt_of_le_of_lt (log2_le (Int.ofNat_lt.mp h2)) (by omega)
    have fin : ∀ (H1 : Hp) (p g f : Int) (v : Int), But a H H1 → S6 H0 H1 a C rs p g f (t + 1) s → 0 ≤ v ∧ (v < m ∨ v = 0) → Q (.int v) H1 := fun H1 p g f v b s6 hv => k v H1 b ⟨C, rs, p, g, f, t + 1, s, hc, naC, nrs, s6, ⟨by omega, by omega⟩, hs⟩ hv
    walk_at "ra"
    with_reducible refine Rd.seq ?_
    walk_at "ra"
    refine ways (fun c => ?_) (fun c => ?_)
    · walk_at "ra"
      exact k 0 H (But.refl a H) (Sto.more ⟨C, rs, p, g, f, t, s, hc, naC, nrs, s6, ⟨ht0, ht⟩, hs⟩ (by omega)) ⟨by omega, .inr rfl⟩
    · have hm2 : 2 ≤ m := by omega
      walk_at "ra"
      with_reducible refine seqK ?P ?_ ?_
      case P => exact fun σ' H' => ∃ (cc : Option V) (p g f : Int), σ' = [some (.ref a), some (.int m), cc, none, none, none, none] ∧ But a H H' ∧ S6 H0 H' a C rs p g f (t + 1) s
      · rintro σ H1 ⟨cc, p, g, f, rfl, b1, s61⟩
        have e1 := s61.2.1
        with_reducible refine Rd.seq ?_
        walk_at "ra"
        refine ways (fun c1 => ?_) (fun c1 => ?_)
        · walk_at "ra"
          refine fdv (by omega) (hmlg hm2) ?_
          walk_at "ra"
          refine fin _ p (g / m) f _ b1.own' ⟨s61.1.own', upd_same, s61.2.2.1, wd_div s61.2.2.2.1 hm2, s61.2.2.2.2⟩ (hmod g hm2)
        · walk_at "ra"
          with_reducible refine seqK ?P ?_ ?_
          case P => exact fun σ' H' => ∃ (cc : Option V) (p g f b : Int), σ' = [some (.ref a), some (.int m), cc, none, some (.int b), none, none] ∧ But a H H' ∧ S6 H0 H' a C rs p g f (t + 1) s ∧ Wd b
          · rintro σ H2 ⟨cc, p, g, f, b, rfl, b2, s62, hb⟩
            have e2 := s62.2.1
            have hp62 := s62.2.2.1
            have hl := hc.2.1
            walk_at "ra"
            with_reducible refine Rd.seq ?_
            refine forR1 (n := 40) (fun R h => ?_) (by omega) (fun i σ H' => ∃ (v sp : Int) (z : Option V), σ = [some (.ref a), some (.int m), cc, some (.int v), some (.int b), some (.int sp), z] ∧ H' = H2 ∧ 0 ≤ v ∧ v < 2 ^ (61 * i) ∧ 0 ≤ sp ∧ sp ≤ 2 ^ (61 * i)) ⟨0, 1, none, rfl, rfl, by decide, by decide, by decide, by decide⟩ ?_ ?_
            · walk_at "ra"
              exact h
            · rintro i σ H3 hi ⟨v, sp, z, rfl, rfl, hv0, hv, hs0, hs1⟩
              have lm : Lg m := by
                have := hmlg hm2
                unfold Lg
                omega
              have lv : Lg v := lg_pow hv0 (Int.le_of_lt hv) (by omega)
              have lsp : Lg sp := lg_pow hs0 hs1 (by omega)
              have lp := lg_small (a := p) (by omega) (by omega)
              walk_at "ra"
              refine ways (fun c2 => ?_) (fun c2 => ?_)
              · walk_at "ra"
                refine ⟨b, t + 1, 64 * p + i, rfl, hb, wd_small (by omega) (by omega), wd_small (by omega) (by omega), fun x hx0 hx1 => ?_⟩
                walk_at "ra"
                have w1 := wd_step hv0 hv hx0 hx1
                have w2 := sp_step hs0 hs1
                exact ⟨_, _, _, rfl, rfl, w1.1, w1.2, w2.1, w2.2⟩
              · walk_at "ra"
                have w1 := wd_step (x := 0) hv0 hv (by decide) (by decide)
                have w2 := sp_step hs0 hs1
                exact ⟨_, _, _, rfl, rfl, hv0, by omega, hs0, by omega⟩
            · rintro σ H3 ⟨v, sp, z, rfl, rfl, hv0, hv, hs0, hs1⟩
              walk_at "ra"
              exact fin H3 p g f _ b2 s62 (hmod v hm2)
          · intro N hN
            walk_at "ra"
            refine ways (fun c2 => ?_) (fun c2 => ?_)
            · walk_at "ra"
              have hpos : 1 ≤ p := s61.2.2.2.2.2 (by omega)
              have hple := s61.2.2.1.2
              have hbut := s61.1
              have hcell : H1 C = some (.lst (rs.map V.ref)) := hbut _ _ (Ne.symm naC) hc.1
              have hr : rs[(p - 1).toNat]? = some rs[(p - 1).toNat] := List.getElem?_eq_getElem (by omega)
              obtain ⟨fl, sz, hcl, hsz⟩ := hc.2.2 _ (List.mem_of_getElem? hr)
              have hcl1 := hbut _ _ (nrs _ (List.mem_of_getElem? hr)) hcl
              refine ixL (sqL (by rw [upd_ne (Ne.symm naC)]; exact hcell)) (atZ (j := (p - 1).toNat) (by omega) (by rw [List.getElem?_map, hr]; rfl)) ?_
              refine ixT (sqT (by rw [upd_ne (nrs _ (List.mem_of_getElem? hr))]; exact hcl1)) (v := .int sz) rfl ?_
              walk_at "ra"
              exact hN _ _ ⟨_, p, g, f - 1, sz, rfl, b1.own', ⟨hbut.own', upd_same, s61.2.2.1, s61.2.2.2.1, by omega, fun _ => hpos⟩, hsz⟩
            · walk_at "ra"
              exact hN _ _ ⟨_, p, g, f, s, rfl, b1, s61, hs⟩
      · intro N hN
        have b0 : But a H (upd H a (.lst [.ref C, .int p, .int g, .int f, .int (t + 1), .int s])) := But.upd
        have s60 : S6 H0 (upd H a (.lst [.ref C, .int p, .int g, .int f, .int (t + 1), .int s])) a C rs p g f (t + 1) s := ⟨s6.1.own', upd_same, s6.2.2⟩
        have hN0 := fun (cc : Option V) => hN _ _ ⟨cc, p, g, f, rfl, b0, s60⟩
        have hcell : upd H a (.lst [.ref C, .int p, .int g, .int f, .int (t + 1), .int s]) C = some (.lst (rs.map V.ref)) := s60.1 _ _ (Ne.symm naC) hc.1
        show tIfS _ _ _ _ _ (upd H a (.lst [.ref C, .int p, .int g, .int f, .int (t + 1), .int s]))
        generalize upd H a (.lst [.ref C, .int p, .int g, .int f, .int (t + 1), .int s]) = H1 at b0 s60 hN0 hcell ⊢
        have e1 := s60.2.1
        walk_at "ra"
        refine ways (fun c1 => ?_) (fun c1 => ?_)
        · walk_at "ra"
          refine ways (fun c2 => ?_) (fun c2 => ?_)
          · walk_at "ra"
            rw [List.length_map]
            refine ways (fun c3 => ?_) (fun c3 => ?_)
            · have hp := s60.2.2.1
              have hr : rs[p.toNat]? = some rs[p.toNat] := List.getElem?_eq_getElem (by omega)
              obtain ⟨fl, sz, hcl, hsz⟩ := hc.2.2 _ (List.mem_of_getElem? hr)
              have hcl1 := s60.1 _ _ (nrs _ (List.mem_of_getElem? hr)) hcl
              walk_at "ra"
              refine ixL (sqL hcell) (atZ (j := p.toNat) (by omega) (by rw [List.getElem?_map, hr]; rfl)) ?_
              walk_at "ra"
              have hcl2 : upd H1 a (.lst [.ref C, .int (p + 1), .int g, .int f, .int (t + 1), .int s]) rs[p.toNat] = some (.tup [.int fl, .int sz]) := by rw [upd_ne (nrs _ (List.mem_of_getElem? hr))]; exact hcl1
              refine ways (fun c4 => ?_) (fun c4 => ?_)
              · walk_at "ra"
                exact hN _ _ ⟨_, p + 1, sz, f, rfl, b0.own'.own', ⟨s60.1.own'.own', upd_same, by omega, hsz, s60.2.2.2.2.1, fun _ => by omega⟩⟩
              · walk_at "ra"
                exact hN _ _ ⟨_, p + 1, g, 4, rfl, b0.own'.own', ⟨s60.1.own'.own', upd_same, by omega, s60.2.2.2.1, by omega, fun _ => by omega⟩⟩
            · walk_at "ra"
              exact hN0 _
          · walk_at "ra"
            exact hN0 _
        · walk_at "ra"
          exact hN0 _
end
end K59

set_option Elab.async false
set_option linter.all false
set_option maxRecDepth 100000
set_option maxHeartbeats 4000000
namespace K59
open PySem PySem.Spec PyProof.Rows L2 Rd
-- OPT pat = ⟨p, ns, rfl, hp, k⟩
def sp__law_store (K : PySem.W.Frag) : Sp := fun vs H Q E => ∃ (p : Addr) (ns : List Int), vs = [.ref p] ∧ SqL K H p (ns.map V.int) ∧ ∀ a H', Same H H' → H a = none → Sto H' H' a 0 → Q (.ref a) H'
/-- the cells so far, all new since H -/
def CellsTo (H H' : Hp) (C : Addr) (m : Nat) : Prop := ∃ rs : List Addr, H' C = some (.lst (rs.map V.ref)) ∧ rs.length = m ∧ ∀ r, r ∈ rs → ∃ fl sz : Int, H' r = some (.tup [.int fl, .int sz]) ∧ Wd sz
theorem CellsTo.app {H H1 : Hp} {C r : Addr} {m : Nat} {fl sz : Int} {rs : List Addr} (h1 : H1 C = some (.lst (rs.map V.ref))) (h2 : ∀ r, r ∈ rs → ∃ fl sz : Int, H1 r = some (.tup [.int fl, .int sz]) ∧ Wd sz) (h3 : H1 r = none) (h4 : Wd sz) :
    CellsTo H (upd (upd H1 r (.tup [.int fl, .int sz])) C (.lst (rs.map V.ref ++ [.ref r]))) C (rs.length + 1) := by
  refine ⟨rs ++ [r], by rw [upd_same, List.map_append]; rfl, by simp, fun r' hr' => ?_⟩
  rcases List.mem_append.mp hr' with h | h
  · obtain ⟨fl', sz', e, w⟩ := h2 r' h
    refine ⟨fl', sz', ?_, w⟩
    rw [upd_ne (ne_of e h1 (by intro z; cases z)), upd_ne (ne_of_none e h3)]
    exact e
  · rw [List.mem_singleton.mp h]
    refine ⟨fl, sz, ?_, h4⟩
    rw [upd_ne (Ne.symm (ne_of_none h1 h3)), upd_same]
theorem lim_step {l : Int} {i : Nat} (h0 : 0 < l) (h : l ≤ 2 ^ (200 * 2 ^ i)) : 0 < l * l ∧ l * l ≤ 2 ^ (200 * 2 ^ (i + 1)) := by
  refine ⟨Int.mul_pos h0 h0, ?_⟩
  have e : (2 : Int) ^ (200 * 2 ^ (i + 1)) = 2 ^ (200 * 2 ^ i) * 2 ^ (200 * 2 ^ i) := by rw [← Int.pow_add]; congr 1; rw [Nat.pow_succ]; omega
  rw [e]
  exact Int.mul_le_mul h h (by omega) (Int.le_of_lt (Int.pow_pos (by decide)))
theorem lim_lg {l : Int} {i : Nat} (h0 : 0 < l) (h : l ≤ 2 ^ (200 * 2 ^ i)) (hi : i < 4) : Lg l := by
  refine lg_of (k := 3201) (by omega) (Int.lt_of_le_of_lt h ?_) (by omega)
  have : i = 0 ∨ i = 1 ∨ i = 2 ∨ i = 3 := by omega
  rcases this with rfl | rfl | rfl | rfl <;> decide +kernel
section
variable {K : PySem.W.Frag} {mg : Str → Option Value} {P : Program} {w : World} {base : Heap}
theorem ok__law_store (T : Tx K mg) : Okd P w K mg base 2 "_law_store" ["script"] (sp__law_store K) := by
  have c__law_mix := ok__law_mix (P := P) (w := w) (base := base) T
  refine Okd.mk' T.g__law_store T.f__law_store (fun _ _ _ _ _ _ us hl => match us, hl with | [_], _ => rfl) sc__law_store (fun vs H Q E h => ?_) (fun cdv A outer s H vs Q E hr h => ?_)
  · obtain ⟨p, ns, rfl, hp, k⟩ := h
    rfl
  · obtain ⟨p, ns, rfl, hp, k⟩ := h
    refine ⟨_, (pss_cons (ps_set (i := 1) sc__law_store.nd rfl (Or.inl rfl) (pe_op op_pow pe_int pe_int))
      (pss_cons (ps_for (passes_of rfl) rfl (pi_range1 (by rfl) T.m_range (pa_cons pe_int pa_nil)) (pg_name (i := 2) sc__law_store.nd rfl (Or.inl rfl)) (pss_one (ps_set (i := 1) sc__law_store.nd rfl (Or.inl rfl) (pe_op op_times (pv 1) (pv 1)))))
      (pss_cons (ps_set (i := 3) sc__law_store.nd rfl (Or.inl rfl) (pe_lst pa_nil))
      (pss_cons (ps_set (i := 4) sc__law_store.nd rfl (Or.inl rfl) pe_int)
      (pss_cons (ps_for (passes_of rfl) rfl (pi_or2 (ki_list K (pe_or2 (pe_slice (k_sll K) (pv 0) po_none (po_some pe_int)) (pe_slice (k_slt K) (pv 0) po_none (po_some pe_int)))) (ki_tup K (pe_or2 (pe_slice (k_sll K) (pv 0) po_none (po_some pe_int)) (pe_slice (k_slt K) (pv 0) po_none (po_some pe_int))))) (pg_name (i := 5) sc__law_store.nd rfl (Or.inl rfl)) (pss_cons (ps_set (i := 6) sc__law_store.nd rfl (Or.inl rfl) (pe_callB call_ab (by rfl) T.m_abs bt_abs (pa_cons (pe_callTy call_in (by rfl) T.m_int bt_int (pa_cons (pv 5) pa_nil)) pa_nil)))
      (pss_cons (ps_set (i := 7) sc__law_store.nd rfl (Or.inl rfl) (pe_callTy call_in (by rfl) T.m_int bt_int (pa_cons (pe_cmpR op_ge (pv 6) (pe_op op_pow pe_int pe_int) (nomark _)) pa_nil)))
      (pss_cons (ps_set (i := 6) sc__law_store.nd rfl (Or.inl rfl) (pe_op op_mod (pe_callTy call_in (by rfl) T.m_int bt_int (pa_cons (pv 6) pa_nil)) (pv 1)))
      (pss_cons (ps_set (i := 8) sc__law_store.nd rfl (Or.inl rfl) (pe_op (k_plus K) (pe_op op_times pe_int (pv 6)) (pe_callTy call_in (by rfl) T.m_int bt_int (pa_cons (pe_cmpR op_lt (pv 5) pe_int (nomark _)) pa_nil))))
      (pss_cons (ps_set (i := 4) sc__law_store.nd rfl (Or.inl rfl) (pe_def c__law_mix (hr.mono (by decide)) (takes_of rfl rfl rfl rfl) rfl (pa_cons (pv 4) (pa_cons (pe_op op_mod (pe_callTy call_in (by rfl) T.m_int bt_int (pa_cons (pv 8) pa_nil)) pe_int) (pa_cons (pe_op (k_plus K) (pe_callB (k_ln K) (by rfl) T.m_len bt_len (pa_cons (pv 3) pa_nil)) pe_int) pa_nil)))))
      (pss_one (ps_if (pt_cmpR (k_same K (hr_units hr)) (pv 7) pe_int (nomark _)) (pss_one (ps_expr (kp_bm K PySem.F.plainAttrs_list PySem.F.slot_list_append PySem.F.type_list_append mt_append (pv 3) (pa_cons (pe_tup (pa_cons pe_int (pa_cons (pv 6) pa_nil))) pa_nil)))) (pss_one (ps_expr (kp_bm K PySem.F.plainAttrs_list PySem.F.slot_list_append PySem.F.type_list_append mt_append (pv 3) (pa_cons (pe_tup (pa_cons pe_int (pa_cons (pv 8) pa_nil))) pa_nil))))))))))))
      (pss_one (ps_ret (pe_lst (pa_cons (pv 3) (pa_cons pe_int (pa_cons pe_int (pa_cons pe_int (pa_cons pe_int (pa_cons (pv 4) pa_nil)))))))))))))), ?_⟩
    refine start' (σ' := [some _, none, none, none, none, none, none, none, none]) rfl ?_
    walk_at "ra"
    refine pow ⟨by decide, by decide, by decide +kernel⟩ ?_
    walk_at "ra"
    with_reducible refine Rd.seq ?_
    refine forR1 (n := 4) (fun R h => ?_) (by omega) (fun i σ H' => ∃ (l : Int) (z : Option V), σ = [some (.ref p), some (.int l), z, none, none, none, none, none, none] ∧ H' = H ∧ 0 < l ∧ l ≤ 2 ^ (200 * 2 ^ i)) ⟨_, none, rfl, rfl, by decide +kernel, by decide +kernel⟩ ?_ ?_
    · walk_at "ra"
      exact h
    · rintro i σ H1 hi ⟨l, z, rfl, rfl, l0, l1⟩
      have ll := lim_lg l0 l1 (by omega)
      walk_at "ra"
      have := lim_step l0 l1
      exact ⟨_, _, rfl, rfl, this.1, this.2⟩
    · rintro σ H ⟨l, z, rfl, rfl, l0, l1⟩
      have l1 : l ≤ 2 ^ 3200 := l1
      walk_at "ra"
      refine ⟨by simp, fun C hC => ?_⟩
      walk_at "ra"
      with_reducible refine Rd.seq ?_
      refine forLE (Or.inl ?_)
      walk_at "ra"
      refine slL (goSqL (Rd.Same.new hC) hp) fun W hW => ?_
      have sC : Same H (upd H C (.lst [])) := Rd.Same.new hC
      have hW0 : H W = none := sC.free hW
      have nCW : C ≠ W := ne_of_none (upd_same (H := H) (a := C) (o := .lst [])) hW
      have ecut : cutV (ns.map V.int) none (some 63) = (ns.take 63).map V.int := by
        rw [List.map_take]
        exact cut_to _ _
      rw [ecut]
      refine lpL (R := fun _ _ => True) (sqL upd_same) (fun i σ H' => ∃ (s : Int) (a b c d : Option V), σ = [some (.ref p), some (.int l), z, some (.ref C), some (.int s), a, b, c, d] ∧ Same H H' ∧ SqL K H' W ((ns.take 63).map V.int) ∧ Wd s ∧ CellsTo H H' C i)
        ⟨11, none, none, none, none, rfl, sC.trans (Rd.Same.new hW), sqL upd_same, wd_small (by decide) (by decide), [], by rw [upd_ne nCW]; exact upd_same, rfl, fun r hr => by cases hr⟩ (fun i σ' H' ⟨_, _, _, _, _, _, _, h, _⟩ => h) ?_ ?_
      · rintro i x σ H2 hx ⟨s, a, b, c, d, rfl, s2, hw2, ws, rs, hcl, hrl, hcs⟩
        obtain ⟨y, hy, rfl⟩ := ints_at hx
        have hi : i < 63 := by
          have := (List.getElem?_eq_some_iff.mp hy).1
          rw [List.length_take] at this
          omega
        have nWC : W ≠ C := Ne.symm nCW
        have fin : ∀ (r : Addr) (fl sz : Int), H2 r = none → Wd sz → Same H (upd (upd H2 r (.tup [.int fl, .int sz])) C (.lst (rs.map V.ref ++ [.ref r]))) ∧ SqL K (upd (upd H2 r (.tup [.int fl, .int sz])) C (.lst (rs.map V.ref ++ [.ref r]))) W ((ns.take 63).map V.int) ∧ CellsTo H (upd (upd H2 r (.tup [.int fl, .int sz])) C (.lst (rs.map V.ref ++ [.ref r]))) C (i + 1) := by
          intro r fl sz hr w2
          refine ⟨Rd.Same.own (s2.trans (Rd.Same.new hr)) hC, ?_, ?_⟩
          · exact goSqLB (But.upd (a := C)) nWC (goSqL (Rd.Same.new hr) hw2)
          · have := CellsTo.app (H := H) (m := i) (fl := fl) hcl hcs hr w2
            rw [hrl] at this
            exact this
        have hmod : ∀ x : Int, 0 ≤ x % l ∧ x % l < l := fun x => mod_b l0
        have wsz : ∀ x : Int, Wd (x % l) := fun x => ⟨(hmod x).1, Int.lt_of_lt_of_le (hmod x).2 (Int.le_trans l1 (by decide +kernel))⟩
        have wcode : ∀ (x : Int) (b : Bool), Wd (2 * (x % l) + (if b then 1 else 0)) := fun x b => by
          have h1 := hmod x
          have e : (2 : Int) ^ 3300 = 2 ^ 3200 * 2 ^ 100 := by decide +kernel
          have q : (1 : Int) ≤ 2 ^ 3200 := by decide +kernel
          have lb : (0 : Int) ≤ (if b then 1 else 0) ∧ (if b then (1 : Int) else 0) ≤ 1 := by cases b <;> decide
          refine ⟨by omega, ?_⟩
          rw [e]
          generalize (2 : Int) ^ 3200 = A at *
          omega
        walk_at "ra"
        refine pow ⟨by decide, by decide, by decide +kernel⟩ ?_
        walk_at "ra"
        refine timesB (by decide +kernel) (wsz _).lg ?_
        walk_at "ra"
        have hc1 := hcl
        refine ⟨s, _, _, rfl, ws, ?_, ?_, fun v v0 v1 => ?_⟩
        · exact wd_small (mod_b (by decide)).1 (Int.le_trans (Int.le_of_lt (mod_b (by decide)).2) (by decide))
        · rw [List.length_map]
          exact wd_small (by omega) (by omega)
        · walk_at "ra"
          refine ways (fun c => ?_) (fun c => ?_)
          · walk_at "ra"
            refine ⟨le_line (by simp), fun r hr => ?_⟩
            walk_at "ra"
            refine app (xs := rs.map V.ref) (by walk_at "hp") (sm_le (by rw [List.length_map]; omega)) ?_
            walk_at "ra"
            have f := fin r 1 _ hr (wsz (if y < 0 then -y else y))
            exact ⟨v, _, _, _, _, rfl, f.1, f.2.1, wd_small v0 (by omega), f.2.2⟩
          · walk_at "ra"
            refine ⟨le_line (by simp), fun r hr => ?_⟩
            walk_at "ra"
            refine app (xs := rs.map V.ref) (by walk_at "hp") (sm_le (by rw [List.length_map]; omega)) ?_
            walk_at "ra"
            have f := fin r 0 _ hr (wcode (if y < 0 then -y else y) (decide (y < 0)))
            exact ⟨v, _, _, _, _, rfl, f.1, f.2.1, wd_small v0 (by omega), f.2.2⟩
      · rintro σ H2 ⟨s, a, b, c, d, rfl, s2, hw2, ws, rs, hcl, hrl, hcs⟩
        walk_at "ra"
        refine ⟨le_line (by simp), fun A hA => ?_⟩
        have sA : Same H2 (upd H2 A (.lst [.ref C, .int 0, .int 0, .int 0, .int 0, .int s])) := Rd.Same.new hA
        have hrl2 : rs.length ≤ 63 := by
          rw [hrl, List.length_map, List.length_take]
          omega
        refine k A _ (s2.trans sA) (s2.free hA) ⟨C, rs, 0, 0, 0, 0, s, ⟨sA _ _ hcl, hrl2, fun r hr => ?_⟩, Ne.symm (ne_of_none hcl hA), fun r hr => ?_, ⟨But.refl _ _, upd_same, ⟨by decide, by omega⟩, wd_small (by decide) (by decide), by decide, fun h => absurd h (by decide)⟩, ⟨by decide, by decide⟩, ws⟩
        · obtain ⟨fl, sz, e, w⟩ := hcs r hr
          exact ⟨fl, sz, sA _ _ e, w⟩
        · obtain ⟨fl, sz, e, w⟩ := hcs r hr
          exact ne_of_none e hA
end
end K59

set_option Elab.async false
set_option linter.all false
set_option maxRecDepth 100000
set_option maxHeartbeats 4000000
namespace K59
open PySem PySem.Spec PyProof.Rows L2 Rd
-- OPT pat = ⟨H0, a, d, U, rfl, st, hd, hU, k⟩
def sp__law_number (K : PySem.W.Frag) : Sp := fun vs H Q E => ∃ (H0 : Hp) (a : Addr) (d : Int) (U : Nat), vs = [.ref a, .int d] ∧ Sto H0 H a U ∧ (1 ≤ d ∧ d ≤ 40) ∧ U + 10 ≤ 1000000000000 ∧ RetS H0 H a (U + 4) (fun _ => True) Q
section
variable {K : PySem.W.Frag} {mg : Str → Option Value} {P : Program} {w : World} {base : Heap}
theorem ok__law_number (T : Tx K mg) : Okd P w K mg base 3 "_law_number" ["store", "digits"] (sp__law_number K) := by
  have c__law_take := ok__law_take (P := P) (w := w) (base := base) T
  refine Okd.mk' T.g__law_number T.f__law_number (fun _ _ _ _ _ _ us hl => match us, hl with | [_, _], _ => rfl) sc__law_number (fun vs H Q E h => ?_) (fun cdv A outer s H vs Q E hr h => ?_)
  · obtain ⟨H0, a, d, U, rfl, st, hd, hU, k⟩ := h
    rfl
  · obtain ⟨H0, a, d, U, rfl, st, hd, hU, k⟩ := h
    refine ⟨_, (pss_cons (ps_set (i := 2) sc__law_number.nd rfl (Or.inl rfl) (pe_def c__law_take (hr.mono (by decide)) (takes_of rfl rfl rfl rfl) rfl (pa_cons (pv 0) (pa_cons pe_int pa_nil))))
      (pss_cons (ps_if (pt_cmpR op_lt (pv 2) pe_int (nomark _)) (pss_one (ps_ret (pv 2))) pss_nil)
      (pss_cons (ps_set (i := 3) sc__law_number.nd rfl (Or.inl rfl) (pe_op (k_plus K) pe_int (pe_def c__law_take (hr.mono (by decide)) (takes_of rfl rfl rfl rfl) rfl (pa_cons (pv 0) (pa_cons (pe_callB (call_mn rfl) (by rfl) T.m_min bt_min (pa_cons (pv 1) (pa_cons pe_int pa_nil))) pa_nil)))))
      (pss_cons (ps_if (pt_cmpR op_lt (pv 2) pe_int (nomark _)) (pss_one (ps_set (i := 3) sc__law_number.nd rfl (Or.inl rfl) (pv 1))) pss_nil)
      (pss_cons (ps_if (pt_cmpR (k_same K (hr_units hr)) (pv 2) pe_int (nomark _)) (pss_one (ps_set (i := 3) sc__law_number.nd rfl (Or.inl rfl) (pe_op (k_plus K) pe_int (pe_def c__law_take (hr.mono (by decide)) (takes_of rfl rfl rfl rfl) rfl (pa_cons (pv 0) (pa_cons (pv 1) pa_nil)))))) pss_nil)
      (pss_cons (ps_set (i := 4) sc__law_number.nd rfl (Or.inl rfl) pe_int)
      (pss_cons (ps_for (passes_of rfl) rfl (pi_range1 (by rfl) T.m_range (pa_cons (pv 3) pa_nil)) (pg_name (i := 5) sc__law_number.nd rfl (Or.inl rfl)) (pss_one (ps_set (i := 4) sc__law_number.nd rfl (Or.inl rfl) (pe_op op_times (pv 4) pe_int))))
      (pss_cons (ps_if (pt_cmpR (k_same K (hr_units hr)) (pv 2) pe_int (nomark _)) (pss_one (ps_ret (pe_op op_sub (pv 4) pe_int))) pss_nil)
      (pss_cons (ps_if (pt_cmpR (k_same K (hr_units hr)) (pv 2) pe_int (nomark _)) (pss_one (ps_ret (pe_op op_fdivW (pv 4) pe_int))) pss_nil)
      (pss_one (ps_ret (pe_def c__law_take (hr.mono (by decide)) (takes_of rfl rfl rfl rfl) rfl (pa_cons (pv 0) (pa_cons (pv 4) pa_nil)))))))))))))), ?_⟩
    refine start' (σ' := [some _, some _, none, none, none, none]) rfl ?_
    walk_at "ra"
    refine ⟨H0, a, 8, U, rfl, st, by decide, by omega, fun kd H1 b1 st1 hv1 => ?_⟩
    walk_at "ra"
    with_reducible refine Rd.seq ?_
    walk_at "ra"
    refine ways (fun c => ?_) (fun c => ?_)
    · walk_at "ra"
      exact k _ H1 b1 (st1.more (by omega)) trivial
    · walk_at "ra"
      refine ⟨H0, a, _, U + 1, rfl, st1, by split <;> omega, by omega, fun v2 H2 b2 st2 hv2 => ?_⟩
      walk_at "ra"
      have hv2' : 0 ≤ v2 ∧ v2 ≤ 2 := by
        have := hv2.1
        have := hv2.2
        split at this <;> omega
      with_reducible refine seqK ?P ?_ ?_
      case P => exact fun σ' H' => ∃ (cnt : Int), σ' = [some (.ref a), some (.int d), some (.int kd), some (.int cnt), none, none] ∧ H' = H2 ∧ 0 ≤ cnt ∧ cnt ≤ 40
      · rintro σ H2' ⟨cnt, rfl, e2, c0, c1⟩
        subst e2
        walk_at "ra"
        with_reducible refine seqK ?P ?_ ?_
        case P => exact fun σ' H' => ∃ (cnt : Int), σ' = [some (.ref a), some (.int d), some (.int kd), some (.int cnt), none, none] ∧ But a H H' ∧ Sto H0 H' a (U + 3) ∧ 0 ≤ cnt ∧ cnt ≤ 41
        · rintro σ H3 ⟨cnt, rfl, b3, st3, c0, c1⟩
          walk_at "ra"
          with_reducible refine Rd.seq ?_
          refine forR1 (n := cnt) (fun R h => ?_) (by omega) (fun i σ H' => ∃ (tp : Int) (z : Option V), σ = [some (.ref a), some (.int d), some (.int kd), some (.int cnt), some (.int tp), z] ∧ H' = H3 ∧ 0 < tp ∧ tp ≤ 16 ^ i) ⟨1, none, rfl, rfl, by decide, by decide⟩ ?_ ?_
          · walk_at "ra"
            exact h
          · rintro i σ H4 hi ⟨tp, z, rfl, rfl, t0, t1⟩
            have hb : tp ≤ 16 ^ 41 := Int.le_trans t1 (by
              have : (16 : Nat) ^ i ≤ 16 ^ 41 := Nat.pow_le_pow_right (by decide) (by omega)
              exact_mod_cast this)
            have lt : Lg tp := lg_of (k := 200) (by omega) (Int.lt_of_le_of_lt hb (by decide +kernel)) (by omega)
            walk_at "ra"
            refine ⟨_, _, rfl, rfl, by omega, ?_⟩
            rw [Int.pow_succ]
            omega
          · rintro σ H4 ⟨tp, z, rfl, rfl, t0, t1⟩
            have hb : tp ≤ 16 ^ 41 := Int.le_trans t1 (by
              have : (16 : Nat) ^ cnt.toNat ≤ 16 ^ 41 := Nat.pow_le_pow_right (by decide) (by omega)
              exact_mod_cast this)
            walk_at "ra"
            with_reducible refine Rd.seq ?_
            walk_at "ra"
            refine ways (fun c2 => ?_) (fun c2 => ?_)
            · walk_at "ra"
              exact k _ _ b3 (st3.more (by omega)) trivial
            · walk_at "ra"
              with_reducible refine Rd.seq ?_
              walk_at "ra"
              refine ways (fun c3 => ?_) (fun c3 => ?_)
              · walk_at "ra"
                exact k _ _ b3 (st3.more (by omega)) trivial
              · walk_at "ra"
                exact ⟨H0, a, tp, U + 3, rfl, st3, Int.lt_of_le_of_lt hb (by decide +kernel), by omega, fun v5 H5 b5 st5 _ => k v5 H5 (b3.trans b5) (st5.more (by omega)) trivial⟩
        · intro N hN
          walk_at "ra"
          refine ways (fun c2 => ?_) (fun c2 => ?_)
          · walk_at "ra"
            refine ⟨H0, a, d, U + 2, rfl, st2, by omega, by omega, fun v4 H4 b4 st4 hv4 => ?_⟩
            walk_at "ra"
            exact hN _ _ ⟨_, rfl, (b1.trans b2).trans b4, st4, by omega, by omega⟩
          · walk_at "ra"
            exact hN _ _ ⟨_, rfl, b1.trans b2, st2.more (by omega), by omega, by omega⟩
      · intro N hN
        walk_at "ra"
        refine ways (fun c2 => ?_) (fun c2 => ?_)
        · walk_at "ra"
          exact hN _ _ ⟨_, rfl, rfl, by omega, by omega⟩
        · walk_at "ra"
          exact hN _ _ ⟨_, rfl, rfl, by omega, by omega⟩
end
-- OPT pat = ⟨H0, a, p, ns, U, rfl, st, hp, hl, hU, k⟩
/-- a new list of ints comes back, the store has moved on -/
def RetW (H0 H : Hp) (a : Addr) (U : Nat) (P : List Int → Prop) (Q : VK) : Prop := ∀ r ms H', But a H H' → Sto H0 H' a U → H r = none → H' r = some (.lst (ms.map V.int)) → P ms → Q (.ref r) H'
def sp__law_shuffled (K : PySem.W.Frag) : Sp := fun vs H Q E => ∃ (H0 : Hp) (a p : Addr) (ns : List Int) (U : Nat), vs = [.ref a, .ref p] ∧ Sto H0 H a U ∧ Sq K H p (ns.map V.int) ∧ ns.length ≤ 1000 ∧ U + 1010 ≤ 1000000000000 ∧ RetW H0 H a (U + 1000) (fun ms => ms.length = ns.length ∧ ∀ v, v ∈ ms → v ∈ ns) Q
section
variable {K : PySem.W.Frag} {mg : Str → Option Value} {P : Program} {w : World} {base : Heap}
theorem ok__law_shuffled (T : Tx K mg) : Okd P w K mg base 3 "_law_shuffled" ["store", "items"] (sp__law_shuffled K) := by
  have c__law_take := ok__law_take (P := P) (w := w) (base := base) T
  refine Okd.mk' T.g__law_shuffled T.f__law_shuffled (fun _ _ _ _ _ _ us hl => match us, hl with | [_, _], _ => rfl) sc__law_shuffled (fun vs H Q E h => ?_) (fun cdv A outer s H vs Q E hr h => ?_)
  · obtain ⟨H0, a, p, ns, U, rfl, st, hp, hl, hU, k⟩ := h
    rfl
  · obtain ⟨H0, a, p, ns, U, rfl, st, hp, hl, hU, k⟩ := h
    refine ⟨_, (pss_cons (ps_set (i := 2) sc__law_shuffled.nd rfl (Or.inl rfl) (pe_callTy (k_ls K) (by rfl) T.m_list bt_list (pa_cons (pv 1) pa_nil)))
      (pss_cons (ps_for (passes_of rfl) rfl (pi_range1 (by rfl) T.m_range (pa_cons (pe_callB (k_ln K) (by rfl) T.m_len bt_len (pa_cons (pv 2) pa_nil)) pa_nil)) (pg_name (i := 3) sc__law_shuffled.nd rfl (Or.inl rfl)) (pss_cons (ps_set (i := 4) sc__law_shuffled.nd rfl (Or.inl rfl) (pe_op (k_plus K) (pv 3) (pe_def c__law_take (hr.mono (by decide)) (takes_of rfl rfl rfl rfl) rfl (pa_cons (pv 0) (pa_cons (pe_op op_sub (pe_callB (k_ln K) (by rfl) T.m_len bt_len (pa_cons (pv 2) pa_nil)) (pv 3)) pa_nil)))))
      (pss_cons (ps_set (i := 5) sc__law_shuffled.nd rfl (Or.inl rfl) (pe_ix (k_ix K) (pv 2) (pv 3) (fun _ _ => rfl)))
      (pss_cons (ps_asg (pe_ix (k_ix K) (pv 2) (pv 4) (fun _ _ => rfl)) (pg_sub (pv 2) (pv 3) set_list))
      (pss_one (ps_asg (pv 5) (pg_sub (pv 2) (pv 4) set_list)))))))
      (pss_one (ps_ret (pv 2))))), ?_⟩
    refine start' (σ' := [some _, some _, none, none, none, none]) rfl ?_
    walk_at "ra"
    refine lstOf hp fun r hr => ?_
    have ne : r ≠ a := by
      obtain ⟨xs, e⟩ := st.at
      exact Ne.symm (ne_of_none e hr)
    have hr0 : H0 r = none := st.but.free ne hr
    walk_at "ra"
    with_reducible refine Rd.seq ?_
    refine forR1 (n := (ns.length : Int)) (fun R h => ?_) (by omega) (fun i σ H' => ∃ (x y z : Option V) (ms : List Int), σ = [some (.ref a), some (.ref p), some (.ref r), x, y, z] ∧ But a H H' ∧ Sto H0 H' a (U + i) ∧ H' r = some (.lst (ms.map V.int)) ∧ ms.length = ns.length ∧ ∀ v, v ∈ ms → v ∈ ns)
      ⟨none, none, none, ns, rfl, (But.refl a H).own hr, st.own hr0 ne, upd_same, rfl, fun v h => h⟩ ?_ ?_
    · walk_at "ra"
      rw [List.length_map]
      exact h
    · rintro i σ H1 hi ⟨x, y, z, ms, rfl, b1, st1, e1, l1, m1⟩
      walk_at "ra"
      rw [List.length_map]
      refine ⟨H0, a, _, U + i, rfl, st1, by omega, by omega, fun v2 H2 b2 st2 hv2 => ?_⟩
      have e2 : H2 r = some (.lst (ms.map V.int)) := b2 r _ ne e1
      have hv3 : v2 < ns.length - i := by
        have := hv2.2
        omega
      have hv4 := hv2.1
      walk_at "ra"
      refine ixI (.inl (sqL e2)) (by omega) ?_
      walk_at "ra"
      refine ixZ (j := i + v2.toNat) (.inl (sqL e2)) (by omega) (by omega) ?_
      walk_at "ra"
      refine setL e2 (ixN_nat (by rw [List.length_map]; omega)) ?_
      walk_at "ra"
      refine setL (j := i + v2.toNat) upd_same (ixNZ (by omega) (by rw [List.length_set, List.length_map]; omega)) ?_
      have hb : But a H H2 := b1.trans b2
      refine ⟨_, _, _, (ms.set i (ms.getD (i + v2.toNat) 0)).set (i + v2.toNat) (ms.getD i 0), rfl, (hb.own hr).own hr, ?_, ?_, by simp [l1], ?_⟩
      · have := ((st2.own (o := .lst ((ms.map V.int).set i (.int (ms.getD (i + v2.toNat) 0)))) hr0 ne).own (o := .lst (((ms.map V.int).set i (.int (ms.getD (i + v2.toNat) 0))).set (i + v2.toNat) (.int (ms.getD i 0)))) hr0 ne)
        exact this.more (by omega)
      · rw [upd_same, List.map_set, List.map_set]
      · intro v hv
        have mem : ∀ j, j < ms.length → ms.getD j 0 ∈ ns := fun j hj => m1 _ (by simp [List.getD, hj])
        rcases List.mem_or_eq_of_mem_set hv with h | h
        · rcases List.mem_or_eq_of_mem_set h with h | h
          · exact m1 v h
          · rw [h]
            exact mem _ (by omega)
        · rw [h]
          exact mem _ (by omega)
    · rintro σ H1 ⟨x, y, z, ms, rfl, b1, st1, e1, l1, m1⟩
      walk_at "ra"
      exact k r ms H1 b1 (st1.more (by omega)) hr e1 ⟨l1, m1⟩
end
end K59

set_option Elab.async false
set_option linter.all false
set_option maxRecDepth 100000
set_option maxHeartbeats 4000000
namespace K59
open PySem PySem.Spec PyProof.Rows L2 Rd
-- OPT pat = ⟨H0, a, n, bg, most, top, U, rfl, st, hn, hbg, hmost, hU, k⟩
def sp__law_trail (K : PySem.W.Frag) : Sp := fun vs H Q E => ∃ (H0 : Hp) (a : Addr) (n bg most top : Int) (U : Nat), vs = [.ref a, .int n, .int bg, .int most, .int top] ∧ Sto H0 H a U ∧ (1 ≤ n ∧ n ≤ 40) ∧ (0 ≤ bg ∧ bg < n) ∧ (1 ≤ most ∧ most ≤ 300) ∧ U + 1010 ≤ 1000000000000 ∧
  RetW H0 H a (U + 1000) (fun ms => 0 < ms.length ∧ ms.length ≤ 301 ∧ ∀ v, v ∈ ms → 0 ≤ v ∧ v < n) Q
section
variable {K : PySem.W.Frag} {mg : Str → Option Value} {P : Program} {w : World} {base : Heap}
theorem ok__law_trail (T : Tx K mg) : Okd P w K mg base 3 "_law_trail" ["store", "n", "begin", "most", "top"] (sp__law_trail K) := by
  have c__law_take := ok__law_take (P := P) (w := w) (base := base) T
  refine Okd.mk' T.g__law_trail T.f__law_trail (fun _ _ _ _ _ _ us hl => match us, hl with | [_, _, _, _, _], _ => rfl) sc__law_trail (fun vs H Q E h => ?_) (fun cdv A outer s H vs Q E hr h => ?_)
  · obtain ⟨H0, a, n, bg, most, top, U, rfl, st, hn, hbg, hmost, hU, k⟩ := h
    rfl
  · obtain ⟨H0, a, n, bg, most, top, U, rfl, st, hn, hbg, hmost, hU, k⟩ := h
    refine ⟨_, (pss_cons (ps_set (i := 5) sc__law_trail.nd rfl (Or.inl rfl) (pe_def c__law_take (hr.mono (by decide)) (takes_of rfl rfl rfl rfl) rfl (pa_cons (pv 0) (pa_cons pe_int pa_nil))))
      (pss_cons (ps_set (i := 6) sc__law_trail.nd rfl (Or.inl rfl) (pe_def c__law_take (hr.mono (by decide)) (takes_of rfl rfl rfl rfl) rfl (pa_cons (pv 0) (pa_cons (pe_op (k_plus K) (pe_callB (call_mn rfl) (by rfl) T.m_min bt_min (pa_cons (pv 3) (pa_cons pe_int pa_nil))) pe_int) pa_nil))))
      (pss_cons (ps_if (pt_cmpR (k_same K (hr_units hr)) (pv 5) pe_int (nomark _)) (pss_one (ps_set (i := 6) sc__law_trail.nd rfl (Or.inl rfl) pe_int)) pss_nil)
      (pss_cons (ps_if (pt_cmpR (k_same K (hr_units hr)) (pv 5) pe_int (nomark _)) (pss_one (ps_set (i := 6) sc__law_trail.nd rfl (Or.inl rfl) (pv 3))) pss_nil)
      (pss_cons (ps_if (pt_cmpR (k_same K (hr_units hr)) (pv 5) pe_int (nomark _)) (pss_one (ps_set (i := 6) sc__law_trail.nd rfl (Or.inl rfl) (pe_def c__law_take (hr.mono (by decide)) (takes_of rfl rfl rfl rfl) rfl (pa_cons (pv 0) (pa_cons (pe_op (k_plus K) (pe_callB (call_mn rfl) (by rfl) T.m_min bt_min (pa_cons (pv 3) (pa_cons pe_int pa_nil))) pe_int) pa_nil))))) pss_nil)
      (pss_cons (ps_set (i := 7) sc__law_trail.nd rfl (Or.inl rfl) (pe_def c__law_take (hr.mono (by decide)) (takes_of rfl rfl rfl rfl) rfl (pa_cons (pv 0) (pa_cons pe_int pa_nil))))
      (pss_cons (ps_setLc (i := 8) (own := [("v", 13)]) rfl sc__law_trail.nd rfl rfl (sw_true rfl rfl rfl (by decide +kernel)) (pi_range1 (by rfl) T.m_range (pa_cons (pv 1) pa_nil)) (blkOk_by (own := [("v", 13)]) (N := ["store", "n", "begin", "most", "top", "kind", "count", "style", "gone", "row", "k", "at", "to", "v"]) (sc := defScope s__law_trail) (by decide +kernel)) (fun _ _ _ _ _ => (pg_name (i := 13) sc__law_trail.nd rfl (Or.inl rfl))) (fun _ _ _ _ _ => pts_nil) (fun _ _ _ _ _ => pe_int))
      (pss_cons (ps_set (i := 9) sc__law_trail.nd rfl (Or.inl rfl) (pe_lst (pa_cons (pv 2) pa_nil)))
      (pss_cons (ps_for (passes_of rfl) rfl (pi_range1 (by rfl) T.m_range (pa_cons (pv 6) pa_nil)) (pg_name (i := 10) sc__law_trail.nd rfl (Or.inl rfl)) (pss_cons (ps_set (i := 11) sc__law_trail.nd rfl (Or.inl rfl) (pe_ix (k_ix K) (pv 9) (pe_un un_neg pe_int) (fun _ _ => rfl)))
      (pss_cons (ps_if (pt_cmpR op_ge (pe_ix (k_ix K) (pv 8) (pv 11) (fun _ _ => rfl)) (pv 4) (nomark _)) (pss_one ps_break) pss_nil)
      (pss_cons (ps_set (i := 12) sc__law_trail.nd rfl (Or.inl rfl) (pe_def c__law_take (hr.mono (by decide)) (takes_of rfl rfl rfl rfl) rfl (pa_cons (pv 0) (pa_cons (pv 1) pa_nil))))
      (pss_cons (ps_if (pt_cmpR (k_same K (hr_units hr)) (pv 7) pe_int (nomark _)) (pss_one (ps_set (i := 12) sc__law_trail.nd rfl (Or.inl rfl) (pe_op op_mod (pe_callTy call_in (by rfl) T.m_int bt_int (pa_cons (pv 12) pa_nil)) (pe_callB (call_mn rfl) (by rfl) T.m_min bt_min (pa_cons (pv 1) (pa_cons pe_int pa_nil)))))) pss_nil)
      (pss_cons (ps_if (PW.pt (pw_and (pt_cmpR (k_same K (hr_units hr)) (pv 7) pe_int (nomark _)) (pw_and1 (pt_cmpR (k_same K (hr_units hr)) (pe_def c__law_take (hr.mono (by decide)) (takes_of rfl rfl rfl rfl) rfl (pa_cons (pv 0) (pa_cons pe_int pa_nil))) pe_int (nomark _))))) (pss_one (ps_set (i := 12) sc__law_trail.nd rfl (Or.inl rfl) (pv 11))) pss_nil)
      (pss_cons (ps_asg (pe_op (k_plus K) (pe_ix (k_ix K) (pv 8) (pv 11) (fun _ _ => rfl)) pe_int) (pg_sub (pv 8) (pv 11) set_list))
      (pss_one (ps_expr (kp_bm K PySem.F.plainAttrs_list PySem.F.slot_list_append PySem.F.type_list_append mt_append (pv 9) (pa_cons (pv 12) pa_nil)))))))))))
      (pss_one (ps_ret (pv 9)))))))))))), ?_⟩
    refine start' (σ' := [some _, some _, some _, some _, some _, none, none, none, none, none, none, none, none, none]) rfl ?_
    walk_at "ra"
    refine ⟨H0, a, 8, U, rfl, st, by decide, by omega, fun kd H1 b1 st1 hv1 => ?_⟩
    walk_at "ra"
    refine ⟨H0, a, _, U + 1, rfl, st1, by split <;> omega, by omega, fun c0 H2 b2 st2 hv2 => ?_⟩
    have hc0 : 0 ≤ c0 ∧ c0 ≤ 300 := by
      have h1 := hv2.1
      have h2 := hv2.2
      split at h2 <;> omega
    have b02 : But a H H2 := b1.trans b2
    walk_at "ra"
    with_reducible refine seqK ?P ?_ ?_
    case P => exact fun σ' H' => ∃ c : Int, σ' = [some (.ref a), some (.int n), some (.int bg), some (.int most), some (.int top), some (.int kd), some (.int c), none, none, none, none, none, none, none] ∧ H' = H2 ∧ 0 ≤ c ∧ c ≤ 300
    · rintro σ H2' ⟨c, rfl, e2, hc⟩
      subst e2
      walk_at "ra"
      with_reducible refine seqK ?P ?_ ?_
      case P => exact fun σ' H' => ∃ c : Int, σ' = [some (.ref a), some (.int n), some (.int bg), some (.int most), some (.int top), some (.int kd), some (.int c), none, none, none, none, none, none, none] ∧ H' = H2' ∧ 0 ≤ c ∧ c ≤ 300
      · rintro σ H2 ⟨c, rfl, e2, hc⟩
        subst e2
        walk_at "ra"
        with_reducible refine seqK ?P ?_ ?_
        case P => exact fun σ' H' => ∃ c : Int, σ' = [some (.ref a), some (.int n), some (.int bg), some (.int most), some (.int top), some (.int kd), some (.int c), none, none, none, none, none, none, none] ∧ But a H H' ∧ Sto H0 H' a (U + 3) ∧ 0 ≤ c ∧ c ≤ 300
        · rintro σ H3 ⟨c, rfl, b3, st3, hc⟩
          walk_at "ra"
          refine ⟨H0, a, 4, U + 3, rfl, st3, by decide, by omega, fun sy H4 b4 st4 hv4 => ?_⟩
          have b04 : But a H H4 := b3.trans b4
          walk_at "ra"
          refine lcR1 (n := n) (fun R h => ?_) (by omega) (fun _ => .int 0) (fun _ => rfl) ?_ ?_
          · walk_at "ra"
            exact h
          · intro v H5 R hv s5 hR
            walk_at "ra"
            exact hR H5 (Same.refl H5)
          · intro H5 g s5 hg eg
            have eg' : H5 g = some (.lst ((List.replicate n.toNat (0 : Int)).map V.int)) := by
              rw [eg]
              congr 2
              rw [List.map_replicate]
              exact List.eq_replicate_iff.mpr ⟨by simp, fun b hb => by obtain ⟨_, _, e⟩ := List.mem_map.mp hb; exact e.symm⟩
            walk_at "ra"
            refine ⟨le_line (by simp), fun r hr => ?_⟩
            have nga : g ≠ a := by
              obtain ⟨xs, e⟩ := st4.at
              exact Ne.symm (ne_of_none e hg)
            have nra : r ≠ a := by
              obtain ⟨xs, e⟩ := (st4.go s5).at
              exact Ne.symm (ne_of_none e hr)
            have ngr : g ≠ r := ne_of_none eg hr
            have hg0 : H g = none := b04.free nga hg
            have hr0 : H r = none := b04.free nra (s5.free hr)
            have hg00 : H0 g = none := st.but.free nga hg0
            have hr00 : H0 r = none := st.but.free nra hr0
            walk_at "ra"
            with_reducible refine Rd.seq ?_
            refine forR1 (n := c) (fun R h => ?_) (by omega) (fun i σ H' => ∃ (x y z : Option V) (gs ms : List Int), σ = [some (.ref a), some (.int n), some (.int bg), some (.int most), some (.int top), some (.int kd), some (.int c), some (.int sy), some (.ref g), some (.ref r), x, y, z, none] ∧ But a H H' ∧ Sto H0 H' a (U + 4 + 2 * i) ∧
                H' g = some (.lst (gs.map V.int)) ∧ gs.length = n.toNat ∧ H' r = some (.lst (ms.map V.int)) ∧ 0 < ms.length ∧ ms.length ≤ i + 1 ∧ ∀ v, v ∈ ms → 0 ≤ v ∧ v < n)
              ⟨none, none, none, _, [bg], rfl, (b04.trans (But.of s5)).own hr0, (st4.go s5).own hr00 nra, by rw [upd_ne ngr]; exact eg', by simp, upd_same, by simp, by simp, fun v hv => by rw [List.mem_singleton.mp hv]; exact hbg⟩ ?_ ?_
            · walk_at "ra"
              exact h
            · rintro i σ H6 hi ⟨x, y, z, gs, ms, rfl, b6, st6, eg6, lg6, er6, l0, l1, m6⟩
              have hat := m6 (ms.getD (ms.length - 1) 0) (by simp [List.getD, show ms.length - 1 < ms.length by omega])
              walk_at "ra"
              refine ixL (sqL er6) (v := .int (ms.getD (ms.length - 1) 0)) (atLast (by rw [List.length_map]; exact intsAt (by omega))) ?_
              walk_at "ra"
              with_reducible refine Rd.seq ?_
              walk_at "ra"
              generalize ms.getD (ms.length - 1) 0 = at' at hat
              refine ixZ (j := at'.toNat) (.inl (sqL eg6)) (by omega) (by omega) ?_
              walk_at "ra"
              refine ways (fun c5 => ?_) (fun c5 => ?_)
              · walk_at "ra"
                exact k r ms H6 b6 (st6.more (by omega)) hr0 er6 ⟨l0, by omega, m6⟩
              · walk_at "ra"
                refine ⟨H0, a, n, _, rfl, st6, by omega, by omega, fun to H7 b7 st7 hv7 => ?_⟩
                have hto : 0 ≤ to ∧ to < n := by
                  have h1 := hv7.1
                  have h2 := hv7.2
                  omega
                have b07 : But a H H7 := b6.trans b7
                have eg7 : H7 g = some (.lst (gs.map V.int)) := b7 g _ nga eg6
                have er7 : H7 r = some (.lst (ms.map V.int)) := b7 r _ nra er6
                walk_at "ra"
                with_reducible refine seqK ?P ?_ ?_
                case P => exact fun σ' H' => ∃ t : Int, σ' = [some (.ref a), some (.int n), some (.int bg), some (.int most), some (.int top), some (.int kd), some (.int c), some (.int sy), some (.ref g), some (.ref r), some (.int (i : Int)), some (.int at'), some (.int t), none] ∧ H' = H7 ∧ 0 ≤ t ∧ t < n
                · rintro σ H8 ⟨t, rfl, e8, ht⟩
                  subst e8
                  walk_at "ra"
                  with_reducible refine seqK ?P ?_ ?_
                  case P => exact fun σ' H' => ∃ t : Int, σ' = [some (.ref a), some (.int n), some (.int bg), some (.int most), some (.int top), some (.int kd), some (.int c), some (.int sy), some (.ref g), some (.ref r), some (.int (i : Int)), some (.int at'), some (.int t), none] ∧ But a H H' ∧ Sto H0 H' a (U + 4 + 2 * i + 2) ∧ H' g = some (.lst (gs.map V.int)) ∧ H' r = some (.lst (ms.map V.int)) ∧ 0 ≤ t ∧ t < n
                  · rintro σ H9 ⟨t, rfl, b9, st9, eg9, er9, ht⟩
                    walk_at "ra"
                    refine ixZ (j := at'.toNat) (.inl (sqL eg9)) (by omega) (by omega) ?_
                    walk_at "ra"
                    refine setL (j := at'.toNat) eg9 (ixNZ (by omega) (by rw [List.length_map]; omega)) ?_
                    have er10 : upd H9 g (.lst ((gs.map V.int).set at'.toNat (.int (gs.getD at'.toNat 0 + 1)))) r = some (.lst (ms.map V.int)) := by
                      rw [upd_ne (Ne.symm ngr)]
                      exact er9
                    walk_at "ra"
                    refine app er10 (sm_le (by rw [List.length_map]; omega)) ?_
                    walk_at "ra"
                    refine ⟨_, _, _, gs.set at'.toNat (gs.getD at'.toNat 0 + 1), ms ++ [t], rfl, (b9.own hg0).own hr0, ((st9.own hg00 nga).own hr00 nra).more (by omega), ?_, by rw [List.length_set]; exact lg6, ?_, by simp, by simp; omega, ?_⟩
                    · rw [upd_ne ngr, upd_same, List.map_set]
                    · rw [upd_same, List.map_append]
                      rfl
                    · intro v hv
                      rcases List.mem_append.mp hv with h | h
                      · exact m6 v h
                      · rw [List.mem_singleton.mp h]
                        exact ht
                  · intro N hN
                    walk_at "ra"
                    refine ways (fun c6 => ?_) (fun c6 => ?_)
                    · walk_at "ra"
                      refine ⟨H0, a, 2, _, rfl, st7, by decide, by omega, fun v9 H9 b9 st9 hv9 => ?_⟩
                      walk_at "ra"
                      have q1 : But a H H9 := b07.trans b9
                      have q2 : Sto H0 H9 a (U + 4 + 2 * i + 2) := st9.more (by omega)
                      refine ways (fun c7 => ?_) (fun c7 => ?_)
                      · walk_at "ra"
                        exact hN _ _ ⟨_, rfl, q1, q2, b9 g _ nga eg7, b9 r _ nra er7, hat⟩
                      · walk_at "ra"
                        exact hN _ _ ⟨_, rfl, q1, q2, b9 g _ nga eg7, b9 r _ nra er7, ht⟩
                    · walk_at "ra"
                      exact hN _ _ ⟨_, rfl, b07, st7.more (by omega), eg7, er7, ht⟩
                · intro N hN
                  walk_at "ra"
                  refine ways (fun c6 => ?_) (fun c6 => ?_)
                  · walk_at "ra"
                    have hm2 : 0 < (if 2 < n then 2 else n) ∧ (if 2 < n then 2 else n) ≤ n := by split <;> omega
                    have := mod_b (a := to) hm2.1
                    exact hN _ _ ⟨_, rfl, rfl, this.1, by omega⟩
                  · walk_at "ra"
                    exact hN _ _ ⟨_, rfl, rfl, hto⟩
            · rintro σ H6 ⟨x, y, z, gs, ms, rfl, b6, st6, eg6, lg6, er6, l0, l1, m6⟩
              walk_at "ra"
              exact k r ms H6 b6 (st6.more (by omega)) hr0 er6 ⟨l0, by omega, m6⟩
        · intro N hN
          walk_at "ra"
          refine ways (fun c2 => ?_) (fun c2 => ?_)
          · walk_at "ra"
            refine ⟨H0, a, _, U + 2, rfl, st2, by split <;> omega, by omega, fun v4 H4 b4 st4 hv4 => ?_⟩
            walk_at "ra"
            have hc4 : 0 ≤ v4 ∧ v4 ≤ 300 := by
              have h1 := hv4.1
              have h2 := hv4.2
              split at h2 <;> omega
            exact hN _ _ ⟨_, rfl, b02.trans b4, st4, hc4⟩
          · walk_at "ra"
            exact hN _ _ ⟨_, rfl, b02, st2.more (by omega), hc⟩
      · intro N hN
        walk_at "ra"
        refine ways (fun c2 => ?_) (fun c2 => ?_)
        · walk_at "ra"
          exact hN _ _ ⟨_, rfl, rfl, by omega, by omega⟩
        · walk_at "ra"
          exact hN _ _ ⟨_, rfl, rfl, hc⟩
    · intro N hN
      walk_at "ra"
      refine ways (fun c2 => ?_) (fun c2 => ?_)
      · walk_at "ra"
        exact hN _ _ ⟨_, rfl, rfl, by omega, by omega⟩
      · walk_at "ra"
        exact hN _ _ ⟨_, rfl, rfl, hc0⟩
end
end K59

set_option Elab.async false
set_option linter.all false
set_option maxRecDepth 100000
set_option maxHeartbeats 4000000
namespace K59
open PySem PySem.Spec PyProof.Rows L2 Rd
-- OPT pat = ⟨n, p, ns, rfl, hp, hlen, hn, h3, hall, k⟩
/-- rows come back: a list of lists -/
def RetRows (K : PySem.W.Frag) (H : Hp) (Q : VK) (nss : List (List Int)) : Prop := ∀ H' c rs, Same H H' → H' c = some (.lst (rs.map V.ref)) → RowsAt K H' rs nss → Q (.ref c) H'
def sp__law_trail_piles (K : PySem.W.Frag) : Sp := fun vs H Q E => ∃ (n : Int) (p : Addr) (ns : List Int), vs = [.int n, .ref p] ∧ Sq K H p (ns.map V.int) ∧ ns.length ≤ 1000000 ∧ (1 ≤ n ∧ n ≤ 40) ∧ 0 < ns.length ∧ (∀ k, k < ns.length → 0 ≤ ns.getD k 0 ∧ ns.getD k 0 < n) ∧ RetRows K H Q (trailPiles n.toNat ns)
section
variable {K : PySem.W.Frag} {mg : Str → Option Value} {P : Program} {w : World} {base : Heap}
theorem ok__law_trail_piles (T : Tx K mg) : Okd P w K mg base 1 "_law_trail_piles" ["n", "row"] (sp__law_trail_piles K) := by
  refine Okd.mk' T.g__law_trail_piles T.f__law_trail_piles (fun _ _ _ _ _ _ us hl => match us, hl with | [_, _], _ => rfl) sc__law_trail_piles (fun vs H Q E h => ?_) (fun cdv A outer s H vs Q E hr h => ?_)
  · obtain ⟨n, p, ns, rfl, hp, hlen, hn, h3, hall, k⟩ := h
    rfl
  · obtain ⟨n, p, ns, rfl, hp, hlen, hn, h3, hall, k⟩ := h
    refine ⟨_, (pss_cons (ps_setLc (i := 2) (own := [("v", 4)]) rfl sc__law_trail_piles.nd rfl rfl (sw_true rfl rfl rfl (by decide +kernel)) (pi_range1 (by rfl) T.m_range (pa_cons (pv 0) pa_nil)) (blkOk_by (own := [("v", 4)]) (N := ["n", "row", "piles", "k", "v"]) (sc := defScope s__law_trail_piles) (by decide +kernel)) (fun _ _ _ _ _ => (pg_name (i := 4) sc__law_trail_piles.nd rfl (Or.inl rfl))) (fun _ _ _ _ _ => pts_nil) (fun _ _ _ _ _ => (pe_lst pa_nil)))
      (pss_cons (ps_for (passes_of rfl) rfl (pi_range1 (by rfl) T.m_range (pa_cons (pe_op op_sub (pe_callB (k_ln K) (by rfl) T.m_len bt_len (pa_cons (pv 1) pa_nil)) pe_int) pa_nil)) (pg_name (i := 3) sc__law_trail_piles.nd rfl (Or.inl rfl)) (pss_one (ps_expr (kp_bm K PySem.F.plainAttrs_list PySem.F.slot_list_append PySem.F.type_list_append mt_append (pe_ix (k_ix K) (pv 2) (pe_ix (k_ix K) (pv 1) (pv 3) (fun _ _ => rfl)) (fun _ _ => rfl)) (pa_cons (pe_ix (k_ix K) (pv 1) (pe_op (k_plus K) (pv 3) pe_int) (fun _ _ => rfl)) pa_nil)))))
      (pss_one (ps_ret (pv 2))))), ?_⟩
    refine start' (σ' := [some _, some _, none, none, none]) rfl ?_
    obtain ⟨m, rfl⟩ : ∃ m : Nat, n = m := ⟨n.toNat, by omega⟩
    rw [Int.toNat_natCast] at k
    walk_at "rd"
    refine lcNew (n := (m : Int)) (fun R h => ?_) (by omega) (fun _ => rfl) ?_
    · walk_at "rd"
      exact h
    · intro rs H1 c s1 hcn hc hrl nd nm hrs
      rw [Int.toNat_natCast] at hrl
      walk_at "rd"
      refine forR1 (n := (ns.length : Int) - 1) (fun R h => ?_) (by omega) (fun i σ H' => ∃ u v : Option V, σ = [some (.int m), some (.ref p), some (.ref c), u, v] ∧ Piles K H H' c rs m ns i) ⟨none, none, rfl, s1, hc, fun v r hv => (hrs r (List.mem_of_getElem? hv)).2⟩ ?_ ?_
      · have := goSq s1 hp
        walk_at "rd"
        rw [List.length_map]
        exact h
      · rintro i σ H2 hi ⟨u, v, rfl, pl⟩
        have hp2 := goSq pl.1 hp
        have hb := hall i (by omega)
        obtain ⟨j, hj⟩ : ∃ j : Nat, ns.getD i 0 = j := ⟨(ns.getD i 0).toNat, by omega⟩
        have hjr : rs[j]? = some rs[j] := List.getElem?_eq_getElem (by omega)
        have hr := pl.2.2 j _ hjr
        have hcl := pl.2.1
        walk_at "rd"
        refine ixI hp2 (by omega) ?_
        rw [hj]
        refine ixL (sqL hcl) (atN (by rw [List.getElem?_map, hjr]; rfl)) ?_
        walk_at "rd"
        refine ixZ (j := i + 1) hp2 (by omega) (by omega) ?_
        walk_at "rd"
        refine app hr ?_ ?_
        · refine sm_le ?_
          have : (outsAt j ns i).length ≤ i := by
            unfold outsAt
            rw [List.length_map]
            exact Nat.le_trans (List.length_filter_le _ _) (by simp)
          rw [List.length_map]
          omega
        · walk_at "rd"
          exact ⟨_, _, rfl, pl.step (fun r h => (hrs r h).1) nd nm hjr hj⟩
      · rintro σ H2 ⟨u, v, rfl, pl⟩
        have ei : ((ns.length : Int) - 1).toNat = ns.length - 1 := by omega
        walk_at "rd"
        refine k H2 c rs pl.1 pl.2.1 ⟨by unfold trailPiles; rw [tab_len, hrl], fun v r ms a b => ?_⟩
        have hv : v < m := by
          have := (List.getElem?_eq_some_iff.mp a).1
          omega
        unfold trailPiles at b
        rw [tab_at hv] at b
        obtain rfl := Option.some.inj b
        have := pl.2.2 v r a
        rw [ei] at this
        exact .inl (sqL this)
end
-- OPT pat = ⟨n, p, ns, rfl, hp, hlen, hn, h3, hall, k⟩
/-- the last step out of v, looked for from behind: none found from place i on -/
theorem outs_top {v : Nat} {ns : List Int} {i j : Nat} (h : ∀ k, i ≤ k → k < i + j → ¬ ns.getD k 0 = (v : Int)) : outsAt v ns (i + j) = outsAt v ns i := by
  induction j with
  | zero => rfl
  | succ j ih =>
    rw [← Nat.add_assoc, outs_no (h (i + j) (by omega) (by omega)), ih fun k a b => h k a (by omega)]
def sp__law_last_leavings (K : PySem.W.Frag) : Sp := fun vs H Q E => ∃ (n : Int) (p : Addr) (ns : List Int), vs = [.int n, .ref p] ∧ Sq K H p (ns.map V.int) ∧ ns.length ≤ 1000000 ∧ (1 ≤ n ∧ n ≤ 40) ∧ 0 < ns.length ∧ (∀ k, k < ns.length → 0 ≤ ns.getD k 0 ∧ ns.getD k 0 < n) ∧ RetT K H Q (lastsOf n.toNat ns)
section
variable {K : PySem.W.Frag} {mg : Str → Option Value} {P : Program} {w : World} {base : Heap}
theorem ok__law_last_leavings (T : Tx K mg) : Okd P w K mg base 1 "_law_last_leavings" ["n", "row"] (sp__law_last_leavings K) := by
  refine Okd.mk' T.g__law_last_leavings T.f__law_last_leavings (fun _ _ _ _ _ _ us hl => match us, hl with | [_, _], _ => rfl) sc__law_last_leavings (fun vs H Q E h => ?_) (fun cdv A outer s H vs Q E hr h => ?_)
  · obtain ⟨n, p, ns, rfl, hp, hlen, hn, h3, hall, k⟩ := h
    rfl
  · obtain ⟨n, p, ns, rfl, hp, hlen, hn, h3, hall, k⟩ := h
    refine ⟨_, (pss_cons (ps_set (i := 2) sc__law_last_leavings.nd rfl (Or.inl rfl) (pe_lst pa_nil))
      (pss_cons (ps_for (passes_of rfl) rfl (pi_range1 (by rfl) T.m_range (pa_cons (pv 0) pa_nil)) (pg_name (i := 3) sc__law_last_leavings.nd rfl (Or.inl rfl)) (pss_cons (ps_set (i := 4) sc__law_last_leavings.nd rfl (Or.inl rfl) pe_non)
      (pss_cons (ps_for (passes_of rfl) rfl (pi_range3 (by rfl) T.m_range (pa_cons (pe_op op_sub (pe_callB (k_ln K) (by rfl) T.m_len bt_len (pa_cons (pv 1) pa_nil)) pe_int) (pa_cons (pe_un un_neg pe_int) (pa_cons (pe_un un_neg pe_int) pa_nil)))) (pg_name (i := 5) sc__law_last_leavings.nd rfl (Or.inl rfl)) (pss_one (ps_if (pt_cmpR (k_same K (hr_units hr)) (pe_ix (k_ix K) (pv 1) (pv 5) (fun _ _ => rfl)) (pv 3) (nomark _)) (pss_cons (ps_set (i := 4) sc__law_last_leavings.nd rfl (Or.inl rfl) (pe_ix (k_ix K) (pv 1) (pe_op (k_plus K) (pv 5) pe_int) (fun _ _ => rfl)))
      (pss_one ps_break)) pss_nil)))
      (pss_one (ps_expr (kp_bm K PySem.F.plainAttrs_list PySem.F.slot_list_append PySem.F.type_list_append mt_append (pv 2) (pa_cons (pv 4) pa_nil)))))))
      (pss_one (ps_ret (pe_callTy (k_tp K) (by rfl) T.m_tuple bt_tuple (pa_cons (pv 2) pa_nil)))))), ?_⟩
    refine start' (σ' := [some _, some _, none, none, none, none]) rfl ?_
    obtain ⟨m, rfl⟩ : ∃ m : Nat, n = m := ⟨n.toNat, by omega⟩
    rw [Int.toNat_natCast] at k
    walk_at "rd"
    refine ⟨le_line (by simp), fun c hc => ?_⟩
    walk_at "rd"
    refine forR1 (n := (m : Int)) (fun R h => ?_) (by omega) (fun i σ H' => ∃ u v w : Option V, σ = [some (.int m), some (.ref p), some (.ref c), u, v, w] ∧ Same H H' ∧ H' c = some (.lst ((List.range i).map fun v => optV (outsAt v ns (ns.length - 1)).getLast?))) ⟨none, none, none, rfl, Rd.Same.new hc, upd_same⟩ ?_ ?_
    · walk_at "rd"
      exact h
    · rintro i σ H1 hi ⟨u, v, w, rfl, s1, e1⟩
      have hp1 := goSq s1 hp
      walk_at "ra"
      with_reducible refine Rd.seq ?_
      refine forRd (a := (ns.length : Int) - 2) (b := -1) (fun R h => ?_) (by omega) (fun j σ H' => ∃ w : Option V, σ = [some (.int m), some (.ref p), some (.ref c), some (.int i), some .non, w] ∧ H' = H1 ∧ (∀ k, ns.length - 1 - j ≤ k → k < ns.length - 1 → ¬ ns.getD k 0 = (i : Int)))
        ⟨w, rfl, rfl, fun k a b => by omega⟩ ?_ ?_
      · walk_at "ra"
        rw [List.length_map]
        exact h
      · rintro j σ H2 hj ⟨w, rfl, rfl, hno⟩
        walk_at "ra"
        refine ixZ (j := ns.length - 2 - j) hp1 (by omega) (by omega) ?_
        walk_at "ra"
        refine ways (fun c1 => ?_) (fun c1 => ?_)
        · walk_at "ra"
          refine ixZ (j := ns.length - 2 - j + 1) hp1 (by omega) (by omega) ?_
          walk_at "ra"
          refine app e1 (sm_le (by rw [tab_len]; omega)) ?_
          walk_at "ra"
          refine ⟨_, _, _, rfl, Rd.Same.own s1 hc, ?_⟩
          rw [upd_same, List.range_succ, List.map_append]
          congr 3
          show [_] = [optV (outsAt i ns (ns.length - 1)).getLast?]
          have e : ns.length - 1 = ns.length - 2 - j + 1 + j := by omega
          rw [e, outs_top (i := ns.length - 2 - j + 1) (j := j) (fun k a b => hno k (by omega) (by omega)), outs_yes c1]
          simp [optV]
        · walk_at "ra"
          refine ⟨_, rfl, rfl, fun k a b => ?_⟩
          by_cases hk : k = ns.length - 2 - j
          · subst hk
            exact c1
          · exact hno k (by omega) b
      · rintro σ H2 ⟨w, rfl, rfl, hno⟩
        walk_at "ra"
        refine app e1 (sm_le (by rw [tab_len]; omega)) ?_
        walk_at "ra"
        refine ⟨_, _, _, rfl, Rd.Same.own s1 hc, ?_⟩
        rw [upd_same, List.range_succ, List.map_append]
        congr 3
        show [_] = [optV (outsAt i ns (ns.length - 1)).getLast?]
        have e : ns.length - 1 = 0 + (ns.length - 1) := by omega
        rw [e, outs_top (i := 0) (j := ns.length - 1) (fun k a b => hno k (by omega) (by omega))]
        rfl
    · rintro σ H1 ⟨u, v, w, rfl, s1, e1⟩
      walk_at "rd"
      refine tupOfL (sqL e1) fun l hl => ?_
      refine k _ l (s1.trans (Rd.Same.new hl)) (sqT ?_)
      rw [upd_same]
      rfl
end
end K59

set_option Elab.async false
set_option linter.all false
set_option maxRecDepth 100000
set_option maxHeartbeats 4000000
namespace K59
open PySem PySem.Spec PyProof.Rows L2 Rd
-- OPT pat = ⟨n, p, ns, rfl, hp, hlen, hn, h3, hall, k⟩
def sp__law_first_comings (K : PySem.W.Frag) : Sp := fun vs H Q E => ∃ (n : Int) (p : Addr) (ns : List Int), vs = [.int n, .ref p] ∧ SqL K H p (ns.map V.int) ∧ ns.length ≤ 1000000 ∧ (1 ≤ n ∧ n ≤ 40) ∧ 0 < ns.length ∧ (∀ k, k < ns.length → 0 ≤ ns.getD k 0 ∧ ns.getD k 0 < n) ∧ RetT K H Q (firstsOf n.toNat ns)
theorem flat_ints (ns : List Int) : (ns.map V.int).all flatV = true := by
  rw [List.all_eq_true]
  intro x hx
  obtain ⟨z, _, rfl⟩ := List.mem_map.mp hx
  rfl
theorem eqV_int (a b : Int) : eqV (.int a) (.int b) = decide (a = b) := by
  show (a == b) = decide (a = b)
  by_cases h : a = b
  · subst h
    simp
  · simp [h]
/-- the first place of v, if any -/
theorem first_place {v : Int} {ns : List Int} : (∃ j, j < ns.length ∧ ns.getD j 0 = v ∧ ∀ k, k < j → ¬ ns.getD k 0 = v) ∨ ∀ k, k < ns.length → ¬ ns.getD k 0 = v := by
  induction ns with
  | nil => exact .inr fun k h => absurd h (by simp)
  | cons a r ih =>
    by_cases h : a = v
    · exact .inl ⟨0, by simp, h, fun k z => absurd z (by omega)⟩
    · rcases ih with ⟨j, h1, h2, h3⟩ | h1
      · refine .inl ⟨j + 1, by simp; omega, by simpa using h2, fun k hk => ?_⟩
        cases k with
        | zero => simpa using h
        | succ k => simpa using h3 k (by omega)
      · refine .inr fun k hk => ?_
        cases k with
        | zero => simpa using h
        | succ k => simpa using h1 k (by simpa using hk)
theorem firstFrom_at {v j : Nat} {ns : List Int} {m : Nat} (hm : m ≤ j) (hj : j < ns.length) (h : ns.getD j 0 = (v : Int)) (h2 : ∀ k, m ≤ k → k < j → ¬ ns.getD k 0 = (v : Int)) : firstFrom v ns m = some (ns.getD (j - 1) 0) := by
  generalize hd : j - m = d
  induction d generalizing m with
  | zero =>
    have e : m = j := by omega
    subst e
    rw [first_step hj, if_pos h]
  | succ d ih =>
    rw [first_step (by omega), if_neg (h2 m (Nat.le_refl _) (by omega))]
    exact ih (by omega) (fun k a b => h2 k (by omega) b) (by omega)
theorem firstFrom_no {v : Nat} {ns : List Int} {m : Nat} (h : ∀ k, m ≤ k → k < ns.length → ¬ ns.getD k 0 = (v : Int)) : firstFrom v ns m = none := by
  generalize hd : ns.length - m = d
  induction d generalizing m with
  | zero =>
    unfold firstFrom
    rw [hd]
    rfl
  | succ d ih =>
    rw [first_step (by omega), if_neg (h m (Nat.le_refl _) (by omega))]
    exact ih (fun k a b => h k (by omega) b) (by omega)
theorem inV_ints {v : Int} {ns : List Int} : inV (.int v) (ns.map V.int) = true ↔ ∃ k, k < ns.length ∧ ns.getD k 0 = v := by
  unfold inV
  rw [List.any_eq_true]
  refine ⟨fun ⟨x, hx, e⟩ => ?_, fun ⟨k, hk, e⟩ => ⟨.int v, ?_, by rw [eqV_int]; simp⟩⟩
  · obtain ⟨z, hz, rfl⟩ := List.mem_map.mp hx
    rw [eqV_int] at e
    have e := of_decide_eq_true e
    obtain ⟨k, hk, hz⟩ := List.mem_iff_getElem.mp hz
    exact ⟨k, hk, by simp [List.getD, hk, hz, e]⟩
  · rw [List.mem_map]
    refine ⟨v, ?_, rfl⟩
    rw [← e]
    simp [List.getD, hk]
section
variable {K : PySem.W.Frag} {mg : Str → Option Value} {P : Program} {w : World} {base : Heap}
theorem ok__law_first_comings (T : Tx K mg) : Okd P w K mg base 1 "_law_first_comings" ["n", "row"] (sp__law_first_comings K) := by
  refine Okd.mk' T.g__law_first_comings T.f__law_first_comings (fun _ _ _ _ _ _ us hl => match us, hl with | [_, _], _ => rfl) sc__law_first_comings (fun vs H Q E h => ?_) (fun cdv A outer s H vs Q E hr h => ?_)
  · obtain ⟨n, p, ns, rfl, hp, hlen, hn, h3, hall, k⟩ := h
    rfl
  · obtain ⟨n, p, ns, rfl, hp, hlen, hn, h3, hall, k⟩ := h
    refine ⟨_, (pss_cons (ps_set (i := 2) sc__law_first_comings.nd rfl (Or.inl rfl) (pe_lst pa_nil))
      (pss_cons (ps_for (passes_of rfl) rfl (pi_range1 (by rfl) T.m_range (pa_cons (pv 0) pa_nil)) (pg_name (i := 3) sc__law_first_comings.nd rfl (Or.inl rfl)) (pss_cons (ps_set (i := 4) sc__law_first_comings.nd rfl (Or.inl rfl) pe_non)
      (pss_cons (ps_if (PW.pt (pw_and (pt_cmpR (k_in K) (pv 3) (pv 1) rfl) (pw_and1 (pt_cmpR (k_unlike K (hr_units hr)) (pv 3) (pe_ix (k_ix K) (pv 1) pe_int (fun _ _ => rfl)) (nomark _))))) (pss_one (ps_set (i := 4) sc__law_first_comings.nd rfl (Or.inl rfl) (pe_ix (k_ix K) (pv 1) (pe_op op_sub (kp_bm K PySem.F.plainAttrs_list PySem.F.slot_list_index PySem.F.type_list_index (k_index K) (pv 1) (pa_cons (pv 3) pa_nil)) pe_int) (fun _ _ => rfl)))) pss_nil)
      (pss_one (ps_expr (kp_bm K PySem.F.plainAttrs_list PySem.F.slot_list_append PySem.F.type_list_append mt_append (pv 2) (pa_cons (pv 4) pa_nil)))))))
      (pss_one (ps_ret (pe_callTy (k_tp K) (by rfl) T.m_tuple bt_tuple (pa_cons (pv 2) pa_nil)))))), ?_⟩
    refine start' (σ' := [some _, some _, none, none, none]) rfl ?_
    obtain ⟨m, rfl⟩ : ∃ m : Nat, n = m := ⟨n.toNat, by omega⟩
    rw [Int.toNat_natCast] at k
    walk_at "rd"
    refine ⟨le_line (by simp), fun c hc => ?_⟩
    walk_at "rd"
    refine forR1 (n := (m : Int)) (fun R h => ?_) (by omega) (fun i σ H' => ∃ u v : Option V, σ = [some (.int m), some (.ref p), some (.ref c), u, v] ∧ Same H H' ∧ H' c = some (.lst (firstsOf i ns))) ⟨none, none, rfl, Rd.Same.new hc, upd_same⟩ ?_ ?_
    · walk_at "rd"
      exact h
    · rintro i σ H1 hi ⟨u, v, rfl, s1, e1⟩
      have hp1 := goSqL s1 hp
      have fin : ∀ x : V, x = (if ns.getD 0 0 = (i : Int) then V.non else optV (firstFrom i ns 1)) → upd H1 c (.lst (firstsOf i ns ++ [x])) c = some (.lst (firstsOf (i + 1) ns)) := by
        intro x hx
        rw [upd_same, hx]
        unfold firstsOf
        rw [List.range_succ, List.map_append]
        rfl
      have hl : (firstsOf i ns).length < sizeLine := sm_le (by unfold firstsOf; rw [tab_len]; omega)
      walk_at "ra"
      with_reducible refine Rd.seq ?_
      walk_at "ra"
      refine ⟨p, ns.map V.int, rfl, .inl hp1, rfl, flat_ints ns, ?_⟩
      walk_at "ra"
      refine bways (b := inV (.int (i : Int)) (ns.map V.int)) (fun c1 => ?_) (fun c1 => ?_)
      · have c1 : ∃ k, k < ns.length ∧ ns.getD k 0 = (i : Int) := inV_ints.mp c1
        walk_at "ra"
        refine ixZ (j := 0) (.inl hp1) (by omega) (by omega) ?_
        walk_at "ra"
        refine nways (fun c2 => ?_) (fun c2 => ?_)
        · walk_at "ra"
          refine Rd.tyL hp1 ?_
          walk_at "ra"
          rcases first_place (v := (i : Int)) (ns := ns) with ⟨j, h1, h2, hb⟩ | h1
          · have hj1 : 1 ≤ j := by
              rcases Nat.eq_zero_or_pos j with z | z
              · subst z
                exact absurd h2.symm c2
              · exact z
            refine ⟨p, ns.map V.int, .int i, j, .int (ns.getD j 0), rfl, rfl, hp1, rfl, flat_ints ns, intsAt h1, by rw [eqV_int, h2]; simp, fun k z hk hz => ?_, ?_⟩
            · have := intsAt (ns := ns) (j := k) (by omega)
              obtain rfl := Option.some.inj (hz.symm.trans this)
              rw [eqV_int]
              exact decide_eq_false (hb k hk)
            · walk_at "ra"
              refine ixZ (j := j - 1) (.inl hp1) (by omega) (by omega) ?_
              walk_at "ra"
              refine app e1 hl ?_
              walk_at "ra"
              refine ⟨_, _, rfl, Rd.Same.own s1 hc, fin _ ?_⟩
              rw [if_neg (fun z => c2 z.symm), firstFrom_at hj1 h1 h2 fun k _ b => hb k b]
              rfl
          · obtain ⟨k, hk, e⟩ := c1
            exact absurd e (h1 k hk)
        · walk_at "ra"
          refine app e1 hl ?_
          walk_at "ra"
          refine ⟨_, _, rfl, Rd.Same.own s1 hc, fin _ ?_⟩
          rw [if_pos c2.symm]
      · have c1 : ∀ k, k < ns.length → ¬ ns.getD k 0 = (i : Int) := fun k hk e => by
          have := inV_ints.mpr ⟨k, hk, e⟩
          have c1 : inV (.int (i : Int)) (ns.map V.int) = false := c1
          rw [c1] at this
          cases this
        walk_at "ra"
        refine app e1 hl ?_
        walk_at "ra"
        refine ⟨_, _, rfl, Rd.Same.own s1 hc, fin _ ?_⟩
        rw [if_neg (c1 0 (by omega)), firstFrom_no fun k _ b => c1 k b]
        rfl
    · rintro σ H1 ⟨u, v, rfl, s1, e1⟩
      walk_at "rd"
      refine tupOfL (sqL e1) fun l hl => ?_
      refine k _ l (s1.trans (Rd.Same.new hl)) (sqT ?_)
      rw [upd_same]
      rfl
end
end K59

set_option Elab.async false
set_option linter.all false
set_option maxRecDepth 100000
set_option maxHeartbeats 4000000
namespace K59
open PySem PySem.Spec PyProof.Rows L2 Rd
-- OPT pat = ⟨H0, a, n, U, rfl, st, hn, hU, k⟩
def WalkOk (n : Int) (ms : List Int) : Prop := 0 < ms.length ∧ ms.length ≤ 1001 ∧ ∀ v, v ∈ ms → 0 ≤ v ∧ v < n
def sp__law_walked (K : PySem.W.Frag) : Sp := fun vs H Q E => ∃ (H0 : Hp) (a : Addr) (n : Int) (U : Nat), vs = [.ref a, .int n] ∧ Sto H0 H a U ∧ (1 ≤ n ∧ n ≤ 40) ∧ U + 5010 ≤ 1000000000000 ∧ RetW H0 H a (U + 5000) (WalkOk n) Q
theorem lstRg1 {σ : L2.St} {H : Hp} {Q : VK} {ta : TE} {n : Int} (hv : ∀ R : VK, R (.int n) H → ta σ H R) (h0 : 0 ≤ n) (h1 : n ≤ 1000) (q : ∀ l, H l = none → Q (.ref l) (upd H l (.lst (((List.range n.toNat).map fun (i : Nat) => (i : Int)).map V.int)))) : tLstRg (tRg1 ta) σ H Q := by
  refine hv _ ⟨n, rfl, RgOk.of_le (by omega) (by omega) (by omega) (by omega), fun l hl => ?_⟩
  have e : rgV 0 n = ((List.range n.toNat).map fun (i : Nat) => (i : Int)).map V.int := by
    unfold rgV
    rw [List.map_map, Int.sub_zero]
    refine List.map_congr_left fun i _ => ?_
    show V.int (0 + (i : Int)) = V.int (i : Int)
    rw [Int.zero_add]
  rw [e]
  exact q l hl
theorem wrap_ix (k : Nat) (l : Nat) : (k : Int) - (k : Int) / (l : Int) * (l : Int) = ((k % l : Nat) : Int) := by
  rw [Int.mul_comm, ← Int.emod_def, Int.natCast_emod]
section
variable {K : PySem.W.Frag} {mg : Str → Option Value} {P : Program} {w : World} {base : Heap}
theorem ok__law_walked (T : Tx K mg) : Okd P w K mg base 4 "_law_walked" ["store", "n"] (sp__law_walked K) := by
  have c__law_shuffled := ok__law_shuffled (P := P) (w := w) (base := base) T
  have c__law_take := ok__law_take (P := P) (w := w) (base := base) T
  have c__law_trail := ok__law_trail (P := P) (w := w) (base := base) T
  refine Okd.mk' T.g__law_walked T.f__law_walked (fun _ _ _ _ _ _ us hl => match us, hl with | [_, _], _ => rfl) sc__law_walked (fun vs H Q E h => ?_) (fun cdv A outer s H vs Q E hr h => ?_)
  · obtain ⟨H0, a, n, U, rfl, st, hn, hU, k⟩ := h
    rfl
  · obtain ⟨H0, a, n, U, rfl, st, hn, hU, k⟩ := h
    refine ⟨_, (pss_cons (ps_set (i := 2) sc__law_walked.nd rfl (Or.inl rfl) (pe_def c__law_take (hr.mono (by decide)) (takes_of rfl rfl rfl rfl) rfl (pa_cons (pv 0) (pa_cons pe_int pa_nil))))
      (pss_cons (ps_set (i := 3) sc__law_walked.nd rfl (Or.inr rfl) (pe_def c__law_take (hr.mono (by decide)) (takes_of rfl rfl rfl rfl) rfl (pa_cons (pv 0) (pa_cons (pv 1) pa_nil))))
      (pss_cons (ps_if (pt_cmpR (k_same K (hr_units hr)) (pv 2) pe_int (nomark _)) (pss_cons (ps_set (i := 4) sc__law_walked.nd rfl (Or.inl rfl) (pe_op (k_plus K) pe_int (pe_def c__law_take (hr.mono (by decide)) (takes_of rfl rfl rfl rfl) rfl (pa_cons (pv 0) (pa_cons pe_int pa_nil)))))
      (pss_one (ps_ret (pe_op (k_plus K) (pe_lc (own := [("k", 6)]) rfl sc__law_walked.nd (pi_range1 (by rfl) T.m_range (pa_cons (pe_op (k_plus K) (pv 4) pe_int) pa_nil)) (blkOk_by (own := [("k", 6)]) (N := ["store", "n", "kind", "begin", "legs", "order", "k"]) (sc := defScope s__law_walked) (by decide +kernel)) (fun _ _ _ _ _ => (pg_name (i := 6) sc__law_walked.nd rfl (Or.inl rfl))) (fun _ _ _ _ _ => pts_nil) (fun _ _ _ _ _ => (pv 3))) (pe_lst (pa_cons (pe_def c__law_take (hr.mono (by decide)) (takes_of rfl rfl rfl rfl) rfl (pa_cons (pv 0) (pa_cons (pv 1) pa_nil))) pa_nil)))))) pss_nil)
      (pss_cons (ps_if (pt_cmpR op_lt (pv 2) pe_int (nomark _)) (pss_cons (ps_set (i := 5) sc__law_walked.nd rfl (Or.inr rfl) (pe_or2 (pe_slice (k_sll K) (pe_def c__law_shuffled (hr.mono (by decide)) (takes_of rfl rfl rfl rfl) rfl (pa_cons (pv 0) (pa_cons (pe_listRg rfl (by rfl) T.m_list (prg_1 (by rfl) T.m_range (pv 1))) pa_nil))) po_none (po_some (pe_op (k_plus K) pe_int (pe_def c__law_take (hr.mono (by decide)) (takes_of rfl rfl rfl rfl) rfl (pa_cons (pv 0) (pa_cons pe_int pa_nil)))))) (pe_slice (k_slt K) (pe_def c__law_shuffled (hr.mono (by decide)) (takes_of rfl rfl rfl rfl) rfl (pa_cons (pv 0) (pa_cons (pe_listRg rfl (by rfl) T.m_list (prg_1 (by rfl) T.m_range (pv 1))) pa_nil))) po_none (po_some (pe_op (k_plus K) pe_int (pe_def c__law_take (hr.mono (by decide)) (takes_of rfl rfl rfl rfl) rfl (pa_cons (pv 0) (pa_cons pe_int pa_nil))))))))
      (pss_cons (ps_set (i := 4) sc__law_walked.nd rfl (Or.inl rfl) (pe_op (k_plus K) pe_int (pe_def c__law_take (hr.mono (by decide)) (takes_of rfl rfl rfl rfl) rfl (pa_cons (pv 0) (pa_cons (pe_ix (k_ix K) (pe_lst (pa_cons pe_int (pa_cons pe_int pa_nil))) (pe_op op_sub (pv 2) pe_int) (fun _ _ => rfl)) pa_nil)))))
      (pss_one (ps_ret (pe_lc (own := [("k", 6)]) rfl sc__law_walked.nd (pi_range1 (by rfl) T.m_range (pa_cons (pe_op (k_plus K) (pv 4) pe_int) pa_nil)) (blkOk_by (own := [("k", 6)]) (N := ["store", "n", "kind", "begin", "legs", "order", "k"]) (sc := defScope s__law_walked) (by decide +kernel)) (fun _ _ _ _ _ => (pg_name (i := 6) sc__law_walked.nd rfl (Or.inl rfl))) (fun _ _ _ _ _ => pts_nil) (fun _ _ _ _ _ => (pe_ix (k_ix K) (pv 5) (pe_op op_sub (pv 6) (pe_op op_times (pe_op op_fdivW (pv 6) (pe_callB (k_ln K) (by rfl) T.m_len bt_len (pa_cons (pv 5) pa_nil))) (pe_callB (k_ln K) (by rfl) T.m_len bt_len (pa_cons (pv 5) pa_nil)))) (fun _ _ => rfl)))))))) pss_nil)
      (pss_cons (ps_if (pt_cmpR (k_same K (hr_units hr)) (pv 2) pe_int (nomark _)) (pss_one (ps_ret (pe_def c__law_trail (hr.mono (by decide)) (takes_of rfl rfl rfl rfl) rfl (pa_cons (pv 0) (pa_cons (pv 1) (pa_cons (pv 3) (pa_cons pe_int (pa_cons pe_int pa_nil)))))))) pss_nil)
      (pss_one (ps_ret (pe_def c__law_trail (hr.mono (by decide)) (takes_of rfl rfl rfl rfl) rfl (pa_cons (pv 0) (pa_cons (pv 1) (pa_cons (pv 3) (pa_cons pe_int (pa_cons pe_int pa_nil))))))))))))), ?_⟩
    refine start' (σ' := [some _, some _, none, none, none, none, none]) rfl ?_
    walk_at "ra"
    refine ⟨H0, a, 12, U, rfl, st, by decide, by omega, fun kd H1 b1 st1 hv1 => ?_⟩
    walk_at "ra"
    refine ⟨H0, a, n, U + 1, rfl, st1, by omega, by omega, fun bg H2 b2 st2 hv2 => ?_⟩
    have hbg : 0 ≤ bg ∧ bg < n := by
      have h1 := hv2.1
      have h2 := hv2.2
      omega
    have b02 : But a H H2 := b1.trans b2
    walk_at "ra"
    with_reducible refine Rd.seq ?_
    walk_at "ra"
    refine ways (fun c => ?_) (fun c => ?_)
    · walk_at "ra"
      refine ⟨H0, a, 3, U + 2, rfl, st2, by decide, by omega, fun lg H3 b3 st3 hv3 => ?_⟩
      have hlg : 0 ≤ lg ∧ lg < 3 := by
        have h1 := hv3.1
        have h2 := hv3.2
        omega
      walk_at "ra"
      refine lcR1 (n := 59 + lg + 1) (fun R h => ?_) (by omega) (fun _ => .int bg) (fun _ => rfl) ?_ ?_
      · walk_at "ra"
        exact h
      · intro v H5 R hv s5 hR
        walk_at "ra"
        exact hR H5 (Same.refl H5)
      · intro H4 g s4 hg eg
        have nga : g ≠ a := by
          obtain ⟨xs, e⟩ := st3.at
          exact Ne.symm (ne_of_none e hg)
        walk_at "ra"
        refine ⟨H0, a, n, U + 3, rfl, st3.go s4, by omega, by omega, fun v5 H5 b5 st5 hv5 => ?_⟩
        have eg5 : H5 g = some (.lst ((List.range (59 + lg + 1).toNat).map fun _ => V.int bg)) := b5 g _ nga eg
        walk_at "ra"
        refine ⟨le_line (by simp), fun t ht => ?_⟩
        have st6 : Sto H0 (upd H5 t (.lst [.int v5])) a (U + 4) := st5.go (Rd.Same.new ht)
        have eg6 := Rd.Same.new (o := .lst [.int v5]) ht g _ eg5
        walk_at "ra"
        refine plusL eg6 upd_same (by simp; exact le_line (by omega)) fun r hr => ?_
        walk_at "ra"
        have bb : But a H (upd H5 t (.lst [.int v5])) := (((b02.trans b3).trans (But.of s4)).trans b5).trans (But.of (Rd.Same.new ht))
        have nra : r ≠ a := by
          obtain ⟨xs, e⟩ := st6.at
          exact Ne.symm (ne_of_none e hr)
        refine k r (List.replicate (59 + lg + 1).toNat bg ++ [v5]) _ (bb.trans (But.of (Rd.Same.new hr))) ((st6.go (Rd.Same.new hr)).more (by omega)) (bb.free nra hr) ?_ ⟨by simp, by simp; omega, fun v hv => ?_⟩
        · rw [upd_same, List.map_append, List.map_replicate]
          congr 3
          exact List.eq_replicate_iff.mpr ⟨by simp, fun b hb => by obtain ⟨_, _, e⟩ := List.mem_map.mp hb; exact e.symm⟩
        · rcases List.mem_append.mp hv with h | h
          · rw [(List.mem_replicate.mp h).2]
            exact hbg
          · rw [List.mem_singleton.mp h]
            have h1 := hv5.1
            have h2 := hv5.2
            omega
    · walk_at "ra"
      with_reducible refine Rd.seq ?_
      walk_at "ra"
      refine ways (fun c2 => ?_) (fun c2 => ?_)
      · have hkd : kd = 1 ∨ kd = 2 := by
          have h1 := hv1.1
          omega
        walk_at "ra"
        refine Or.inl ?_
        walk_at "ra"
        refine lstRg1 (n := n) (fun R h => ⟨_, rfl, h⟩) (by omega) (by omega) fun l hl => ?_
        have st3 := st2.go (Rd.Same.new (o := .lst (((List.range n.toNat).map fun (i : Nat) => (i : Int)).map V.int)) hl)
        walk_at "ra"
        refine ⟨H0, a, l, _, U + 2, rfl, st3, .inl (sqL upd_same), by simp; omega, by omega, fun o ms H4 b4 st4 ho eo pm => ?_⟩
        have bb4 : But a H H4 := (b02.trans (But.of (Rd.Same.new hl))).trans b4
        have noa : o ≠ a := by
          obtain ⟨xs, e⟩ := st3.at
          exact Ne.symm (ne_of_none e ho)
        walk_at "ra"
        refine ⟨H0, a, 3, U + 1002, rfl, st4, by decide, by omega, fun w5 H5 b5 st5 hv5 => ?_⟩
        have hw5 : 0 ≤ w5 ∧ w5 < 3 := by
          have h1 := hv5.1
          have h2 := hv5.2
          omega
        have eo5 := b5 o _ noa eo
        walk_at "ra"
        refine slL (sqL eo5) fun q hq => ?_
        obtain ⟨w, rfl⟩ : ∃ w : Nat, w5 = w := ⟨w5.toNat, by omega⟩
        have ecut : cutV (ms.map V.int) none (some (5 + (w : Int))) = (ms.take (5 + w)).map V.int := by
          rw [List.map_take]
          exact cut_to _ (5 + w)
        rw [ecut]
        generalize hos : ms.take (5 + w) = os
        have hol : 1 ≤ os.length ∧ os.length ≤ 7 := by
          have := pm.1
          rw [List.length_map, List.length_range] at this
          rw [← hos, List.length_take]
          omega
        have hom : ∀ v, v ∈ os → 0 ≤ v ∧ v < n := fun v hv => by
          rw [← hos] at hv
          have := pm.2 v (List.mem_of_mem_take hv)
          obtain ⟨i, hi, rfl⟩ := List.mem_map.mp this
          have := List.mem_range.mp hi
          omega
        have bb6 : But a H (upd H5 q (.lst (os.map V.int))) := (bb4.trans b5).trans (But.of (Rd.Same.new hq))
        have st6 : Sto H0 (upd H5 q (.lst (os.map V.int))) a (U + 1003) := st5.go (Rd.Same.new hq)
        have nqa : q ≠ a := by
          obtain ⟨xs, e⟩ := st5.at
          exact Ne.symm (ne_of_none e hq)
        have eq6 : upd H5 q (.lst (os.map V.int)) q = some (.lst (os.map V.int)) := upd_same
        generalize upd H5 q (.lst (os.map V.int)) = H6 at bb6 st6 eq6 ⊢
        walk_at "ra"
        refine ⟨le_line (by simp), fun u hu => ?_⟩
        walk_at "ra"
        obtain ⟨mm, hmm, hix⟩ : ∃ mm : Int, (mm = 3 ∨ mm = 700) ∧ atI [V.int 3, V.int 700] (kd - 1) = some (.int mm) := by
          rcases hkd with e | e
          · exact ⟨3, .inl rfl, by rw [e]; rfl⟩
          · exact ⟨700, .inr rfl, by rw [e]; rfl⟩
        refine ixL (sqL upd_same) hix ?_
        have st7 : Sto H0 (upd H6 u (.lst [.int 3, .int 700])) a (U + 1003) := st6.go (Rd.Same.new hu)
        walk_at "ra"
        refine ⟨H0, a, mm, U + 1003, rfl, st7, by omega, by omega, fun lg H8 b8 st8 hv8 => ?_⟩
        have hlg : 0 ≤ lg ∧ lg < 700 := by
          have h1 := hv8.1
          have h2 := hv8.2
          omega
        have eq8 : H8 q = some (.lst (os.map V.int)) := b8 q _ nqa (Rd.Same.new hu q _ eq6)
        have bb8 : But a H H8 := (bb6.trans (But.of (Rd.Same.new hu))).trans b8
        walk_at "ra"
        refine lcR1 (n := 299 + lg + 1) (fun R h => ?_) (by omega) (fun i => .int (os.getD (i % os.length) 0)) (fun _ => rfl) ?_ ?_
        · walk_at "ra"
          exact h
        · intro i H9 R hi s9 hR
          have eq9 := s9 q _ eq8
          walk_at "ra"
          rw [List.length_map]
          have lo : Lg (os.length : Int) := lg_small (by omega) (by omega)
          refine fdv (by omega) (Nat.lt_of_le_of_lt (log2_le (k := 3) (by omega)) (by omega)) ?_
          walk_at "ra"
          rw [List.length_map]
          have li : Lg ((i : Int) / (os.length : Int)) := lg_small (Int.ediv_nonneg (by omega) (by omega)) (Int.le_trans (Int.ediv_le_self _ (by omega)) (by omega))
          walk_at "ra"
          refine ixZ (j := i % os.length) (.inl (sqL eq9)) (wrap_ix _ _) (Nat.mod_lt _ (by omega)) ?_
          exact hR H9 (Same.refl H9)
        · intro H9 r s9 hr er
          walk_at "ra"
          have nra : r ≠ a := by
            obtain ⟨xs, e⟩ := st8.at
            exact Ne.symm (ne_of_none e hr)
          refine k r ((List.range (299 + lg + 1).toNat).map fun i => os.getD (i % os.length) 0) H9 (bb8.trans (But.of s9)) ((st8.go s9).more (by omega)) (bb8.free nra hr) (by rw [er, List.map_map]; rfl) ⟨by simp; omega, by simp; omega, fun v hv => ?_⟩
          obtain ⟨i, _, rfl⟩ := List.mem_map.mp hv
          exact hom _ (by
            have := Nat.mod_lt i (show 0 < os.length by omega)
            simp [List.getD, this])
      · have cont : ∀ (Q' : VK) (most top : Int), 1 ≤ most → most ≤ 300 → Q' = Q → sp__law_trail K [.ref a, .int n, .int bg, .int most, .int top] H2 Q' E := fun Q' most top h1 h2 e => by
          subst e
          exact ⟨H0, a, n, bg, most, top, U + 2, rfl, st2, hn, hbg, ⟨h1, h2⟩, by omega, fun r ms H' b s hr er p => k r ms H' (b02.trans b) (s.more (by omega)) (b02.free (by
            obtain ⟨xs, e⟩ := st2.at
            exact Ne.symm (ne_of_none e hr)) hr) er ⟨p.1, by omega, p.2.2⟩⟩
        walk_at "ra"
        with_reducible refine Rd.seq ?_
        walk_at "ra"
        refine ways (fun c3 => ?_) (fun c3 => ?_)
        · walk_at "ra"
          exact cont _ 300 60 (by decide) (by decide) rfl
        · walk_at "ra"
          exact cont _ 12 60 (by decide) (by decide) rfl
end
end K59

set_option Elab.async false
set_option linter.all false
set_option maxRecDepth 100000
set_option maxHeartbeats 4000000
namespace K59
open PySem PySem.Spec PyProof.Rows L2 Rd
-- OPT pat = ⟨x, y, rfl, al, k⟩
-- OPT rec = 1
/-- the same data: words, numbers, None, or rows of such -/
def Al (K : PySem.W.Frag) : Nat → Hp → V → V → Prop
  | 0, _, _, _ => False
  | d + 1, H, x, y => (x = y ∧ (x = .non ∨ (∃ i, x = .int i) ∨ ∃ s, x = .str s)) ∨ ∃ (a b : Addr) (xs ys : List V), x = .ref a ∧ y = .ref b ∧ SqT K H a xs ∧ SqT K H b ys ∧ xs.length = ys.length ∧ xs.length ≤ 1000000 ∧ ∀ (i : Nat) (u v : V), xs[i]? = some u → ys[i]? = some v → Al K d H u v
theorem Al.go {K : PySem.W.Frag} {H H' : Hp} (s : Same H H') : ∀ {d : Nat} {x y : V}, Al K d H x y → Al K d H' x y
  | 0, _, _, h => h.elim
  | d + 1, _, _, .inl h => .inl h
  | d + 1, _, _, .inr ⟨a, b, xs, ys, e1, e2, h1, h2, l1, l2, h⟩ => .inr ⟨a, b, xs, ys, e1, e2, goSqT s h1, goSqT s h2, l1, l2, fun i u v p q => Al.go s (h i u v p q)⟩
def sp__law_alike (K : PySem.W.Frag) : Nat → Sp
  | 0 => fun _ _ _ _ => False
  | d + 1 => fun vs H Q E => ∃ x y : V, vs = [x, y] ∧ Al K (d + 1) H x y ∧ ∀ H', Same H H' → Q (.bl true) H'
theorem al_call {K : PySem.W.Frag} {d : Nat} {x y : V} {H : Hp} {Q : VK} {E : XK} (al : Al K d H x y) (k : ∀ H', Same H H' → Q (.bl true) H') : sp__law_alike K d [x, y] H Q E := by
  cases d with
  | zero => exact al.elim
  | succ d => exact ⟨x, y, rfl, al, k⟩
section
variable {K : PySem.W.Frag} {mg : Str → Option Value} {P : Program} {w : World} {base : Heap}
theorem stp__law_alike (T : Tx K mg) {d : Nat} (c__law_alike : Okd P w K mg base (d + 1) "_law_alike" ["actual", "due"] (sp__law_alike K d)) : Okd P w K mg base (d + 2) "_law_alike" ["actual", "due"] (sp__law_alike K (d + 1)) := by
  refine Okd.mk' T.g__law_alike T.f__law_alike (fun _ _ _ _ _ _ us hl => match us, hl with | [_, _], _ => rfl) sc__law_alike (fun vs H Q E h => ?_) (fun cdv A outer s H vs Q E hr h => ?_)
  · obtain ⟨x, y, rfl, al, k⟩ := h
    rfl
  · obtain ⟨x, y, rfl, al, k⟩ := h
    refine ⟨_, (pss_cons (ps_if (pt_val (pe_callB (k_isi K) (by rfl) T.m_isinstance bt_isinstance (pa_cons (pv 1) (pa_cons (pe_bltn (v := .ty "tuple") (by rfl) T.m_tuple bt_tuple rfl) pa_nil)))) (pss_cons (ps_if (PW.pt (pw_or (pt_not (pt_val (pe_callB (k_isi K) (by rfl) T.m_isinstance bt_isinstance (pa_cons (pv 0) (pa_cons (pe_bltn (v := .ty "tuple") (by rfl) T.m_tuple bt_tuple rfl) pa_nil))))) (pw_or1 (pt_cmpR (k_unlike K (hr_units hr)) (pe_callB (k_ln K) (by rfl) T.m_len bt_len (pa_cons (pv 0) pa_nil)) (pe_callB (k_ln K) (by rfl) T.m_len bt_len (pa_cons (pv 1) pa_nil)) (nomark _))))) (pss_one (ps_ret pe_bl)) pss_nil)
      (pss_one (ps_ret (pe_cmpR (k_notin K) pe_bl (pe_lc (own := [("k", 2)]) rfl sc__law_alike.nd (pi_range1 (by rfl) T.m_range (pa_cons (pe_callB (k_ln K) (by rfl) T.m_len bt_len (pa_cons (pv 1) pa_nil)) pa_nil)) (blkOk_by (own := [("k", 2)]) (N := ["actual", "due", "k"]) (sc := defScope s__law_alike) (by decide +kernel)) (fun _ _ _ _ _ => (pg_name (i := 2) sc__law_alike.nd rfl (Or.inl rfl))) (fun _ _ _ _ _ => pts_nil) (fun _ _ _ _ _ => (pe_def c__law_alike (hr.mono (by omega)) takes0 rfl (pa_cons (pe_ix (k_ix K) (pv 0) (pv 2) (fun _ _ => rfl)) (pa_cons (pe_ix (k_ix K) (pv 1) (pv 2) (fun _ _ => rfl)) pa_nil))))) rfl)))) pss_nil)
      (pss_cons (ps_if (PW.pt (pw_or (pt_cmpR op_isNo (pv 1) pe_non (nomark _)) (pw_or1 (pt_cmpR op_isNo (pv 0) pe_non (nomark _))))) (pss_one (ps_ret (pe_and (pe_cmpR op_isNo (pv 1) pe_non (nomark _)) (pe_one (pe_cmpR op_isNo (pv 0) pe_non (nomark _)))))) pss_nil)
      (pss_cons (ps_if (pt_val (pe_callB (k_isi K) (by rfl) T.m_isinstance bt_isinstance (pa_cons (pv 1) (pa_cons (pe_bltn (v := .ty "str") (by rfl) T.m_str bt_str rfl) pa_nil)))) (pss_one (ps_ret (pe_and (pe_callB (k_isi K) (by rfl) T.m_isinstance bt_isinstance (pa_cons (pv 0) (pa_cons (pe_bltn (v := .ty "str") (by rfl) T.m_str bt_str rfl) pa_nil))) (pe_one (pe_cmpR (k_same K (hr_units hr)) (pv 0) (pv 1) (nomark _)))))) pss_nil)
      (pss_one (ps_ret (pe_and (pe_callB (k_isi K) (by rfl) T.m_isinstance bt_isinstance (pa_cons (pv 0) (pa_cons (pe_bltn (v := .ty "int") (by rfl) T.m_int bt_int rfl) pa_nil))) (pe_and (pe_not (pe_callB (k_isi K) (by rfl) T.m_isinstance bt_isinstance (pa_cons (pv 0) (pa_cons (pe_bltn (v := .ty "bool") (by rfl) T.m_bool bt_bool rfl) pa_nil)))) (pe_one (pe_cmpR (k_same K (hr_units hr)) (pv 0) (pv 1) (nomark _)))))))))), ?_⟩
    refine start' (σ' := [some _, some _, none]) rfl ?_
    rcases al with ⟨rfl, rfl | ⟨i, rfl⟩ | ⟨z, rfl⟩⟩ | ⟨a, b, xs, ys, rfl, rfl, hx, hy, ll, lm, hall⟩
    · walk_at "rd"
      refine isiV (.base .non) (b := false) (by decide +kernel) ?_
      walk_at "rd"
      refine dyes rfl ?_
      walk_at "rd"
      refine dyes rfl ?_
      walk_at "rd"
      exact k H (Same.refl H)
    · walk_at "rd"
      refine isiV (.base (.int i)) (b := false) (by decide +kernel) ?_
      walk_at "rd"
      refine dno (by intro z; cases z) ?_
      walk_at "rd"
      refine dno (by intro z; cases z) ?_
      walk_at "rd"
      refine isiV (.base (.int i)) (b := false) (by decide +kernel) ?_
      walk_at "rd"
      refine isiV (.base (.int i)) (b := true) (by decide +kernel) ?_
      walk_at "rd"
      refine isiV (.base (.int i)) (b := false) (by decide +kernel) ?_
      walk_at "rd"
      have e : decide (i = i) = true := decide_eq_true rfl
      rw [e]
      exact k H (Same.refl H)
    · walk_at "rd"
      refine isiV (.base (.str z)) (b := false) (by decide +kernel) ?_
      walk_at "rd"
      refine dno (by intro z; cases z) ?_
      walk_at "rd"
      refine dno (by intro z; cases z) ?_
      walk_at "rd"
      refine isiV (.base (.str z)) (b := true) (by decide +kernel) ?_
      walk_at "rd"
      refine isiV (.base (.str z)) (b := true) (by decide +kernel) ?_
      walk_at "rd"
      refine eqv rfl ?_
      have e : decide (V.str z = V.str z) = true := decide_eq_true rfl
      rw [e]
      exact k H (Same.refl H)
    · walk_at "rd"
      refine isiV (tyTup hy) (b := true) (by decide +kernel) ?_
      walk_at "rd"
      refine isiV (tyTup hx) (b := true) (by decide +kernel) ?_
      walk_at "rd"
      refine lcR1 (n := (ys.length : Int)) (fun R h => ?_) (by omega) (fun _ => .bl true) (fun _ => rfl) ?_ ?_
      · walk_at "rd"
        exact h
      · intro j H1 R hj s1 hR
        walk_at "rd"
        have hxj : xs[j]? = some xs[j] := List.getElem?_eq_getElem (by omega)
        have hyj : ys[j]? = some ys[j] := List.getElem?_eq_getElem (by omega)
        refine ixT (goSqT s1 hx) (atN hxj) ?_
        walk_at "rd"
        refine ixT (goSqT s1 hy) (atN hyj) ?_
        walk_at "rd"
        exact al_call ((hall j _ _ hxj hyj).go s1) hR
      · intro H1 D s1 hD hd
        walk_at "rd"
        refine ⟨D, _, rfl, .inl (sqL hd), rfl, ?_, ?_⟩
        · rw [List.all_eq_true]
          intro u hu
          obtain ⟨_, _, rfl⟩ := List.mem_map.mp hu
          rfl
        · have e : inV (.bl false) ((List.range ((ys.length : Int)).toNat).map fun _ => V.bl true) = false := by
            unfold inV
            rw [List.any_eq_false]
            intro u hu
            obtain ⟨_, _, rfl⟩ := List.mem_map.mp hu
            intro z
            cases z
          rw [e]
          exact k H1 s1
theorem okd__law_alike (T : Tx K mg) : ∀ d : Nat, Okd P w K mg base (d + 1) "_law_alike" ["actual", "due"] (sp__law_alike K d)
  | 0 => Okd.mk' T.g__law_alike T.f__law_alike (fun _ _ _ _ _ _ us hl => match us, hl with | [_, _], _ => rfl) sc__law_alike (fun vs H Q E h => h.elim) (fun cdv A outer s H vs Q E hr h => h.elim)
  | d + 1 => stp__law_alike T (okd__law_alike T d)
theorem ok__law_alike (T : Tx K mg) : Okd P w K mg base 7 "_law_alike" ["actual", "due"] (sp__law_alike K 6) := okd__law_alike T 6
end
end K59

set_option Elab.async false
set_option linter.all false
set_option maxRecDepth 100000
set_option maxHeartbeats 4000000
namespace K59
open PySem PySem.Spec PyProof.Rows L2 Rd
-- OPT pat = ⟨p, rs, nss, rfl, hp, hrs, h0, hn, k1, k2⟩
def limOk (nss : List (List Int)) : Prop := (∀ ns, ns ∈ nss → ns.length ≤ 60) ∧ (nss.map List.length).sum ≤ 300
def sp__law_limit (K : PySem.W.Frag) : Sp := fun vs H Q E => ∃ (p : Addr) (rs : List Addr) (nss : List (List Int)), vs = [.ref p] ∧ Sq K H p (rs.map V.ref) ∧ RowsAt K H rs nss ∧ 0 < nss.length ∧ nss.length ≤ 1000 ∧
  (∀ H' t, Same H H' → limOk nss → H' t = some (.tup []) → Q (.ref t) H') ∧ (∀ H' t u x y z, Same H H' → ¬ limOk nss → SeqAt.shaped (.tuple [.str x, .tuple [.str y, .int z]]) = true → H' t = some (.tup [.str x, .ref u]) → H' u = some (.tup [.str y, .int z]) → Q (.ref t) H')
section
variable {K : PySem.W.Frag} {mg : Str → Option Value} {P : Program} {w : World} {base : Heap}
theorem ok__law_limit (T : Tx K mg) : Okd P w K mg base 1 "_law_limit" ["piles"] (sp__law_limit K) := by
  refine Okd.mk' T.g__law_limit T.f__law_limit (fun _ _ _ _ _ _ us hl => match us, hl with | [_], _ => rfl) sc__law_limit (fun vs H Q E h => ?_) (fun cdv A outer s H vs Q E hr h => ?_)
  · obtain ⟨p, rs, nss, rfl, hp, hrs, h0, hn, k1, k2⟩ := h
    rfl
  · obtain ⟨p, rs, nss, rfl, hp, hrs, h0, hn, k1, k2⟩ := h
    refine ⟨_, (pss_cons (ps_if (pt_cmpR op_gt (pe_callB (k_max K rfl) (by rfl) T.m_max bt_max (pa_cons (pe_lc (own := [("pile", 1)]) rfl sc__law_limit.nd (pi_or2 (ki_list K (pv 0)) (ki_tup K (pv 0))) (blkOk_by (own := [("pile", 1)]) (N := ["piles", "pile"]) (sc := defScope s__law_limit) (by decide +kernel)) (fun _ _ _ _ _ => (pg_name (i := 1) sc__law_limit.nd rfl (Or.inl rfl))) (fun _ _ _ _ _ => pts_nil) (fun _ _ _ _ _ => (pe_callB (k_ln K) (by rfl) T.m_len bt_len (pa_cons (pv 1) pa_nil)))) pa_nil)) pe_int (nomark _)) (pss_one (ps_ret (pe_tup (pa_cons pe_str (pa_cons (pe_tup (pa_cons pe_str (pa_cons pe_int pa_nil))) pa_nil))))) pss_nil)
      (pss_cons (ps_if (pt_cmpR op_gt (pe_callB (k_sum K rfl) (by rfl) T.m_sum bt_sum (pa_cons (pe_lc (own := [("pile", 1)]) rfl sc__law_limit.nd (pi_or2 (ki_list K (pv 0)) (ki_tup K (pv 0))) (blkOk_by (own := [("pile", 1)]) (N := ["piles", "pile"]) (sc := defScope s__law_limit) (by decide +kernel)) (fun _ _ _ _ _ => (pg_name (i := 1) sc__law_limit.nd rfl (Or.inl rfl))) (fun _ _ _ _ _ => pts_nil) (fun _ _ _ _ _ => (pe_callB (k_ln K) (by rfl) T.m_len bt_len (pa_cons (pv 1) pa_nil)))) pa_nil)) pe_int (nomark _)) (pss_one (ps_ret (pe_tup (pa_cons pe_str (pa_cons (pe_tup (pa_cons pe_str (pa_cons pe_int pa_nil))) pa_nil))))) pss_nil)
      (pss_one (ps_ret (pe_tup pa_nil))))), ?_⟩
    refine start' (σ' := [some _, none]) rfl ?_
    have hl := hrs.1
    have lc : ∀ (H1 : Hp) (Q1 : VK), Same H H1 → (RetL H1 Q1 ((lensOf nss).map V.int)) → tLc (iOr2 (iList K (tVar 0)) (iTup K (tVar 0))) (gName 1) tYes (tCB (rLn K) (tCons (tVar 1) tNil)) (List.map (fun x => x.snd) [("pile", 1)]) [some (.ref p), none] H1 Q1 := by
      intro H1 Q1 s1 hQ
      refine lcSq (xs := rs.map V.ref) (fun R h => ⟨_, rfl, h⟩) (goSq s1 hp) (fun i _ => V.int ((nss.getD i []).length : Nat)) (fun _ => rfl) (line_ge (by rw [List.length_map]; omega)) ?_ ?_
      · intro j x H2 R hx s2 hR
        obtain ⟨r, hri, rfl⟩ := refs_at hx
        have hi : j < nss.length := by
          have := (List.getElem?_eq_some_iff.mp hri).1
          omega
        have hni : nss[j]? = some nss[j] := List.getElem?_eq_getElem hi
        have hsq := goSq (s1.trans s2) (hrs.2 j r _ hri hni)
        walk_at "rd"
        have e : ((nss.getD j []).length : Nat) = nss[j].length := by simp [List.getD, hi]
        rw [List.length_map]
        rw [e] at hR
        exact hR H2 (Same.refl H2)
      · rw [lens_idx hl]
        exact hQ
    have bad : ∀ (H1 : Hp) (x y : Str) (z : Int), Same H H1 → ¬ limOk nss → SeqAt.shaped (.tuple [.str x, .tuple [.str y, .int z]]) = true → tTup (tCons (tC (.str x)) (tCons (tTup (tCons (tC (.str y)) (tCons (tC (.int z)) tNil))) tNil)) [some (.ref p), none] H1 Q := by
      intro H1 x y z s1 hb hsh
      walk_at "rd"
      refine ⟨le_line (by simp), fun u hu => ?_⟩
      walk_at "rd"
      refine ⟨le_line (by simp), fun t ht => ?_⟩
      exact k2 _ t u x y z ((s1.trans (Rd.Same.new hu)).trans (Rd.Same.new ht)) hb hsh upd_same (Rd.Same.new ht _ _ upd_same)
    walk_at "rd"
    refine lc H _ (Same.refl H) fun H1 D s1 hD hd => ?_
    walk_at "rd"
    refine max' (sqL hd) (by rw [lensOf_len]; exact h0) fun m hm hmax => ?_
    walk_at "rd"
    refine ways (fun c => ?_) (fun c => ?_)
    · walk_at "ra"
      refine bad H1 _ _ _ s1 (fun z => ?_) (by decide +kernel)
      obtain ⟨ns, hns, rfl⟩ := List.mem_map.mp hm
      have := z.1 ns hns
      omega
    · walk_at "rd"
      refine lc H1 _ s1 fun H2 D2 s2 hD2 hd2 => ?_
      walk_at "rd"
      refine sum (sqL hd2) ?_
      walk_at "rd"
      have es : (lensOf nss).sum = (((nss.map List.length).sum : Nat) : Int) := sum_lens nss
      rw [es]
      have h60 : ∀ ns, ns ∈ nss → ns.length ≤ 60 := fun ns hns => by
        have := hmax (ns.length : Int) (List.mem_map.mpr ⟨ns, hns, rfl⟩)
        omega
      refine ways (fun c2 => ?_) (fun c2 => ?_)
      · walk_at "ra"
        refine bad H2 _ _ _ (s1.trans s2) (fun z => ?_) (by decide +kernel)
        have := z.2
        omega
      · walk_at "rd"
        refine ⟨le_line (by simp), fun t ht => ?_⟩
        exact k1 _ t ((s1.trans s2).trans (Rd.Same.new ht)) ⟨h60, by omega⟩ upd_same
end
end K59

set_option Elab.async false
set_option linter.all false
set_option maxRecDepth 100000
set_option maxHeartbeats 4000000
namespace K59
open PySem PySem.Spec PyProof.Rows L2 Rd
-- OPT pat = ⟨H0, a, n, p, ns, U, rfl, st, hp, npa, hn, hw, hU, k⟩
/-- a tuple that tells of an error; () of none -/
def Due (K : PySem.W.Frag) (H : Hp) (d : Addr) : Option ErrV → Prop
  | none => SqT K H d []
  | some (x, fs) => ∃ u, SqT K H d [.str x, .ref u] ∧ SqT K H u (fs.reverse.map Prod.snd)
theorem Due.go {K : PySem.W.Frag} {H H' : Hp} {d : Addr} {r : Option ErrV} (h : Due K H d r) (s : Same H H') : Due K H' d r := by
  cases r with
  | none => exact goSqT s h
  | some e =>
    obtain ⟨u, h1, h2⟩ := h
    exact ⟨u, goSqT s h1, goSqT s h2⟩
def sp__law_bent_walk (K : PySem.W.Frag) : Sp := fun vs H Q E => ∃ (H0 : Hp) (a : Addr) (n : Int) (p : Addr) (ns : List Int) (U : Nat), vs = [.ref a, .int n, .ref p] ∧ Sto H0 H a U ∧ H p = some (.lst (ns.map V.int)) ∧ p ≠ a ∧ (1 ≤ n ∧ n ≤ 40) ∧ WalkOk n ns ∧ U + 20 ≤ 1000000000000 ∧
  ∀ H' t l d (n' : Int) (ms : List Int), But a H H' → Sto H0 H' a (U + 10) → H' t = some (.tup [.int n', .ref l, .ref d]) → H' l = some (.lst (ms.map V.int)) → ms.length ≤ 100000 → Due K H' d (trailErr n' ms) → trailErr n' ms ≠ none → Q (.ref t) H'
theorem rowErr_none {n : Int} {ns : List Int} (h : ∀ v, v ∈ ns → 0 ≤ v ∧ v < n) : rowErr n ns = none := List.findSome?_eq_none_iff.mpr fun v hv => if_pos (h v hv)
theorem trailErr_bad {n bad : Int} {xs ys : List Int} (hn : 1 ≤ n ∧ n ≤ 40) (h : ∀ v, v ∈ xs → 0 ≤ v ∧ v < n) (hb : ¬ (0 ≤ bad ∧ bad < n)) : trailErr n (xs ++ [bad] ++ ys) = some (("BadStation", [("station", .int bad)]) : ErrV) := by
  unfold trailErr
  have e1 : cntErr n = none := (if_neg (by omega)).trans (if_neg (by omega))
  have e2 : someErr (xs ++ [bad] ++ ys) = none := if_neg (by simp)
  rw [e1, e2]
  show rowErr n (xs ++ [bad] ++ ys) = _
  unfold rowErr
  rw [List.append_assoc, List.findSome?_append, show xs.findSome? (stErr n) = none from rowErr_none h]
  show ([bad] ++ ys).findSome? (stErr n) = _
  rw [List.singleton_append, List.findSome?_cons]
  rw [show stErr n bad = some (("BadStation", [("station", .int bad)]) : ErrV) from if_neg hb]
section
variable {K : PySem.W.Frag} {mg : Str → Option Value} {P : Program} {w : World} {base : Heap}
theorem ok__law_bent_walk (T : Tx K mg) : Okd P w K mg base 3 "_law_bent_walk" ["store", "n", "row"] (sp__law_bent_walk K) := by
  have c__law_take := ok__law_take (P := P) (w := w) (base := base) T
  refine Okd.mk' T.g__law_bent_walk T.f__law_bent_walk (fun _ _ _ _ _ _ us hl => match us, hl with | [_, _, _], _ => rfl) sc__law_bent_walk (fun vs H Q E h => ?_) (fun cdv A outer s H vs Q E hr h => ?_)
  · obtain ⟨H0, a, n, p, ns, U, rfl, st, hp, npa, hn, hw, hU, k⟩ := h
    rfl
  · obtain ⟨H0, a, n, p, ns, U, rfl, st, hp, npa, hn, hw, hU, k⟩ := h
    refine ⟨_, (pss_cons (ps_set (i := 3) sc__law_bent_walk.nd rfl (Or.inl rfl) (pe_def c__law_take (hr.mono (by decide)) (takes_of rfl rfl rfl rfl) rfl (pa_cons (pv 0) (pa_cons pe_int pa_nil))))
      (pss_cons (ps_set (i := 4) sc__law_bent_walk.nd rfl (Or.inl rfl) (pe_ix (k_ix K) (pe_lst (pa_cons (pe_un un_neg pe_int) (pa_cons (pv 1) (pa_cons (pe_un un_neg (pv 1)) (pa_cons (pe_op op_pow pe_int pe_int) pa_nil))))) (pe_def c__law_take (hr.mono (by decide)) (takes_of rfl rfl rfl rfl) rfl (pa_cons (pv 0) (pa_cons pe_int pa_nil))) (fun _ _ => rfl)))
      (pss_cons (ps_if (pt_cmpR (k_same K (hr_units hr)) (pv 3) pe_int (nomark _)) (pss_cons (ps_set (i := 5) sc__law_bent_walk.nd rfl (Or.inl rfl) (pe_ix (k_ix K) (pe_lst (pa_cons pe_int (pa_cons pe_int (pa_cons (pe_un un_neg pe_int) (pa_cons (pe_op op_pow pe_int pe_int) pa_nil))))) (pe_def c__law_take (hr.mono (by decide)) (takes_of rfl rfl rfl rfl) rfl (pa_cons (pv 0) (pa_cons pe_int pa_nil))) (fun _ _ => rfl)))
      (pss_cons (ps_set (i := 6) sc__law_bent_walk.nd rfl (Or.inl rfl) (pe_tup (pa_cons pe_str (pa_cons (pe_tup (pa_cons pe_str pa_nil)) pa_nil))))
      (pss_cons (ps_if (pt_cmpR op_gt (pv 5) pe_int (nomark _)) (pss_one (ps_set (i := 6) sc__law_bent_walk.nd rfl (Or.inl rfl) (pe_tup (pa_cons pe_str (pa_cons (pe_tup (pa_cons pe_str (pa_cons pe_int pa_nil))) pa_nil))))) pss_nil)
      (pss_one (ps_ret (pe_tup (pa_cons (pv 5) (pa_cons (pe_lst pa_nil) (pa_cons (pv 6) pa_nil))))))))) pss_nil)
      (pss_cons (ps_if (pt_cmpR (k_same K (hr_units hr)) (pv 3) pe_int (nomark _)) (pss_one (ps_ret (pe_tup (pa_cons (pv 1) (pa_cons (pe_lst pa_nil) (pa_cons (pe_tup (pa_cons pe_str (pa_cons (pe_tup (pa_cons pe_str pa_nil)) pa_nil))) pa_nil)))))) pss_nil)
      (pss_cons (ps_set (i := 7) sc__law_bent_walk.nd rfl (Or.inl rfl) (pe_or2 (pe_slice (k_sll K) (pv 2) po_none (po_some pe_int)) (pe_slice (k_slt K) (pv 2) po_none (po_some pe_int))))
      (pss_cons (ps_set (i := 8) sc__law_bent_walk.nd rfl (Or.inl rfl) (pe_def c__law_take (hr.mono (by decide)) (takes_of rfl rfl rfl rfl) rfl (pa_cons (pv 0) (pa_cons (pe_op (k_plus K) (pe_callB (k_ln K) (by rfl) T.m_len bt_len (pa_cons (pv 7) pa_nil)) pe_int) pa_nil))))
      (pss_one (ps_ret (pe_tup (pa_cons (pv 1) (pa_cons (pe_op (k_plus K) (pe_op (k_plus K) (pe_op (k_plus K) (pe_or2 (pe_slice (k_sll K) (pv 7) po_none (po_some (pv 8))) (pe_slice (k_slt K) (pv 7) po_none (po_some (pv 8)))) (pe_lst (pa_cons (pv 4) pa_nil))) (pe_or2 (pe_slice (k_sll K) (pv 7) (po_some (pv 8)) po_none) (pe_slice (k_slt K) (pv 7) (po_some (pv 8)) po_none))) (pe_lst (pa_cons (pe_op op_pow pe_int pe_int) pa_nil))) (pa_cons (pe_tup (pa_cons pe_str (pa_cons (pe_tup (pa_cons (pv 4) pa_nil)) pa_nil))) pa_nil)))))))))))), ?_⟩
    refine start' (σ' := [some _, some _, some _, none, none, none, none, none, none]) rfl ?_
    walk_at "ra"
    refine ⟨H0, a, 4, U, rfl, st, by decide, by omega, fun kd H1 b1 st1 hv1 => ?_⟩
    walk_at "ra"
    refine pow ⟨by decide, by decide, by decide +kernel⟩ ?_
    walk_at "ra"
    refine ⟨le_line (by simp), fun u hu => ?_⟩
    walk_at "ra"
    have st1' := st1.go (Rd.Same.new (o := .lst [.int (-1), .int n, .int (-n), .int (10 ^ Int.toNat 29)]) hu)
    have nua : u ≠ a := by
      obtain ⟨xs, e⟩ := st1.at
      exact Ne.symm (ne_of_none e hu)
    refine ⟨H0, a, 4, U + 1, rfl, st1', by decide, by omega, fun bi H2 b2 st2 hv2 => ?_⟩
    have eu2 := b2 u _ nua upd_same
    have b02 : But a H H2 := (b1.trans (But.of (Rd.Same.new hu))).trans b2
    obtain ⟨bad, hbad, hix⟩ : ∃ bad : Int, ¬ (0 ≤ bad ∧ bad < n) ∧ atI [V.int (-1), V.int n, V.int (-n), V.int (10 ^ Int.toNat 29)] bi = some (.int bad) := by
      have h1 := hv2.1
      have h2 := hv2.2
      have : bi = 0 ∨ bi = 1 ∨ bi = 2 ∨ bi = 3 := by omega
      rcases this with e | e | e | e
      · exact ⟨-1, by omega, by rw [e]; rfl⟩
      · exact ⟨n, by omega, by rw [e]; rfl⟩
      · exact ⟨-n, by omega, by rw [e]; rfl⟩
      · refine ⟨10 ^ Int.toNat 29, fun z => ?_, by rw [e]; rfl⟩
        have : (40 : Int) ≤ 10 ^ Int.toNat 29 := by decide +kernel
        omega
    refine ixL (sqL eu2) hix ?_
    walk_at "ra"
    with_reducible refine Rd.seq ?_
    walk_at "ra"
    refine ways (fun c => ?_) (fun c => ?_)
    · walk_at "ra"
      refine pow ⟨by decide, by decide, by decide +kernel⟩ ?_
      walk_at "ra"
      refine ⟨le_line (by simp), fun w hw' => ?_⟩
      walk_at "ra"
      have nwa : w ≠ a := by
        obtain ⟨xs, e⟩ := st2.at
        exact Ne.symm (ne_of_none e hw')
      refine ⟨H0, a, 4, U + 2, rfl, st2.go (Rd.Same.new hw'), by decide, by omega, fun wi H3 b3 st3 hv3 => ?_⟩
      have ew3 := b3 w _ nwa upd_same
      have b03 : But a H H3 := (b02.trans (But.of (Rd.Same.new hw'))).trans b3
      obtain ⟨wrong, hwr, hwx⟩ : ∃ wrong : Int, (wrong ≤ 0 ∨ 40 < wrong) ∧ atI [V.int 0, V.int 41, V.int (-1), V.int (10 ^ Int.toNat 29)] wi = some (.int wrong) := by
        have h1 := hv3.1
        have h2 := hv3.2
        have : wi = 0 ∨ wi = 1 ∨ wi = 2 ∨ wi = 3 := by omega
        rcases this with e | e | e | e
        · exact ⟨0, by omega, by rw [e]; rfl⟩
        · exact ⟨41, by omega, by rw [e]; rfl⟩
        · exact ⟨-1, by omega, by rw [e]; rfl⟩
        · refine ⟨10 ^ Int.toNat 29, .inr ?_, by rw [e]; rfl⟩
          decide +kernel
      refine ixL (sqL ew3) hwx ?_
      walk_at "ra"
      refine ⟨le_line (by simp), fun x1 hx1 => ?_⟩
      walk_at "ra"
      refine ⟨le_line (by simp), fun x2 hx2 => ?_⟩
      walk_at "ra"
      have sx : Same H3 (upd (upd H3 x1 (.tup [.str "stations"])) x2 (.tup [.str "Empty", .ref x1])) := (Rd.Same.new hx1).trans (Rd.Same.new hx2)
      have e2 : upd (upd H3 x1 (.tup [.str "stations"])) x2 (.tup [.str "Empty", .ref x1]) x2 = some (.tup [.str "Empty", .ref x1]) := upd_same
      have e1 : upd (upd H3 x1 (.tup [.str "stations"])) x2 (.tup [.str "Empty", .ref x1]) x1 = some (.tup [.str "stations"]) := Rd.Same.new hx2 _ _ upd_same
      generalize upd (upd H3 x1 (.tup [.str "stations"])) x2 (.tup [.str "Empty", .ref x1]) = H4 at sx e1 e2 ⊢
      have fin : ∀ (H5 : Hp) (d l t : Addr), Same H3 H5 → Due K H5 d (trailErr wrong []) → trailErr wrong [] ≠ none → H5 t = some (.tup [.int wrong, .ref l, .ref d]) → H5 l = some (.lst []) → Q (.ref t) H5 := fun H5 d l t s5 hd hne ht hl =>
        k H5 t l d wrong [] (b03.trans (But.of s5)) ((st3.go s5).more (by omega)) ht hl (by simp) hd hne
      with_reducible refine Rd.seq ?_
      walk_at "ra"
      refine ways (fun c2 => ?_) (fun c2 => ?_)
      · have et : trailErr wrong [] = some (("TooMany", [("limit", .int 40), ("what", .str "stations")]) : ErrV) := by
          unfold trailErr cntErr
          rw [if_neg (by omega), if_pos c2]
          rfl
        walk_at "ra"
        refine ⟨le_line (by simp), fun x3 hx3 => ?_⟩
        walk_at "ra"
        refine ⟨le_line (by simp), fun x4 hx4 => ?_⟩
        walk_at "ra"
        refine ⟨le_line (by simp), fun x5 hx5 => ?_⟩
        walk_at "ra"
        refine ⟨le_line (by simp), fun x6 hx6 => ?_⟩
        refine fin _ x4 x5 x6 (((sx.trans (Rd.Same.new hx3)).trans (Rd.Same.new hx4)).trans ((Rd.Same.new hx5).trans (Rd.Same.new hx6))) ?_ (by rw [et]; intro z; cases z) upd_same (Rd.Same.new hx6 _ _ upd_same)
        rw [et]
        exact ⟨x3, sqT (Rd.Same.new hx6 _ _ (Rd.Same.new hx5 _ _ upd_same)), sqT (Rd.Same.new hx6 _ _ (Rd.Same.new hx5 _ _ (Rd.Same.new hx4 _ _ upd_same)))⟩
      · have et : trailErr wrong [] = some (("Empty", [("what", .str "stations")]) : ErrV) := by
          unfold trailErr cntErr
          rw [if_pos (by omega)]
          rfl
        walk_at "ra"
        refine ⟨le_line (by simp), fun x5 hx5 => ?_⟩
        walk_at "ra"
        refine ⟨le_line (by simp), fun x6 hx6 => ?_⟩
        refine fin _ x2 x5 x6 (sx.trans ((Rd.Same.new hx5).trans (Rd.Same.new hx6))) ?_ (by rw [et]; intro z; cases z) upd_same (Rd.Same.new hx6 _ _ upd_same)
        rw [et]
        exact ⟨x1, sqT (Rd.Same.new hx6 _ _ (Rd.Same.new hx5 _ _ e2)), sqT (Rd.Same.new hx6 _ _ (Rd.Same.new hx5 _ _ e1))⟩
    · walk_at "ra"
      with_reducible refine Rd.seq ?_
      walk_at "ra"
      refine ways (fun c2 => ?_) (fun c2 => ?_)
      · have et : trailErr n [] = some (("Empty", [("what", .str "trail")]) : ErrV) := by
          unfold trailErr cntErr
          rw [if_neg (by omega), if_neg (by omega)]
          rfl
        walk_at "ra"
        refine ⟨le_line (by simp), fun x5 hx5 => ?_⟩
        walk_at "ra"
        refine ⟨le_line (by simp), fun x1 hx1 => ?_⟩
        walk_at "ra"
        refine ⟨le_line (by simp), fun x2 hx2 => ?_⟩
        walk_at "ra"
        refine ⟨le_line (by simp), fun x6 hx6 => ?_⟩
        have key : ∀ H9, Same H2 H9 → H9 x6 = some (.tup [.int n, .ref x5, .ref x2]) → H9 x5 = some (.lst []) → SqT K H9 x2 [.str "Empty", .ref x1] → SqT K H9 x1 [.str "trail"] → Q (.ref x6) H9 := fun H9 s4 h1 h2 h3 h4 =>
          k H9 x6 x5 x2 n [] (b02.trans (But.of s4)) ((st2.go s4).more (by omega)) h1 h2 (by simp) (by rw [et]; exact ⟨x1, h3, h4⟩) (by rw [et]; intro z; cases z)
        exact key _ ((Rd.Same.new hx5).trans ((Rd.Same.new hx1).trans ((Rd.Same.new hx2).trans (Rd.Same.new hx6)))) upd_same (Rd.Same.new hx6 _ _ (Rd.Same.new hx2 _ _ (Rd.Same.new hx1 _ _ upd_same))) (sqT (Rd.Same.new hx6 _ _ upd_same)) (sqT (Rd.Same.new hx6 _ _ (Rd.Same.new hx2 _ _ upd_same)))
      · have hp : SqL K H p (ns.map V.int) := sqL hp
        have hp2 : SqL K H2 p (ns.map V.int) := goSqLB b02 npa hp
        walk_at "ra"
        refine Or.inl ?_
        walk_at "ra"
        refine slL hp2 fun q hq => ?_
        have ecut : cutV (ns.map V.int) none (some 900) = (ns.take 900).map V.int := by
          rw [List.map_take]
          exact cut_to _ _
        rw [ecut]
        generalize hms : ns.take 900 = ms
        have hml : 0 < ms.length ∧ ms.length ≤ 900 := by
          have := hw.1
          rw [← hms, List.length_take]
          omega
        have hmm : ∀ v, v ∈ ms → 0 ≤ v ∧ v < n := fun v hv => by
          rw [← hms] at hv
          exact hw.2.2 v (List.mem_of_mem_take hv)
        have st3 := st2.go (Rd.Same.new (o := .lst (ms.map V.int)) hq)
        have nqa : q ≠ a := by
          obtain ⟨xs, e⟩ := st2.at
          exact Ne.symm (ne_of_none e hq)
        walk_at "ra"
        rw [List.length_map]
        refine ⟨H0, a, _, U + 2, rfl, st3, by omega, by omega, fun at' H4 b4 st4 hv4 => ?_⟩
        have eq4 := b4 q _ nqa upd_same
        have b04 : But a H H4 := (b02.trans (But.of (Rd.Same.new hq))).trans b4
        obtain ⟨j, rfl⟩ : ∃ j : Nat, at' = j := ⟨at'.toNat, by have := hv4.1; omega⟩
        walk_at "ra"
        refine Or.inl ?_
        walk_at "ra"
        refine slL (sqL eq4) fun x1 hx1 => ?_
        rw [show cutV (ms.map V.int) none (some (j : Int)) = (ms.take j).map V.int by rw [List.map_take]; exact cut_to _ _]
        walk_at "ra"
        refine ⟨le_line (by simp), fun x2 hx2 => ?_⟩
        walk_at "ra"
        refine plusL (Rd.Same.new hx2 _ _ upd_same) upd_same (by simp; exact le_line (by omega)) fun x3 hx3 => ?_
        walk_at "ra"
        refine Or.inl ?_
        walk_at "ra"
        have s3 := (Rd.Same.new (o := .lst ((ms.take j).map V.int)) hx1).trans ((Rd.Same.new (o := .lst [.int bad]) hx2).trans (Rd.Same.new (o := .lst ((ms.take j).map V.int ++ [.int bad])) hx3))
        refine slL (sqL (s3 _ _ eq4)) fun x4 hx4 => ?_
        rw [show cutV (ms.map V.int) (some (j : Int)) none = (ms.drop j).map V.int by rw [List.map_drop]; exact cut_from _ _]
        walk_at "ra"
        refine plusL (Rd.Same.new hx4 _ _ upd_same) upd_same (by simp; exact le_line (by omega)) fun x5 hx5 => ?_
        walk_at "ra"
        refine pow ⟨by decide, by decide, by decide +kernel⟩ ?_
        walk_at "ra"
        refine ⟨le_line (by simp), fun x6 hx6 => ?_⟩
        walk_at "ra"
        refine plusL (Rd.Same.new hx6 _ _ upd_same) upd_same (by simp; exact le_line (by omega)) fun x7 hx7 => ?_
        walk_at "ra"
        refine ⟨le_line (by simp), fun x8 hx8 => ?_⟩
        walk_at "ra"
        refine ⟨le_line (by simp), fun x9 hx9 => ?_⟩
        walk_at "ra"
        refine ⟨le_line (by simp), fun xa hxa => ?_⟩
        have et : trailErr n (ms.take j ++ [bad] ++ (ms.drop j ++ [10 ^ Int.toNat 28])) = some (("BadStation", [("station", .int bad)]) : ErrV) := trailErr_bad hn (fun v hv => hmm v (List.mem_of_mem_take hv)) hbad
        have el : ((ms.take j).map V.int ++ [V.int bad] ++ (ms.drop j).map V.int ++ [V.int (10 ^ Int.toNat 28)]) = (ms.take j ++ [bad] ++ (ms.drop j ++ [10 ^ Int.toNat 28])).map V.int := by simp
        have key : ∀ H9, Same H4 H9 → H9 xa = some (.tup [.int n, .ref x7, .ref x9]) → H9 x7 = some (.lst ((ms.take j ++ [bad] ++ (ms.drop j ++ [10 ^ Int.toNat 28])).map V.int)) → SqT K H9 x9 [.str "BadStation", .ref x8] → SqT K H9 x8 [.int bad] → Q (.ref xa) H9 := fun H9 s4 h1 h2 h3 h4 =>
          k H9 xa x7 x9 n _ (b04.trans (But.of s4)) ((st4.go s4).more (by omega)) h1 h2 (by simp; omega) (by rw [et]; exact ⟨x8, h3, h4⟩) (by rw [et]; intro z; cases z)
        exact key _ (s3.trans ((Rd.Same.new hx4).trans ((Rd.Same.new hx5).trans ((Rd.Same.new hx6).trans ((Rd.Same.new hx7).trans ((Rd.Same.new hx8).trans ((Rd.Same.new hx9).trans (Rd.Same.new hxa)))))))) upd_same (Rd.Same.new hxa _ _ (Rd.Same.new hx9 _ _ (Rd.Same.new hx8 _ _ (by rw [upd_same, el])))) (sqT (Rd.Same.new hxa _ _ upd_same)) (sqT (Rd.Same.new hxa _ _ (Rd.Same.new hx9 _ _ upd_same)))
end
end K59

set_option Elab.async false
set_option linter.all false
set_option maxRecDepth 100000
set_option maxHeartbeats 4000000
namespace K59
open PySem PySem.Spec PyProof.Rows L2 Rd
-- OPT pat = ⟨x, d, fs, rfl, ie, form, k⟩
-- OPT hot = 1
/-- the errors that the law's doors meet -/
def Form (x : Str) (fs : List (Str × V)) : Prop := (x = "Empty" ∧ ∃ s : Str, fs = ([("what", .str s)] : List (Str × V))) ∨ (x = "TooMany" ∧ ∃ (s : Str) (n : Int), fs = ([("limit", .int n), ("what", .str s)] : List (Str × V))) ∨ (x = "BadStation" ∧ ∃ v : Int, fs = ([("station", .int v)] : List (Str × V)))
def bsOf (x : Str) : List Bool := [decide (x = "BadText"), decide (x = "Malformed"), decide (x = "Stuck"), decide (x = "NothingBack"), decide (x = "Blocked"), decide (x = "Unnamed"), decide (x = "Opened"), decide (x = "NoPlan"), decide (x = "BadCard"), decide (x = "Unknown"), decide (x = "BadPlace"), decide (x = "Missing"), decide (x = "BadStation"), decide (x = "Unframed"), decide (x = "NotLocal"), decide (x = "NotEnd"), decide (x = "BadNumber"), decide (x = "Empty"), decide (x = "NotPack"), decide (x = "Unlike"), decide (x = "Doubled"), decide (x = "TooMany"), decide (x = "NotTrail"), decide (x = "LeftOver")]
theorem genH {R : L2.St → Hp → Prop} {σ : L2.St} {H H1 : Hp} {a : Addr} {o : HO} (s : Same H H1) (e : H1 a = some o) (k : ∀ H9, Same H H9 → H9 a = some o → R σ H9) : R σ H1 := k _ s e
theorem smN {H H1 : Hp} {p : Addr} {o : HO} (n : H1 p = none) (s : Same H H1) : Same H (upd H1 p o) := s.trans (Rd.Same.new n)
theorem b_idx (bs : List Bool) (j : Nat) (h : ((bs.take j).all fun b => !b) = true) (hl : j ≤ bs.length) : ∀ m, m < j → bs[m]? = some false := fun m hm => by
  have h1 := List.all_eq_true.mp h bs[m] (List.mem_take_iff_getElem.mpr ⟨m, by omega, rfl⟩)
  rw [List.getElem?_eq_getElem (by omega)]
  cases e : bs[m] with
  | false => rfl
  | true => rw [e] at h1; cases h1
theorem hrH_units {k : Nat} {A : Around} (hr : L2H.RoomH k A) : A.units + 64 < cLine := by
  have := hr.un
  omega
theorem Form.kind {x : Str} {fs : List (Str × V)} (f : Form x fs) : x ∈ kinds ∧ x ∈ errs := by
  rcases f with ⟨rfl, _⟩ | ⟨rfl, _⟩ | ⟨rfl, _⟩
  · exact ⟨by decide, by decide⟩
  · exact ⟨by decide, by decide⟩
  · exact ⟨by decide, by decide⟩
def sp__law_kind (K : PySem.W.Frag) : Pin → Sp := fun p vs H Q E => ∃ (x : Str) (d : Addr) (fs : List (Str × V)), vs = [.ref p.1] ∧ IsErr K H p (He.ga K x) d fs ∧ Form x fs ∧ ∀ H' t, Same H H' → Due K H' t (some (x, fs)) → Q (.ref t) H'
section
variable {K : PySem.W.Frag} {mg : Str → Option Value} {P : Program} {w : World} {base : Heap}
theorem ok__law_kind (T : Tx K mg) : Oke P w K mg base 1 "_law_kind" ["e"] (sp__law_kind K) := by
  refine Oke.mk' T.g__law_kind T.f__law_kind (fun _ _ _ _ _ _ us hl => match us, hl with | [_], _ => rfl) sc__law_kind (fun p vs H Q E h => ?_) (fun p cdv A outer s H vs Q E hr h => ?_)
  · obtain ⟨x, d, fs, rfl, ie, form, k⟩ := h
    rfl
  · obtain ⟨x, d, fs, rfl, ie, form, k⟩ := h
    refine ⟨_, (pss_cons (ps_set (i := 1) sc__law_kind.nd rfl (Or.inl rfl) (pe_lst (pa_cons (pe_callB (k_isX K List.mem_cons_self) (by rfl) T.m_isinstance bt_isinstance (pa_cons (pv 0) (pa_cons (pe_glob (v := V.ref (He.ga K "BadText")) rfl T.g_BadText rfl) pa_nil))) (pa_cons (pe_callB (k_isX K List.mem_cons_self) (by rfl) T.m_isinstance bt_isinstance (pa_cons (pv 0) (pa_cons (pe_glob (v := V.ref (He.ga K "Malformed")) rfl T.g_Malformed rfl) pa_nil))) (pa_cons (pe_callB (k_isX K List.mem_cons_self) (by rfl) T.m_isinstance bt_isinstance (pa_cons (pv 0) (pa_cons (pe_glob (v := V.ref (He.ga K "Stuck")) rfl T.g_Stuck rfl) pa_nil))) (pa_cons (pe_callB (k_isX K List.mem_cons_self) (by rfl) T.m_isinstance bt_isinstance (pa_cons (pv 0) (pa_cons (pe_glob (v := V.ref (He.ga K "NothingBack")) rfl T.g_NothingBack rfl) pa_nil))) pa_nil))))))
      (pss_cons (ps_set (i := 2) sc__law_kind.nd rfl (Or.inl rfl) (pe_lst (pa_cons (pe_callB (k_isX K List.mem_cons_self) (by rfl) T.m_isinstance bt_isinstance (pa_cons (pv 0) (pa_cons (pe_glob (v := V.ref (He.ga K "Blocked")) rfl T.g_Blocked rfl) pa_nil))) (pa_cons (pe_callB (k_isX K List.mem_cons_self) (by rfl) T.m_isinstance bt_isinstance (pa_cons (pv 0) (pa_cons (pe_glob (v := V.ref (He.ga K "Unnamed")) rfl T.g_Unnamed rfl) pa_nil))) (pa_cons (pe_callB (k_isX K List.mem_cons_self) (by rfl) T.m_isinstance bt_isinstance (pa_cons (pv 0) (pa_cons (pe_glob (v := V.ref (He.ga K "Opened")) rfl T.g_Opened rfl) pa_nil))) (pa_cons (pe_callB (k_isX K List.mem_cons_self) (by rfl) T.m_isinstance bt_isinstance (pa_cons (pv 0) (pa_cons (pe_glob (v := V.ref (He.ga K "NoPlan")) rfl T.g_NoPlan rfl) pa_nil))) pa_nil))))))
      (pss_cons (ps_set (i := 3) sc__law_kind.nd rfl (Or.inl rfl) (pe_lst (pa_cons (pe_callB (k_isX K List.mem_cons_self) (by rfl) T.m_isinstance bt_isinstance (pa_cons (pv 0) (pa_cons (pe_glob (v := V.ref (He.ga K "BadCard")) rfl T.g_BadCard rfl) pa_nil))) (pa_cons (pe_callB (k_isX K List.mem_cons_self) (by rfl) T.m_isinstance bt_isinstance (pa_cons (pv 0) (pa_cons (pe_glob (v := V.ref (He.ga K "Unknown")) rfl T.g_Unknown rfl) pa_nil))) (pa_cons (pe_callB (k_isX K List.mem_cons_self) (by rfl) T.m_isinstance bt_isinstance (pa_cons (pv 0) (pa_cons (pe_glob (v := V.ref (He.ga K "BadPlace")) rfl T.g_BadPlace rfl) pa_nil))) (pa_cons (pe_callB (k_isX K List.mem_cons_self) (by rfl) T.m_isinstance bt_isinstance (pa_cons (pv 0) (pa_cons (pe_glob (v := V.ref (He.ga K "Missing")) rfl T.g_Missing rfl) pa_nil))) pa_nil))))))
      (pss_cons (ps_set (i := 4) sc__law_kind.nd rfl (Or.inl rfl) (pe_lst (pa_cons (pe_callB (k_isX K List.mem_cons_self) (by rfl) T.m_isinstance bt_isinstance (pa_cons (pv 0) (pa_cons (pe_glob (v := V.ref (He.ga K "BadStation")) rfl T.g_BadStation rfl) pa_nil))) (pa_cons (pe_callB (k_isX K List.mem_cons_self) (by rfl) T.m_isinstance bt_isinstance (pa_cons (pv 0) (pa_cons (pe_glob (v := V.ref (He.ga K "Unframed")) rfl T.g_Unframed rfl) pa_nil))) (pa_cons (pe_callB (k_isX K List.mem_cons_self) (by rfl) T.m_isinstance bt_isinstance (pa_cons (pv 0) (pa_cons (pe_glob (v := V.ref (He.ga K "NotLocal")) rfl T.g_NotLocal rfl) pa_nil))) (pa_cons (pe_callB (k_isX K List.mem_cons_self) (by rfl) T.m_isinstance bt_isinstance (pa_cons (pv 0) (pa_cons (pe_glob (v := V.ref (He.ga K "NotEnd")) rfl T.g_NotEnd rfl) pa_nil))) pa_nil))))))
      (pss_cons (ps_set (i := 5) sc__law_kind.nd rfl (Or.inl rfl) (pe_lst (pa_cons (pe_callB (k_isX K List.mem_cons_self) (by rfl) T.m_isinstance bt_isinstance (pa_cons (pv 0) (pa_cons (pe_glob (v := V.ref (He.ga K "BadNumber")) rfl T.g_BadNumber rfl) pa_nil))) (pa_cons (pe_callB (k_isX K List.mem_cons_self) (by rfl) T.m_isinstance bt_isinstance (pa_cons (pv 0) (pa_cons (pe_glob (v := V.ref (He.ga K "Empty")) rfl T.g_Empty rfl) pa_nil))) (pa_cons (pe_callB (k_isX K List.mem_cons_self) (by rfl) T.m_isinstance bt_isinstance (pa_cons (pv 0) (pa_cons (pe_glob (v := V.ref (He.ga K "NotPack")) rfl T.g_NotPack rfl) pa_nil))) (pa_cons (pe_callB (k_isX K List.mem_cons_self) (by rfl) T.m_isinstance bt_isinstance (pa_cons (pv 0) (pa_cons (pe_glob (v := V.ref (He.ga K "Unlike")) rfl T.g_Unlike rfl) pa_nil))) pa_nil))))))
      (pss_cons (ps_set (i := 6) sc__law_kind.nd rfl (Or.inl rfl) (pe_lst (pa_cons (pe_callB (k_isX K List.mem_cons_self) (by rfl) T.m_isinstance bt_isinstance (pa_cons (pv 0) (pa_cons (pe_glob (v := V.ref (He.ga K "Doubled")) rfl T.g_Doubled rfl) pa_nil))) (pa_cons (pe_callB (k_isX K List.mem_cons_self) (by rfl) T.m_isinstance bt_isinstance (pa_cons (pv 0) (pa_cons (pe_glob (v := V.ref (He.ga K "TooMany")) rfl T.g_TooMany rfl) pa_nil))) (pa_cons (pe_callB (k_isX K List.mem_cons_self) (by rfl) T.m_isinstance bt_isinstance (pa_cons (pv 0) (pa_cons (pe_glob (v := V.ref (He.ga K "NotTrail")) rfl T.g_NotTrail rfl) pa_nil))) (pa_cons (pe_callB (k_isX K List.mem_cons_self) (by rfl) T.m_isinstance bt_isinstance (pa_cons (pv 0) (pa_cons (pe_glob (v := V.ref (He.ga K "LeftOver")) rfl T.g_LeftOver rfl) pa_nil))) pa_nil))))))
      (pss_cons (ps_set (i := 7) sc__law_kind.nd rfl (Or.inl rfl) (pe_op (k_plus K) (pe_op (k_plus K) (pe_op (k_plus K) (pe_op (k_plus K) (pe_op (k_plus K) (pv 1) (pv 2)) (pv 3)) (pv 4)) (pv 5)) (pv 6)))
      (pss_cons (ps_if (PW.pt (pw_or (pt_cmpR (k_unlike K (hrH_units hr)) (kp_bm K PySem.F.plainAttrs_list PySem.F.slot_list_count PySem.F.type_list_count (k_countB K) (pv 7) (pa_cons pe_bl pa_nil)) pe_int (nomark _)) (pw_or (pt_not (pt_val (pe_callB (k_isX K List.mem_cons_self) (by rfl) T.m_isinstance bt_isinstance (pa_cons (pv 0) (pa_cons (pe_glob (v := V.ref (He.ga K "Refused")) rfl T.g_Refused rfl) pa_nil))))) (pw_or1 (pt_not (pt_val (pe_callB (k_isX K List.mem_cons_self) (by rfl) T.m_isinstance bt_isinstance (pa_cons (pv 0) (pa_cons (pe_bltn (v := .ty "ValueError") (by rfl) T.m_ValueError bt_ValueError rfl) pa_nil))))))))) (pss_one (ps_ret pe_non)) pss_nil)
      (pss_cons (ps_set (i := 8) sc__law_kind.nd rfl (Or.inl rfl) (pe_lst (pa_cons pe_str (pa_cons pe_str (pa_cons pe_str (pa_cons pe_str (pa_cons pe_str (pa_cons pe_str (pa_cons pe_str (pa_cons pe_str (pa_cons pe_str pa_nil)))))))))))
      (pss_cons (ps_set (i := 8) sc__law_kind.nd rfl (Or.inl rfl) (pe_op (k_plus K) (pv 8) (pe_lst (pa_cons pe_str (pa_cons pe_str (pa_cons pe_str (pa_cons pe_str (pa_cons pe_str (pa_cons pe_str (pa_cons pe_str (pa_cons pe_str pa_nil)))))))))))
      (pss_cons (ps_set (i := 9) sc__law_kind.nd rfl (Or.inl rfl) (pe_ix (k_ix K) (pe_op (k_plus K) (pv 8) (pe_lst (pa_cons pe_str (pa_cons pe_str (pa_cons pe_str (pa_cons pe_str (pa_cons pe_str (pa_cons pe_str (pa_cons pe_str pa_nil))))))))) (kp_bm K PySem.F.plainAttrs_list PySem.F.slot_list_index PySem.F.type_list_index (k_index K) (pv 7) (pa_cons pe_bl pa_nil)) (fun _ _ => rfl)))
      (pss_cons (ps_if (pt_cmpR (k_same K (hrH_units hr)) (pv 9) pe_str (nomark _)) (pss_one (ps_ret (pe_tup (pa_cons (pv 9) (pa_cons (pe_tup (pa_cons (kp_fldX K List.mem_cons_self (pv 0)) (pa_cons (kp_fldX K List.mem_cons_self (pv 0)) pa_nil))) pa_nil))))) pss_nil)
      (pss_cons (ps_if (pt_cmpR (k_in K) (pv 9) (pe_tup (pa_cons pe_str (pa_cons pe_str pa_nil))) rfl) (pss_one (ps_ret (pe_tup (pa_cons (pv 9) (pa_cons (pe_tup (pa_cons (kp_fldX K List.mem_cons_self (pv 0)) (pa_cons (kp_fldX K List.mem_cons_self (pv 0)) pa_nil))) pa_nil))))) pss_nil)
      (pss_cons (ps_if (pt_cmpR (k_in K) (pv 9) (pe_tup (pa_cons pe_str (pa_cons pe_str pa_nil))) rfl) (pss_one (ps_ret (pe_tup (pa_cons (pv 9) (pa_cons (pe_tup (pa_cons (kp_fldX K List.mem_cons_self (pv 0)) pa_nil)) pa_nil))))) pss_nil)
      (pss_cons (ps_if (pt_cmpR (k_in K) (pv 9) (pe_tup (pa_cons pe_str (pa_cons pe_str (pa_cons pe_str (pa_cons pe_str (pa_cons pe_str pa_nil)))))) rfl) (pss_one (ps_ret (pe_tup (pa_cons (pv 9) (pa_cons (pe_tup (pa_cons (kp_fldX K List.mem_cons_self (pv 0)) pa_nil)) pa_nil))))) pss_nil)
      (pss_cons (ps_if (pt_cmpR (k_same K (hrH_units hr)) (pv 9) pe_str (nomark _)) (pss_one (ps_ret (pe_tup (pa_cons (pv 9) (pa_cons (pe_tup (pa_cons (kp_fldX K List.mem_cons_self (pv 0)) pa_nil)) pa_nil))))) pss_nil)
      (pss_cons (ps_if (pt_cmpR (k_same K (hrH_units hr)) (pv 9) pe_str (nomark _)) (pss_one (ps_ret (pe_tup (pa_cons (pv 9) (pa_cons (pe_tup (pa_cons (kp_fldX K List.mem_cons_self (pv 0)) pa_nil)) pa_nil))))) pss_nil)
      (pss_cons (ps_if (pt_cmpR (k_same K (hrH_units hr)) (pv 9) pe_str (nomark _)) (pss_one (ps_ret (pe_tup (pa_cons (pv 9) (pa_cons (pe_tup (pa_cons (kp_fldX K List.mem_cons_self (pv 0)) pa_nil)) pa_nil))))) pss_nil)
      (pss_one (ps_ret (pe_tup (pa_cons (pv 9) (pa_cons (pe_tup pa_nil) pa_nil))))))))))))))))))))))), ?_⟩
    refine start' (σ' := [some _, none, none, none, none, none, none, none, none, none]) rfl ?_
    obtain ⟨ec, ez, ef, ed⟩ := ie
    obtain ⟨kx, kR, kV⟩ := kitsB_ok T.kits form.kind.1
    walk_at "ra"
    iterate 4
      refine isx ec ez ef (by walk_at "hp") (kx _ (by decide)) ?_
      walk_at "ra"
    refine ⟨le_line (by simp), fun o1 h1 => ?_⟩
    walk_at "ra"
    iterate 4
      refine isx ec ez ef (by walk_at "hp") (kx _ (by decide)) ?_
      walk_at "ra"
    refine ⟨le_line (by simp), fun o2 h2 => ?_⟩
    walk_at "ra"
    iterate 4
      refine isx ec ez ef (by walk_at "hp") (kx _ (by decide)) ?_
      walk_at "ra"
    refine ⟨le_line (by simp), fun o3 h3 => ?_⟩
    walk_at "ra"
    iterate 4
      refine isx ec ez ef (by walk_at "hp") (kx _ (by decide)) ?_
      walk_at "ra"
    refine ⟨le_line (by simp), fun o4 h4 => ?_⟩
    walk_at "ra"
    iterate 4
      refine isx ec ez ef (by walk_at "hp") (kx _ (by decide)) ?_
      walk_at "ra"
    refine ⟨le_line (by simp), fun o5 h5 => ?_⟩
    walk_at "ra"
    iterate 4
      refine isx ec ez ef (by walk_at "hp") (kx _ (by decide)) ?_
      walk_at "ra"
    refine ⟨le_line (by simp), fun o6 h6 => ?_⟩
    walk_at "ra"
    refine plusL (by walk_at "hp") (by walk_at "hp") (le_line (by simp)) fun o7 h7 => ?_
    walk_at "ra"
    refine plusL (by walk_at "hp") (by walk_at "hp") (le_line (by simp)) fun o8 h8 => ?_
    walk_at "ra"
    refine plusL (by walk_at "hp") (by walk_at "hp") (le_line (by simp)) fun o9 h9 => ?_
    walk_at "ra"
    refine plusL (by walk_at "hp") (by walk_at "hp") (le_line (by simp)) fun oa ha => ?_
    walk_at "ra"
    refine plusL (by walk_at "hp") (by walk_at "hp") (le_line (by simp)) fun ob hb => ?_
    walk_at "ra"
    refine genH (H := H) (a := ob) (o := .lst ((bsOf x).map V.bl)) ?_ upd_same fun H9 s9 e9 => ?_
    · repeat (first | exact Same.refl _ | refine smN (by assumption) ?_)
    have ed9 := s9 _ _ ed
    walk_at "ra"
    with_reducible refine Rd.seq ?_
    walk_at "ra"
    refine cntB (bs := bsOf x) (sqL e9) ?_
    walk_at "ra"
    rcases form with ⟨rfl, s, rfl⟩ | ⟨rfl, s, n, rfl⟩ | ⟨rfl, v, rfl⟩
    · refine dnno (by decide +kernel) ?_
      walk_at "ra"
      refine isx ec ez ef (by walk_at "hp") kR ?_
      walk_at "ra"
      refine isxT ec ez ef (by walk_at "hp") kV ?_
      walk_at "ra"
      refine ⟨le_line (by simp), fun n1 g1 => ?_⟩
      walk_at "ra"
      refine ⟨le_line (by simp), fun n2 g2 => ?_⟩
      walk_at "ra"
      refine plusL (by walk_at "hp") (by walk_at "hp") (le_line (by simp)) fun n3 g3 => ?_
      walk_at "ra"
      refine ⟨le_line (by simp), fun n4 g4 => ?_⟩
      walk_at "ra"
      refine plusL (by walk_at "hp") (by walk_at "hp") (le_line (by simp)) fun n5 g5 => ?_
      walk_at "ra"
      refine ixBl (bs := bsOf "Empty") (j := 17) (sqL (by walk_at "hp")) (by decide +kernel) (b_idx _ _ (by decide +kernel) (by decide +kernel)) ?_
      walk_at "ra"
      with_reducible refine Rd.seq ?_
      walk_at "ra"
      refine eqv rfl ?_
      walk_at "ra"
      refine dno (by decide +kernel) ?_
      walk_at "ra"
      with_reducible refine Rd.seq ?_
      walk_at "ra"
      refine ⟨le_line (by simp), fun y1 hy1 => ?_⟩
      walk_at "ra"
      refine ⟨y1, _, rfl, .inr (sqT (by walk_at "hp")), rfl, rfl, ?_⟩
      walk_at "ra"
      refine bno (by decide +kernel) ?_
      walk_at "ra"
      with_reducible refine Rd.seq ?_
      walk_at "ra"
      refine ⟨le_line (by simp), fun y2 hy2 => ?_⟩
      walk_at "ra"
      refine ⟨y2, _, rfl, .inr (sqT (by walk_at "hp")), rfl, rfl, ?_⟩
      walk_at "ra"
      refine bno (by decide +kernel) ?_
      walk_at "ra"
      with_reducible refine Rd.seq ?_
      walk_at "ra"
      refine ⟨le_line (by simp), fun y3 hy3 => ?_⟩
      walk_at "ra"
      refine ⟨y3, _, rfl, .inr (sqT (by walk_at "hp")), rfl, rfl, ?_⟩
      walk_at "ra"
      refine byes (by decide +kernel) ?_
      walk_at "ra"
      refine fldx (f := "what") ec ez ef (by walk_at "hp") T.no_Empty_what rfl ?_ (fun R h => ⟨_, rfl, h⟩)
      walk_at "ra"
      refine ⟨le_line (by simp), fun z1 hz1 => ?_⟩
      walk_at "ra"
      refine ⟨le_line (by simp), fun z2 hz2 => ?_⟩
      refine k _ z2 ?_ ⟨z1, sqT (by walk_at "hp"), sqT (by walk_at "hp")⟩
      refine s9.trans ?_
      repeat (first | exact Same.refl _ | refine smN (by assumption) ?_)
    · refine dnno (by decide +kernel) ?_
      walk_at "ra"
      refine isx ec ez ef (by walk_at "hp") kR ?_
      walk_at "ra"
      refine isxT ec ez ef (by walk_at "hp") kV ?_
      walk_at "ra"
      refine ⟨le_line (by simp), fun n1 g1 => ?_⟩
      walk_at "ra"
      refine ⟨le_line (by simp), fun n2 g2 => ?_⟩
      walk_at "ra"
      refine plusL (by walk_at "hp") (by walk_at "hp") (le_line (by simp)) fun n3 g3 => ?_
      walk_at "ra"
      refine ⟨le_line (by simp), fun n4 g4 => ?_⟩
      walk_at "ra"
      refine plusL (by walk_at "hp") (by walk_at "hp") (le_line (by simp)) fun n5 g5 => ?_
      walk_at "ra"
      refine ixBl (bs := bsOf "TooMany") (j := 21) (sqL (by walk_at "hp")) (by decide +kernel) (b_idx _ _ (by decide +kernel) (by decide +kernel)) ?_
      walk_at "ra"
      with_reducible refine Rd.seq ?_
      walk_at "ra"
      refine eqv rfl ?_
      walk_at "ra"
      refine dyes (by decide +kernel) ?_
      walk_at "ra"
      refine fldx (f := "what") ec ez ef (by walk_at "hp") T.no_TooMany_what rfl ?_ (fun R h => ⟨_, rfl, h⟩)
      walk_at "ra"
      refine fldx (f := "limit") ec ez ef (by walk_at "hp") T.no_TooMany_limit rfl ?_ (fun R h => ⟨_, rfl, h⟩)
      walk_at "ra"
      refine ⟨le_line (by simp), fun z1 hz1 => ?_⟩
      walk_at "ra"
      refine ⟨le_line (by simp), fun z2 hz2 => ?_⟩
      refine k _ z2 ?_ ⟨z1, sqT (by walk_at "hp"), sqT (by walk_at "hp")⟩
      refine s9.trans ?_
      repeat (first | exact Same.refl _ | refine smN (by assumption) ?_)
    · refine dnno (by decide +kernel) ?_
      walk_at "ra"
      refine isx ec ez ef (by walk_at "hp") kR ?_
      walk_at "ra"
      refine isxT ec ez ef (by walk_at "hp") kV ?_
      walk_at "ra"
      refine ⟨le_line (by simp), fun n1 g1 => ?_⟩
      walk_at "ra"
      refine ⟨le_line (by simp), fun n2 g2 => ?_⟩
      walk_at "ra"
      refine plusL (by walk_at "hp") (by walk_at "hp") (le_line (by simp)) fun n3 g3 => ?_
      walk_at "ra"
      refine ⟨le_line (by simp), fun n4 g4 => ?_⟩
      walk_at "ra"
      refine plusL (by walk_at "hp") (by walk_at "hp") (le_line (by simp)) fun n5 g5 => ?_
      walk_at "ra"
      refine ixBl (bs := bsOf "BadStation") (j := 12) (sqL (by walk_at "hp")) (by decide +kernel) (b_idx _ _ (by decide +kernel) (by decide +kernel)) ?_
      walk_at "ra"
      with_reducible refine Rd.seq ?_
      walk_at "ra"
      refine eqv rfl ?_
      walk_at "ra"
      refine dno (by decide +kernel) ?_
      walk_at "ra"
      with_reducible refine Rd.seq ?_
      walk_at "ra"
      refine ⟨le_line (by simp), fun y1 hy1 => ?_⟩
      walk_at "ra"
      refine ⟨y1, _, rfl, .inr (sqT (by walk_at "hp")), rfl, rfl, ?_⟩
      walk_at "ra"
      refine bno (by decide +kernel) ?_
      walk_at "ra"
      with_reducible refine Rd.seq ?_
      walk_at "ra"
      refine ⟨le_line (by simp), fun y2 hy2 => ?_⟩
      walk_at "ra"
      refine ⟨y2, _, rfl, .inr (sqT (by walk_at "hp")), rfl, rfl, ?_⟩
      walk_at "ra"
      refine byes (by decide +kernel) ?_
      walk_at "ra"
      refine fldx (f := "station") ec ez ef (by walk_at "hp") T.no_BadStation_station rfl ?_ (fun R h => ⟨_, rfl, h⟩)
      walk_at "ra"
      refine ⟨le_line (by simp), fun z1 hz1 => ?_⟩
      walk_at "ra"
      refine ⟨le_line (by simp), fun z2 hz2 => ?_⟩
      refine k _ z2 ?_ ⟨z1, sqT (by walk_at "hp"), sqT (by walk_at "hp")⟩
      refine s9.trans ?_
      repeat (first | exact Same.refl _ | refine smN (by assumption) ?_)
end
end K59

set_option Elab.async false
set_option linter.all false
set_option maxRecDepth 100000
set_option maxHeartbeats 4000000
namespace K59
open PySem PySem.Spec PyProof.Rows L2 Rd
-- OPT pat = ⟨dr, n, p, ns, rfl, hp, hlen, hdr, k⟩
def doorErr (dr n : Int) (ns : List Int) : Option ErrV := if dr = 2 then someErr ns else trailErr n ns
theorem someErr_form {ns : List Int} {x : Str} {fs : List (Str × V)} (h : someErr ns = some (x, fs)) : Form x fs := by
  unfold someErr at h
  split at h
  · obtain rfl := (Prod.mk.inj (Option.some.inj h)).1
    obtain rfl := (Prod.mk.inj (Option.some.inj h)).2
    exact .inl ⟨rfl, _, rfl⟩
  · cases h
theorem trailErr_form {n : Int} {ns : List Int} {x : Str} {fs : List (Str × V)} (h : trailErr n ns = some (x, fs)) : Form x fs := by
  unfold trailErr at h
  cases h1 : cntErr n with
  | some e =>
    rw [h1] at h
    have h : some e = some (x, fs) := h
    obtain rfl := Option.some.inj h
    unfold cntErr at h1
    split at h1
    · obtain rfl := (Prod.mk.inj (Option.some.inj h1)).1
      obtain rfl := (Prod.mk.inj (Option.some.inj h1)).2
      exact .inl ⟨rfl, _, rfl⟩
    · split at h1
      · obtain rfl := (Prod.mk.inj (Option.some.inj h1)).1
        obtain rfl := (Prod.mk.inj (Option.some.inj h1)).2
        exact .inr (.inl ⟨rfl, _, _, rfl⟩)
      · cases h1
  | none =>
    rw [h1] at h
    have h : ((someErr ns).or (rowErr n ns)) = some (x, fs) := h
    cases h2 : someErr ns with
    | some e =>
      rw [h2] at h
      have h : some e = some (x, fs) := h
      obtain rfl := Option.some.inj h
      exact someErr_form h2
    | none =>
      rw [h2] at h
      have h : rowErr n ns = some (x, fs) := h
      obtain ⟨v, _, hv⟩ := List.exists_of_findSome?_eq_some h
      unfold stErr at hv
      split at hv
      · cases hv
      · obtain rfl := (Prod.mk.inj (Option.some.inj hv)).1
        obtain rfl := (Prod.mk.inj (Option.some.inj hv)).2
        exact .inr (.inr ⟨rfl, _, rfl⟩)
theorem callZ {sp : Pin → Sp} {a : Addr} {cls : Value} {d : Option Addr} {t : TA} {σ : L2.St} {H : Hp} {Q : VK} (h : t σ H fun vs H1 => ∀ oe, Zc cls d oe → (∃ vs, oe.data = .fields vs) → sp (a, oe) vs H1 Q E0) : tCallZ sp a cls d t σ H Q := h
theorem wAsT {K : PySem.W.Frag} {c cls : Value} {i : Nat} {ts : Addr → Value → Option Addr → TS} {Wout : WX} {D : Ends} {d : Option Addr} {σ : L2.St} {H : Hp} (e : PySem.W.exmOne K cls c = some true)
    (h : ∀ a, H a = none → ts a cls d { nx := fun σ' H' => D.nx (σ'.set i none) H', rt := D.rt, bk := fun σ' H' => D.bk (σ'.set i none) H', ct := fun σ' H' => D.ct (σ'.set i none) H' } (σ.set i (some (.ref a))) H) : wAs K c i ts Wout D cls d σ H := ⟨true, e, fun _ => h, fun z => by cases z⟩
def sp__law_door (K : PySem.W.Frag) : Sp := fun vs H Q E => ∃ (dr n : Int) (p : Addr) (ns : List Int), vs = [.int dr, .int n, .ref p] ∧ Sq K H p (ns.map V.int) ∧ ns.length ≤ 1000000 ∧ (dr = 0 ∨ dr = 1 ∨ dr = 2) ∧ ∀ H' t, Same H H' → Due K H' t (doorErr dr n ns) → Q (.ref t) H'
section
variable {K : PySem.W.Frag} {mg : Str → Option Value} {P : Program} {w : World} {base : Heap}
theorem ok__law_door (T : Tx K mg) : Okd P w K mg base 6 "_law_door" ["door", "n", "row"] (sp__law_door K) := by
  have c__law_kind := ok__law_kind (P := P) (w := w) (base := base) T
  have c_first_comings := ok_first_comings (P := P) (w := w) (base := base) T
  have c_last_leavings := ok_last_leavings (P := P) (w := w) (base := base) T
  have c_turned := ok_turned (P := P) (w := w) (base := base) T
  refine Okd.mk' T.g__law_door T.f__law_door (fun _ _ _ _ _ _ us hl => match us, hl with | [_, _, _], _ => rfl) sc__law_door (fun vs H Q E h => ?_) (fun cdv A outer s H vs Q E hr h => ?_)
  · obtain ⟨dr, n, p, ns, rfl, hp, hlen, hdr, k⟩ := h
    rfl
  · obtain ⟨dr, n, p, ns, rfl, hp, hlen, hdr, k⟩ := h
    refine ⟨_, (pss_cons (ps_try_as (i := 3) rfl rfl sc__law_door.nd rfl rfl ⟨rfl, by decide, .inl T.g_Refused⟩ (takes_of rfl rfl rfl rfl)
      (fun W pn xe tk po => (pss_cons (ps_if (pt_cmpR (k_same K (hr_units hr)) (pv 0) pe_int (nomark _)) (pss_one (ps_expr (pe_def c_first_comings (hr.mono (by decide)) tk rfl (pa_cons (pv 1) (pa_cons (pv 2) pa_nil))))) pss_nil)
      (pss_cons (ps_if (pt_cmpR (k_same K (hr_units hr)) (pv 0) pe_int (nomark _)) (pss_one (ps_expr (pe_def c_last_leavings (hr.mono (by decide)) tk rfl (pa_cons (pv 1) (pa_cons (pv 2) pa_nil))))) pss_nil)
      (pss_one (ps_if (pt_cmpR (k_same K (hr_units hr)) (pv 0) pe_int (nomark _)) (pss_one (ps_expr (pe_def c_turned (hr.mono (by decide)) tk rfl (pa_cons (pv 2) pa_nil)))) pss_nil)))))
      (fun a oe cls d pn hz hf => (pss_one (ps_ret (pe_hotz hz hf c__law_kind (hr.mono (by decide)) rfl (pa_cons (pv 3) pa_nil))))))
      (pss_one (ps_ret (pe_tup pa_nil)))), ?_⟩
    refine start' (σ' := [some _, some _, some _, none]) rfl ?_
    have exm : ∀ x fs, Form x fs → PySem.W.exmOne K (.ref (He.ga K x)) (.ref (He.ga K "Refused")) = some true := by
      intro x fs f
      rcases f with ⟨rfl, _⟩ | ⟨rfl, _⟩ | ⟨rfl, _⟩
      · exact T.ex_Empty
      · exact T.ex_TooMany
      · exact T.ex_BadStation
    have errc : ∀ x fs, Form x fs → ErrC K (He.ga K x) := fun x fs f => errB_ok (errsB_ok T.errs f.kind.2)
    have hot : ∀ (x : Str) (fs : List (Str × V)) (H1 : Hp) (d a : Addr), Form x fs → doorErr dr n ns = some (x, fs) → Same H H1 → H1 d = some (.xd fs) → ∀ oe : Obj, Zc (.ref (He.ga K x)) (some d) oe → (∃ vs, oe.data = .fields vs) → sp__law_kind K (a, oe) [.ref a] H1 Q E0 := fun x fs H1 d a f q s1 hd oe hz hf =>
      ⟨x, d, fs, rfl, ⟨errc x fs f, hz, hf, hd⟩, f, fun H' t s du => k H' t (s1.trans s) (by rw [q]; exact du)⟩
    have okk : ∀ H1, doorErr dr n ns = none → Same H H1 → tTup tNil [some (.int dr), some (.int n), some (.ref p), none] H1 Q := by
      intro H1 q s1
      walk_at "ra"
      refine ⟨le_line (by simp), fun t ht => ?_⟩
      exact k _ t (s1.trans (Rd.Same.new ht)) (by rw [q]; exact sqT upd_same)
    with_reducible refine Rd.seq ?_
    show tSeq _ _ _ _ _
    rcases hdr with rfl | rfl | rfl
    · have ed : doorErr 0 n ns = trailErr n ns := if_neg (by decide)
      walk_at "rd"
      refine ⟨n, p, ns, rfl, hp, hlen, fun q H1 t s1 _ => ?_, fun x fs q H1 d s1 hd => wAsT (exm x fs (trailErr_form q)) fun a ha => ?_⟩
      · walk_at "rd"
        exact okk H1 (ed.trans q) s1
      · walk_at "rd"
        refine callZ ?_
        walk_at "rd"
        exact hot x fs _ d a (trailErr_form q) (ed.trans q) (s1.trans (Rd.Same.new hd)) upd_same
    · have ed : doorErr 1 n ns = trailErr n ns := if_neg (by decide)
      walk_at "rd"
      refine ⟨n, p, ns, rfl, hp, hlen, fun q H1 t s1 _ => ?_, fun x fs q H1 d s1 hd => wAsT (exm x fs (trailErr_form q)) fun a ha => ?_⟩
      · walk_at "rd"
        exact okk H1 (ed.trans q) s1
      · walk_at "rd"
        refine callZ ?_
        walk_at "rd"
        exact hot x fs _ d a (trailErr_form q) (ed.trans q) (s1.trans (Rd.Same.new hd)) upd_same
    · have ed : doorErr 2 n ns = someErr ns := if_pos rfl
      have em : someErr (ns.map V.int) = someErr ns := by
        unfold someErr
        rw [List.length_map]
      walk_at "rd"
      refine ⟨p, _, rfl, hp, fun q H1 t s1 _ => ?_, fun x fs q H1 d s1 hd => wAsT (exm x fs (someErr_form (em.symm.trans q))) fun a ha => ?_⟩
      · walk_at "rd"
        exact okk H1 (ed.trans (em.symm.trans q)) s1
      · walk_at "rd"
        refine callZ ?_
        walk_at "rd"
        exact hot x fs _ d a (someErr_form (em.symm.trans q)) (ed.trans (em.symm.trans q)) (s1.trans (Rd.Same.new hd)) upd_same
end
end K59

set_option Elab.async false
set_option linter.all false
set_option maxRecDepth 100000
set_option maxHeartbeats 4000000
namespace K59
open PySem PySem.Spec PyProof.Rows L2 Rd
-- OPT pat = ⟨p, ns, rfl, hp, h0, hl, k⟩
def Scal (x : V) : Prop := x = .non ∨ (∃ i, x = .int i) ∨ ∃ s, x = .str s
theorem al_row {K : PySem.W.Frag} {H : Hp} {a b : Addr} {xs : List V} {d : Nat} (h1 : SqT K H a xs) (h2 : SqT K H b xs) (hs : ∀ x, x ∈ xs → Scal x) (hl : xs.length ≤ 1000000) : Al K (d + 2) H (.ref a) (.ref b) :=
  .inr ⟨a, b, xs, xs, rfl, rfl, h1, h2, rfl, hl, fun i u v p q => by
    obtain rfl := Option.some.inj (p.symm.trans q)
    exact .inl ⟨rfl, hs u (List.mem_of_getElem? p)⟩⟩
theorem scal_ints {ns : List Int} : ∀ x, x ∈ ns.map V.int → Scal x := fun x h => by
  obtain ⟨z, _, rfl⟩ := List.mem_map.mp h
  exact .inr (.inl ⟨z, rfl⟩)
theorem dp_ints {K : PySem.W.Frag} {H : Hp} {a : Addr} {ns : List Int} (h : SqL K H a (ns.map V.int)) : Dp K H (.ref a) (.list (ns.map PyData.int)) := by
  refine .lst h ?_
  clear h
  induction ns with
  | nil => exact .nil
  | cons n r ih => exact .cons (.int n) ih
theorem eqvAll_refl (ns : List Int) : PyData.eqvAll (ns.map PyData.int) (ns.map PyData.int) = true := by
  induction ns with
  | nil => rfl
  | cons n r ih =>
    show (PyData.eqv (.int n) (.int n) && PyData.eqvAll (r.map PyData.int) (r.map PyData.int)) = true
    rw [ih]
    show ((n == n) && true) = true
    simp
theorem eqv_refl_ints (ns : List Int) : PyData.eqv (.list (ns.map PyData.int)) (.list (ns.map PyData.int)) = true := eqvAll_refl ns
/-- a != b, the same ints -/
theorem neSame {K : PySem.W.Frag} {H : Hp} {a b : Addr} {ns : List Int} {Q : VK} (h1 : SqL K H a (ns.map V.int)) (h2 : SqL K H b (ns.map V.int)) (q : Q (.bl false) H) : rUnlike K (.ref a) (.ref b) H Q := by
  refine ned (dp_ints h1) (dp_ints h2) (PySem.W.shaped_ints ns) (PySem.W.shaped_ints ns) ?_
  rw [eqv_refl_ints]
  exact q
def sp__law_turn_right (K : PySem.W.Frag) : Sp := fun vs H Q E => ∃ (p : Addr) (ns : List Int), vs = [.ref p] ∧ SqL K H p (ns.map V.int) ∧ 0 < ns.length ∧ ns.length ≤ 2000 ∧ ∀ H', Same H H' → Q (.bl true) H'
theorem rev_tab (ns : List Int) : ((List.range ns.length).map fun k => V.int (ns.getD (ns.length - 1 - k) 0)) = (ns.map V.int).reverse := by
  apply List.ext_getElem?
  intro i
  by_cases h : i < ns.length
  · rw [tab_at h, List.getElem?_reverse (by rw [List.length_map]; exact h), List.length_map, intsAt (by omega)]
  · rw [List.getElem?_eq_none (by rw [tab_len]; omega), List.getElem?_eq_none (by rw [List.length_reverse, List.length_map]; omega)]
theorem some_no {ns : List Int} (h : 0 < ns.length) : ∀ x fs, someErr (ns.map V.int) ≠ some (x, fs) := fun x fs z => by
  unfold someErr at z
  rw [List.length_map, if_neg (by omega)] at z
  cases z
theorem some_no' {ns : List Int} (h : 0 < ns.length) : ∀ x fs, someErr ((ns.map V.int).reverse) ≠ some (x, fs) := fun x fs z => by
  unfold someErr at z
  rw [List.length_reverse, List.length_map, if_neg (by omega)] at z
  cases z
section
variable {K : PySem.W.Frag} {mg : Str → Option Value} {P : Program} {w : World} {base : Heap}
theorem ok__law_turn_right (T : Tx K mg) : Okd P w K mg base 8 "_law_turn_right" ["row"] (sp__law_turn_right K) := by
  have c__law_alike := ok__law_alike (P := P) (w := w) (base := base) T
  have c_turned := ok_turned (P := P) (w := w) (base := base) T
  refine Okd.mk' T.g__law_turn_right T.f__law_turn_right (fun _ _ _ _ _ _ us hl => match us, hl with | [_], _ => rfl) sc__law_turn_right (fun vs H Q E h => ?_) (fun cdv A outer s H vs Q E hr h => ?_)
  · obtain ⟨p, ns, rfl, hp, h0, hl, k⟩ := h
    rfl
  · obtain ⟨p, ns, rfl, hp, h0, hl, k⟩ := h
    refine ⟨_, (pss_cons (ps_set (i := 1) sc__law_turn_right.nd rfl (Or.inl rfl) (pe_callTy (k_ls K) (by rfl) T.m_list bt_list (pa_cons (pv 0) pa_nil)))
      (pss_cons (ps_set (i := 2) sc__law_turn_right.nd rfl (Or.inl rfl) (pe_def c_turned (hr.mono (by decide)) (takes_of rfl rfl rfl rfl) rfl (pa_cons (pv 1) pa_nil)))
      (pss_cons (ps_if (PW.pt (pw_or (pt_not (pt_val (pe_def c__law_alike (hr.mono (by decide)) (takes_of rfl rfl rfl rfl) rfl (pa_cons (pv 2) (pa_cons (pe_callTy (k_tp K) (by rfl) T.m_tuple bt_tuple (pa_cons (pe_lc (own := [("k", 3)]) rfl sc__law_turn_right.nd (pi_range1 (by rfl) T.m_range (pa_cons (pe_callB (k_ln K) (by rfl) T.m_len bt_len (pa_cons (pv 0) pa_nil)) pa_nil)) (blkOk_by (own := [("k", 3)]) (N := ["row", "passed", "told", "k"]) (sc := defScope s__law_turn_right) (by decide +kernel)) (fun _ _ _ _ _ => (pg_name (i := 3) sc__law_turn_right.nd rfl (Or.inl rfl))) (fun _ _ _ _ _ => pts_nil) (fun _ _ _ _ _ => (pe_ix (k_ix K) (pv 0) (pe_op op_sub (pe_op op_sub (pe_callB (k_ln K) (by rfl) T.m_len bt_len (pa_cons (pv 0) pa_nil)) pe_int) (pv 3)) (fun _ _ => rfl)))) pa_nil)) pa_nil))))) (pw_or1 (pt_cmpR (k_unlike K (hr_units hr)) (pv 1) (pv 0) (nomark _))))) (pss_one (ps_ret pe_bl)) pss_nil)
      (pss_one (ps_ret (pe_and (pe_def c__law_alike (hr.mono (by decide)) (takes_of rfl rfl rfl rfl) rfl (pa_cons (pe_def c_turned (hr.mono (by decide)) (takes_of rfl rfl rfl rfl) rfl (pa_cons (pv 2) pa_nil)) (pa_cons (pe_callTy (k_tp K) (by rfl) T.m_tuple bt_tuple (pa_cons (pv 0) pa_nil)) pa_nil))) (pe_one (pe_def c__law_alike (hr.mono (by decide)) (takes_of rfl rfl rfl rfl) rfl (pa_cons (pe_def c_turned (hr.mono (by decide)) (takes_of rfl rfl rfl rfl) rfl (pa_cons (pe_callTy (k_tp K) (by rfl) T.m_tuple bt_tuple (pa_cons (pv 0) pa_nil)) pa_nil)) (pa_cons (pv 2) pa_nil)))))))))), ?_⟩
    refine start' (σ' := [some _, none, none, none]) rfl ?_
    walk_at "ra"
    refine lstOf (.inl hp) fun l hl1 => ?_
    have s0 : Same H (upd H l (.lst (ns.map V.int))) := Rd.Same.new hl1
    have el : upd H l (.lst (ns.map V.int)) l = some (.lst (ns.map V.int)) := upd_same
    walk_at "ra"
    refine ⟨l, _, rfl, .inl (sqL el), fun _ H1 t s1 ht => ?_, fun x fs q => absurd q (some_no h0 x fs)⟩
    have s01 := s0.trans s1
    have el1 := s1 _ _ el
    have hp1 := goSqL s01 hp
    walk_at "ra"
    with_reducible refine Rd.seq ?_
    walk_at "ra"
    refine lcR1 (n := (ns.length : Int)) (fun R h => ?_) (by omega) (fun k => .int (ns.getD (ns.length - 1 - k) 0)) (fun _ => rfl) ?_ ?_
    · walk_at "ra"
      rw [List.length_map]
      exact h
    · intro j H2 R hj s2 hR
      have hp2 := goSqL s2 hp1
      walk_at "ra"
      rw [List.length_map]
      refine ixZ (j := ns.length - 1 - j) (.inl hp2) (by omega) (by omega) ?_
      exact hR H2 (Same.refl H2)
    · intro H2 D s2 hD hd
      rw [Int.toNat_natCast, rev_tab] at hd
      walk_at "ra"
      refine tupOfL (sqL hd) fun t2 ht2 => ?_
      have s3 : Same H2 (upd H2 t2 (.tup (ns.map V.int).reverse)) := Rd.Same.new ht2
      walk_at "ra"
      refine al_call (al_row (goSqT (s2.trans s3) ht) (sqT upd_same) (fun x hx => scal_ints x (List.mem_reverse.mp hx)) (by rw [List.length_reverse, List.length_map]; omega)) fun H4 s4 => ?_
      have s24 := (s2.trans s3).trans s4
      have hp4 := goSqL s24 hp1
      walk_at "ra"
      refine neSame (sqL (s24 _ _ el1)) hp4 ?_
      walk_at "ra"
      have ht4 := goSqT s24 ht
      refine ⟨t, _, rfl, .inr ht4, fun _ H5 u s5 hu => ?_, fun x fs q => absurd q (some_no' h0 x fs)⟩
      rw [List.reverse_reverse] at hu
      have hp5 := goSqL s5 hp4
      walk_at "ra"
      refine tupOfL hp5 fun t3 ht3 => ?_
      have s6 : Same H5 (upd H5 t3 (.tup (ns.map V.int))) := Rd.Same.new ht3
      walk_at "ra"
      refine al_call (al_row (goSqT s6 hu) (sqT upd_same) scal_ints (by rw [List.length_map]; omega)) fun H7 s7 => ?_
      have hp7 := goSqL (s6.trans s7) hp5
      walk_at "ra"
      refine tupOfL hp7 fun t4 ht4' => ?_
      have s8 : Same H7 (upd H7 t4 (.tup (ns.map V.int))) := Rd.Same.new ht4'
      walk_at "ra"
      refine ⟨t4, _, rfl, .inr (sqT upd_same), fun _ H9 w s9 hw => ?_, fun x fs q => absurd q (some_no h0 x fs)⟩
      walk_at "ra"
      refine al_call (al_row hw (goSqT (((s5.trans s6).trans s7).trans (s8.trans s9)) ht4) (fun x hx => scal_ints x (List.mem_reverse.mp hx)) (by rw [List.length_reverse, List.length_map]; omega)) fun Ha sa => ?_
      exact k Ha (s01.trans (s24.trans (((s5.trans s6).trans s7).trans ((s8.trans s9).trans sa))))
end
end K59

set_option Elab.async false
set_option linter.all false
set_option maxRecDepth 100000
set_option maxHeartbeats 4000000
namespace K59
open PySem PySem.Spec PyProof.Rows L2 Rd
theorem hall_of {n : Int} {ns : List Int} (h : ∀ v, v ∈ ns → 0 ≤ v ∧ v < n) : ∀ k, k < ns.length → 0 ≤ ns.getD k 0 ∧ ns.getD k 0 < n := fun k hk => h _ (by simp [List.getD, hk])
theorem trail_none {n : Int} {ns : List Int} (hn : 1 ≤ n ∧ n ≤ 40) (h0 : 0 < ns.length) (h : ∀ v, v ∈ ns → 0 ≤ v ∧ v < n) : trailErr n ns = none := by
  unfold trailErr
  rw [show cntErr n = none from (if_neg (by omega)).trans (if_neg (by omega)), show someErr ns = none from if_neg (by omega), rowErr_none h]
  rfl
theorem rev_getD {ns : List Int} {k : Nat} (h : k < ns.length) : ns.reverse.getD k 0 = ns.getD (ns.length - 1 - k) 0 := by
  unfold List.getD
  rw [List.getElem?_reverse h]
/-- the last step out of v backwards is the first step into v -/
theorem last_first {v : Nat} {ns : List Int} (h0 : 0 < ns.length) (hv : ¬ ns.getD 0 0 = (v : Int)) : (outsAt v ns.reverse (ns.length - 1)).getLast? = firstFrom v ns 1 := by
  rcases first_place (v := (v : Int)) (ns := ns) with ⟨j, h1, h2, h3⟩ | h1
  · have hj : 1 ≤ j := by
      rcases Nat.eq_zero_or_pos j with z | z
      · subst z
        exact absurd h2 hv
      · exact z
    rw [firstFrom_at hj h1 h2 fun k _ b => h3 k b]
    have e : ns.length - 1 = (ns.length - 1 - j + 1) + (j - 1) := by omega
    rw [e, outs_top (i := ns.length - 1 - j + 1) (j := j - 1) (fun k a b => by
      rw [rev_getD (by omega)]
      exact h3 _ (by omega)), outs_yes (by rw [rev_getD (by omega), ← h2]; congr 1; omega), rev_getD (by omega)]
    have ex : ns.length - 1 - (ns.length - 1 - j + 1) = j - 1 := by omega
    rw [ex, List.getLast?_concat]
  · rw [firstFrom_no fun k _ b => h1 k b]
    have e : ns.length - 1 = 0 + (ns.length - 1) := by omega
    rw [e, outs_top (i := 0) (j := ns.length - 1) (fun k a b => by
      rw [rev_getD (by omega)]
      exact h1 _ (by omega))]
    rfl
/-! ### counts -/
def sumTo (n : Nat) (f : Nat → Nat) : Nat := ((List.range n).map f).sum
theorem sumTo_succ (n : Nat) (f : Nat → Nat) : sumTo (n + 1) f = sumTo n f + f n := by
  unfold sumTo
  rw [List.range_succ, List.map_append, List.sum_append]
  simp
theorem sumTo_same {n : Nat} {f g : Nat → Nat} (h : ∀ u, u < n → g u = f u) : sumTo n g = sumTo n f := by
  induction n with
  | zero => rfl
  | succ n ih => rw [sumTo_succ, sumTo_succ, ih fun u hu => h u (by omega), h n (by omega)]
theorem sumTo_step {n j c : Nat} {f g : Nat → Nat} (hj : j < n) (hc : g j = f j + c) (h : ∀ u, u < n → u ≠ j → g u = f u) : sumTo n g = sumTo n f + c := by
  induction n with
  | zero => omega
  | succ n ih =>
    rw [sumTo_succ, sumTo_succ]
    by_cases e : j = n
    · subst e
      rw [sumTo_same fun u hu => h u (by omega) (by omega), hc]
      omega
    · rw [ih (by omega) (fun u hu => h u (by omega)), h n (by omega) (fun z => e z.symm)]
      omega
/-- how often v stands among the first i -/
def cntTo (v : Int) (ns : List Int) (i : Nat) : Nat := ((List.range i).filter fun k => decide (ns.getD k 0 = v)).length
theorem cntTo_succ (v : Int) (ns : List Int) (i : Nat) : cntTo v ns (i + 1) = cntTo v ns i + (if ns.getD i 0 = v then 1 else 0) := by
  unfold cntTo
  rw [List.range_succ, List.filter_append, List.length_append]
  by_cases h : ns.getD i 0 = v
  · rw [if_pos h, List.filter_cons_of_pos (by simpa using h)]
    rfl
  · rw [if_neg h, List.filter_cons_of_neg (by simpa using h)]
    rfl
theorem outs_len (v : Nat) (ns : List Int) (i : Nat) : (outsAt v ns i).length = cntTo (v : Int) ns i := by
  unfold outsAt cntTo
  rw [List.length_map]
theorem flat_cnt {n : Nat} {v : Int} {ns : List Int} {i : Nat} (hall : ∀ k, k < i → 0 ≤ ns.getD k 0 ∧ ns.getD k 0 < n) : sumTo n (fun u => (outsAt u ns i).count v) + (if ns.getD 0 0 = v then 1 else 0) = cntTo v ns (i + 1) := by
  induction i with
  | zero =>
    have e : sumTo n (fun u => (outsAt u ns 0).count v) = sumTo n (fun _ => 0) := sumTo_same fun u _ => rfl
    have e2 : ∀ n, sumTo n (fun _ => 0) = 0 := fun n => by
      induction n with
      | zero => rfl
      | succ n ih => rw [sumTo_succ, ih]
    rw [e, e2, cntTo_succ]
    show _ = 0 + _
    rfl
  | succ i ih =>
    have hb := hall i (by omega)
    obtain ⟨j, hj⟩ : ∃ j : Nat, ns.getD i 0 = j := ⟨(ns.getD i 0).toNat, by omega⟩
    rw [cntTo_succ, ← ih fun k hk => hall k (by omega)]
    rw [sumTo_step (f := fun u => (outsAt u ns i).count v) (g := fun u => (outsAt u ns (i + 1)).count v) (j := j) (c := if ns.getD (i + 1) 0 = v then 1 else 0) (by omega) ?_ ?_]
    · omega
    · show (outsAt j ns (i + 1)).count v = (outsAt j ns i).count v + _
      rw [outs_yes hj, List.count_append]
      congr 1
      by_cases h : ns.getD (i + 1) 0 = v
      · rw [if_pos h, h]
        simp
      · rw [if_neg h, List.count_eq_zero]
        simpa using fun z => h z.symm
    · intro u hu hne
      show (outsAt u ns (i + 1)).count v = (outsAt u ns i).count v
      rw [outs_no (by rw [hj]; intro z; exact hne (Int.ofNat.inj z).symm)]
theorem piles_at {n v : Nat} {ns : List Int} (h : v < n) : (trailPiles n ns).getD v [] = outsAt v ns (ns.length - 1) := by
  unfold trailPiles List.getD
  rw [tab_at h]
  rfl
theorem piles_len (n : Nat) (ns : List Int) : (trailPiles n ns).length = n := by
  unfold trailPiles
  rw [tab_len]
theorem outs_mem {v i : Nat} {ns : List Int} {x : Int} (h : x ∈ outsAt v ns i) : ∃ k, k < i ∧ x = ns.getD (k + 1) 0 := by
  unfold outsAt at h
  obtain ⟨k, hk, rfl⟩ := List.mem_map.mp h
  exact ⟨k, List.mem_range.mp (List.mem_filter.mp hk).1, rfl⟩
section
variable {n : Nat} {ns : List Int}
theorem end_at (h0 : 0 < ns.length) (hall : ∀ k, k < ns.length → 0 ≤ ns.getD k 0 ∧ ns.getD k 0 < n) {v : Nat} (hv : v < n) : (endOf (trailPiles n ns) [ns.getD 0 0]).getD v 0 = if ns.getD (ns.length - 1) 0 = (v : Int) then 1 else 0 := by
  have e : (endOf (trailPiles n ns) [ns.getD 0 0]).getD v 0 = (((trailPiles n ns).flatten.count (v : Int) : Nat) : Int) + (([ns.getD 0 0].count (v : Int) : Nat) : Int) - (((outsAt v ns (ns.length - 1)).length : Nat) : Int) := by
    unfold endOf endCounts
    rw [lensOf_len, piles_len]
    rw [show ∀ f : Nat → Int, ((List.range n).map f).getD v 0 = f v from fun f => by unfold List.getD; rw [tab_at hv]; rfl]
    have a1 : (tally n (trailPiles n ns).flatten).getD v 0 = (((trailPiles n ns).flatten.count (v : Int) : Nat) : Int) := by unfold List.getD; rw [tally_at _ hv]; rfl
    have a2 : (tally n [ns.getD 0 0]).getD v 0 = (([ns.getD 0 0].count (v : Int) : Nat) : Int) := by unfold List.getD; rw [tally_at _ hv]; rfl
    have a3 : (lensOf (trailPiles n ns)).getD v 0 = (((outsAt v ns (ns.length - 1)).length : Nat) : Int) := by
      unfold lensOf trailPiles List.getD
      rw [List.map_map, tab_at hv]
      rfl
    rw [a1, a2, a3]
  rw [e, outs_len]
  have e2 : (trailPiles n ns).flatten.count (v : Int) = sumTo n (fun u => (outsAt u ns (ns.length - 1)).count (v : Int)) := by
    rw [List.count_flatten]
    unfold trailPiles sumTo
    rw [List.map_map]
    rfl
  have e3 : ([ns.getD 0 0].count (v : Int)) = if ns.getD 0 0 = (v : Int) then 1 else 0 := by
    by_cases h : ns.getD 0 0 = (v : Int)
    · rw [if_pos h, h]
      simp
    · rw [if_neg h, List.count_eq_zero]
      simpa using fun z => h z.symm
  have e4 := flat_cnt (n := n) (v := (v : Int)) (ns := ns) (i := ns.length - 1) fun k hk => hall k (by omega)
  have e5 := cntTo_succ (v : Int) ns (ns.length - 1)
  rw [e2, e3]
  by_cases h : ns.getD (ns.length - 1) 0 = (v : Int)
  · rw [if_pos h] at e5 ⊢
    omega
  · rw [if_neg h] at e5 ⊢
    omega
theorem end_pos (h0 : 0 < ns.length) (hall : ∀ k, k < ns.length → 0 ≤ ns.getD k 0 ∧ ns.getD k 0 < n) : ∀ c, c ∈ endOf (trailPiles n ns) [ns.getD 0 0] → 0 ≤ c := by
  intro c hc
  obtain ⟨v, hv, rfl⟩ := List.mem_iff_getElem.mp hc
  have hv2 : v < n := by
    rw [endOf_len, piles_len] at hv
    exact hv
  have hg : ∀ (l : List Int) (h : v < l.length), l[v] = l.getD v 0 := fun l h => by simp [List.getD, h]
  rw [hg _ hv, end_at h0 hall hv2]
  split <;> omega
theorem deal_ok (hn : 1 ≤ n ∧ n ≤ 40) (h0 : 0 < ns.length) (hall : ∀ k, k < ns.length → 0 ≤ ns.getD k 0 ∧ ns.getD k 0 < n) (lim : limOk (trailPiles n ns)) : DealOk (trailPiles n ns) [ns.getD 0 0] := by
  refine ⟨by rw [piles_len]; omega, fun v hv => ?_, fun v hv => ?_, ?_⟩
  · rw [List.mem_singleton.mp hv, piles_len]
    exact hall 0 h0
  · obtain ⟨r, hr, hv⟩ := List.mem_flatten.mp hv
    obtain ⟨u, _, rfl⟩ := List.mem_map.mp hr
    obtain ⟨k, hk, rfl⟩ := outs_mem hv
    rw [piles_len]
    exact hall _ (by omega)
  · rw [List.length_flatten]
    have := lim.2
    omega
theorem deal_none (hn : 1 ≤ n ∧ n ≤ 40) (h0 : 0 < ns.length) (hall : ∀ k, k < ns.length → 0 ≤ ns.getD k 0 ∧ ns.getD k 0 < n) (lim : limOk (trailPiles n ns)) : dealErr (trailPiles n ns) [ns.getD 0 0] = none := by
  have e1 : cntErr ((trailPiles n ns).length : Nat) = none := by
    rw [piles_len]
    exact (if_neg (by omega)).trans (if_neg (by omega))
  have e2 : (trailPiles n ns).findSome? (pileErr ((trailPiles n ns).length : Nat)) = none := by
    refine List.findSome?_eq_none_iff.mpr fun r hr => ?_
    have hl := lim.1 r hr
    unfold pileErr
    rw [if_neg (by omega), piles_len]
    refine rowErr_none fun v hv => ?_
    obtain ⟨u, _, rfl⟩ := List.mem_map.mp hr
    obtain ⟨k, hk, rfl⟩ := outs_mem hv
    exact hall _ (by omega)
  have e3 : totErr ((((trailPiles n ns).map List.length).sum : Nat) : Int) = none := if_neg (by have := lim.2; omega)
  have e4 : startsErr ((trailPiles n ns).length : Nat) [ns.getD 0 0] = none := by
    unfold startsErr
    rw [if_neg (by simp), piles_len]
    exact rowErr_none fun v hv => by rw [List.mem_singleton.mp hv]; exact hall 0 h0
  unfold dealErr pilesErr
  rw [e1, e2, e3, e4]
  rfl
end
theorem oth_iff {cs sz : List Int} {v : Nat} : (v : Int) ∈ othersOf cs sz ↔ v < cs.length ∧ cs.getD v 0 = 0 ∧ 1 ≤ sz.getD v 0 := by
  unfold othersOf othersTo
  rw [List.mem_map]
  refine ⟨fun ⟨j, hj, e⟩ => ?_, fun ⟨h1, h2⟩ => ⟨v, List.mem_filter.mpr ⟨List.mem_range.mpr h1, decide_eq_true h2⟩, rfl⟩⟩
  have e : j = v := Int.ofNat.inj e
  subst e
  obtain ⟨h1, h2⟩ := List.mem_filter.mp hj
  exact ⟨List.mem_range.mp h1, of_decide_eq_true h2⟩
/-- the aim of the turned trail's deal: the first comings -/
theorem aim_turned {n : Nat} {ns : List Int} (h0 : 0 < ns.length) (hall : ∀ k, k < ns.length → 0 ≤ ns.getD k 0 ∧ ns.getD k 0 < n) : aimOf (trailPiles n ns.reverse) [ns.reverse.getD 0 0] = firstsOf n ns := by
  have hl : ns.reverse.length = ns.length := List.length_reverse
  have hall' : ∀ k, k < ns.reverse.length → 0 ≤ ns.reverse.getD k 0 ∧ ns.reverse.getD k 0 < n := fun k hk => by
    rw [rev_getD (by omega)]
    exact hall _ (by omega)
  unfold aimOf arrAt firstsOf
  rw [piles_len]
  refine tab_ext fun v hv => ?_
  have e1 := end_at (n := n) (ns := ns.reverse) (by omega) hall' hv
  rw [hl, rev_getD (k := ns.length - 1) (by omega), show ns.length - 1 - (ns.length - 1) = 0 by omega] at e1
  have e2 : (lensOf (trailPiles n ns.reverse)).getD v 0 = (((outsAt v ns.reverse (ns.length - 1)).length : Nat) : Int) := by
    unfold lensOf trailPiles List.getD
    rw [List.map_map, tab_at hv, hl]
    rfl
  rw [piles_at hv, hl]
  have mem : (v : Int) ∈ othOf (trailPiles n ns.reverse) [ns.reverse.getD 0 0] ↔ ¬ ns.getD 0 0 = (v : Int) ∧ 1 ≤ (outsAt v ns.reverse (ns.length - 1)).length := by
    unfold othOf
    rw [oth_iff, endOf_len, piles_len, e1, e2]
    by_cases h : ns.getD 0 0 = (v : Int)
    · rw [if_pos h]
      exact ⟨fun z => absurd z.2.1 (by decide), fun z => absurd h z.1⟩
    · rw [if_neg h]
      refine ⟨fun z => ⟨h, by omega⟩, fun z => ⟨hv, rfl, by omega⟩⟩
  by_cases h : ns.getD 0 0 = (v : Int)
  · rw [if_pos h, if_neg fun z => (mem.mp z).1 h]
  · rw [if_neg h, ← last_first h0 h]
    by_cases h2 : 1 ≤ (outsAt v ns.reverse (ns.length - 1)).length
    · rw [if_pos (mem.mpr ⟨h, h2⟩)]
      generalize outsAt v ns.reverse (ns.length - 1) = l at h2 ⊢
      rw [List.getLastD_eq_getLast?]
      cases e : l.getLast? with
      | none =>
        rw [List.getLast?_eq_none_iff] at e
        subst e
        cases h2
      | some x => rfl
    · rw [if_neg fun z => h2 (mem.mp z).2]
      have e : outsAt v ns.reverse (ns.length - 1) = [] := List.eq_nil_of_length_eq_zero (by omega)
      rw [e]
      rfl
end K59

set_option Elab.async false
set_option linter.all false
set_option maxRecDepth 100000
set_option maxHeartbeats 4000000
namespace K59
open PySem PySem.Spec PyProof.Rows L2 Rd
-- OPT pat = ⟨a0, sc, rfl, hsc, k⟩
-- OPT top = 1
def sp_law (K : PySem.W.Frag) : Sp := fun vs H Q E => ∃ (a : Addr) (ns : List Int), vs = [.ref a] ∧ SqL K H a (ns.map V.int) ∧ ∀ H', Q (.bl true) H'
/-- [e for k in range(n)], e draws from the store -/
theorem lcR1S {σ : L2.St} {H : Hp} {Q : VK} {te : TE} {ta : TA} {n : Int} {j : Nat} {vs : List Nat} {H0 : Hp} {a : Addr} {U : Nat} (step : Nat) (ha : ∀ R : List V → Hp → Prop, R [.int n] H → ta σ H R) (hn : n ≤ 1000) (hz : ∀ x, wipe ((wipe σ vs).set j (some x)) vs = wipe σ vs)
    (st : Sto H0 H a U)
    (he : ∀ (k : Nat) H1 (R : VK), (k : Int) < n → But a H H1 → Sto H0 H1 a (U + k * step) → (∀ v H2, But a H1 H2 → Sto H0 H2 a (U + (k + 1) * step) → R (.int v) H2) → te ((wipe σ vs).set j (some (.int k))) H1 R)
    (q : RetW H0 H a (U + n.toNat * step) (fun ms => ms.length = n.toNat) Q) (hb : -(2 ^ 62) ≤ n := by omega) : tLc (iRng1 ta) (gName j) tYes te vs σ H Q := by
  refine ha _ ⟨n, rfl, hb, by omega, fun D hD => ?_⟩
  have ne : D ≠ a := by
    obtain ⟨xs, e⟩ := st.at
    exact Ne.symm (ne_of_none e hD)
  have hD0 : H0 D = none := st.but.free ne hD
  refine lc_range (fun k H' => ∃ ms : List Int, But a H H' ∧ Sto H0 H' a (U + k * step) ∧ H' D = some (.lst (ms.map V.int)) ∧ ms.length = k) ⟨[], (But.refl a H).own hD, by rw [Nat.zero_mul]; exact st.own hD0 ne, upd_same, rfl⟩ (fun k H' hk ⟨ms, b, s, e, l⟩ => ?_) fun H' ⟨ms, b, s, e, l⟩ => q D ms H' b (by exact s) hD e (by omega)
  have e0 : (0 : Int) + (k : Int) = (k : Int) := by omega
  rw [e0]
  refine ⟨hz _, tyes (yes ?_)⟩
  refine he k H' _ (by omega) b s fun v H2 b2 s2 => ⟨ms.map V.int, b2 D _ ne e, sm_le (by rw [List.length_map]; omega), ms ++ [v], (b.trans b2).own hD, s2.own hD0 ne, ?_, by simp [l]⟩
  rw [upd_same, List.map_append]
  rfl
theorem Form.scal {x : Str} {fs : List (Str × V)} (f : Form x fs) : ∀ v, v ∈ fs.reverse.map Prod.snd → Scal v := by
  rcases f with ⟨rfl, s, rfl⟩ | ⟨rfl, s, n, rfl⟩ | ⟨rfl, i, rfl⟩
  · intro v hv
    rw [List.mem_singleton.mp hv]
    exact .inr (.inr ⟨s, rfl⟩)
  · intro v hv
    have hv : v ∈ [V.str s, V.int n] := hv
    rcases List.mem_cons.mp hv with h | h
    · rw [h]
      exact .inr (.inr ⟨s, rfl⟩)
    · rw [List.mem_singleton.mp h]
      exact .inr (.inl ⟨n, rfl⟩)
  · intro v hv
    rw [List.mem_singleton.mp hv]
    exact .inr (.inl ⟨i, rfl⟩)
theorem Form.len {x : Str} {fs : List (Str × V)} (f : Form x fs) : (fs.reverse.map Prod.snd).length ≤ 1000000 := by
  rcases f with ⟨rfl, s, rfl⟩ | ⟨rfl, s, n, rfl⟩ | ⟨rfl, i, rfl⟩ <;> simp
theorem al_due {K : PySem.W.Frag} {H : Hp} {t d : Addr} {r : Option ErrV} (h1 : Due K H t r) (h2 : Due K H d r) (f : ∀ x fs, r = some (x, fs) → Form x fs) : Al K 6 H (.ref t) (.ref d) := by
  cases r with
  | none => exact al_row (xs := []) h1 h2 (fun x h => by cases h) (by simp)
  | some e =>
    obtain ⟨x, fs⟩ := e
    obtain ⟨u, a1, a2⟩ := h1
    obtain ⟨w, b1, b2⟩ := h2
    have fo := f x fs rfl
    refine .inr ⟨t, d, _, _, rfl, rfl, a1, b1, rfl, by simp, fun i p q h1 h2 => ?_⟩
    match i, h1, h2 with
    | 0, h1, h2 =>
      obtain rfl := Option.some.inj h1
      obtain rfl := Option.some.inj h2
      exact .inl ⟨rfl, .inr (.inr ⟨x, rfl⟩)⟩
    | 1, h1, h2 =>
      obtain rfl := Option.some.inj h1
      obtain rfl := Option.some.inj h2
      exact al_row a2 b2 fo.scal fo.len
    | n + 2, h1, _ => cases h1
theorem scal_optV (o : Option Int) : Scal (optV o) := by
  cases o with
  | none => exact .inl rfl
  | some i => exact .inr (.inl ⟨i, rfl⟩)
theorem scal_firsts {n : Nat} {ns : List Int} : ∀ x, x ∈ firstsOf n ns → Scal x := fun x h => by
  obtain ⟨v, _, rfl⟩ := List.mem_map.mp h
  split
  · exact .inl rfl
  · exact scal_optV _
theorem scal_lasts {n : Nat} {ns : List Int} : ∀ x, x ∈ lastsOf n ns → Scal x := fun x h => by
  obtain ⟨v, _, rfl⟩ := List.mem_map.mp h
  exact scal_optV _
theorem firsts_len (n : Nat) (ns : List Int) : (firstsOf n ns).length = n := tab_len
theorem lasts_len (n : Nat) (ns : List Int) : (lastsOf n ns).length = n := tab_len
theorem revL {K : PySem.W.Frag} {σ : L2.St} {H : Hp} {Q : VK} {te : TE} {a : Addr} {xs : List V} (hv : ∀ R : VK, R (.ref a) H → te σ H R) (h : SqL K H a xs) (q : ∀ p, H p = none → Q (.ref p) (upd H p (.lst xs.reverse))) : tOr2 (tRevL K te) (tRevT K te) σ H Q := .inl (hv _ ⟨a, xs, rfl, h, q⟩)
theorem neRefl {K : PySem.W.Frag} {H : Hp} {Q : VK} {x : V} (s : Scal x) (q : Q (.bl false) H) : rUnlike K x x H Q := by
  refine nev ?_ ?_
  · rcases s with rfl | ⟨i, rfl⟩ | ⟨z, rfl⟩ <;> rfl
  · have e : decide (x = x) = true := decide_eq_true rfl
    rw [e]
    exact q
theorem dp_nil {K : PySem.W.Frag} {H : Hp} {a : Addr} (h : SqT K H a []) : Dp K H (.ref a) (.tuple []) := .tup h .nil
theorem walk_rev {n : Int} {ms : List Int} (h : ∀ v, v ∈ ms → 0 ≤ v ∧ v < n) : ∀ v, v ∈ ms.reverse → 0 ≤ v ∧ v < n := fun v hv => h v (List.mem_reverse.mp hv)
section
variable {K : PySem.W.Frag} {mg : Str → Option Value} {P : Program} {w : World} {base : Heap}
theorem fn_law (T : Tx K mg) {fd : FuncData} (F : FunD K "law" "law" (defArgs s_law) (defBody s_law) (defScope s_law) [] [] (He.ga K "law") fd) : FnOk P w K mg base (L2.CX P w) 9 (He.ga K "law") fd ["script"] (sp_law K) := by
  have c__law_alike := ok__law_alike (P := P) (w := w) (base := base) T
  have c__law_bent_walk := ok__law_bent_walk (P := P) (w := w) (base := base) T
  have c__law_door := ok__law_door (P := P) (w := w) (base := base) T
  have c__law_first_comings := ok__law_first_comings (P := P) (w := w) (base := base) T
  have c__law_last_leavings := ok__law_last_leavings (P := P) (w := w) (base := base) T
  have c__law_limit := ok__law_limit (P := P) (w := w) (base := base) T
  have c__law_number := ok__law_number (P := P) (w := w) (base := base) T
  have c__law_store := ok__law_store (P := P) (w := w) (base := base) T
  have c__law_take := ok__law_take (P := P) (w := w) (base := base) T
  have c__law_trail_piles := ok__law_trail_piles (P := P) (w := w) (base := base) T
  have c__law_turn_right := ok__law_turn_right (P := P) (w := w) (base := base) T
  have c__law_walked := ok__law_walked (P := P) (w := w) (base := base) T
  have c_aim := ok_aim (P := P) (w := w) (base := base) T
  have c_deal_of := ok_deal_of (P := P) (w := w) (base := base) T
  have c_first_comings := ok_first_comings (P := P) (w := w) (base := base) T
  have c_last_leavings := ok_last_leavings (P := P) (w := w) (base := base) T
  have c_turned := ok_turned (P := P) (w := w) (base := base) T
  refine F.ok sc_law (fun vs H Q E h => ?_) (fun cdv A outer s H vs Q E hr h => ?_)
  · obtain ⟨a0, sc, rfl, hsc, k⟩ := h
    rfl
  · obtain ⟨a0, sc, rfl, hsc, k⟩ := h
    refine ⟨_, (pss_cons (ps_set (i := 1) sc_law.nd rfl (Or.inr rfl) (pe_def c__law_store (hr.mono (by decide)) (takes_of rfl rfl rfl rfl) rfl (pa_cons (pv 0) pa_nil)))
      (pss_cons (ps_set (i := 2) sc_law.nd rfl (Or.inl rfl) (pe_op (k_plus K) pe_int (pe_def c__law_take (hr.mono (by decide)) (takes_of rfl rfl rfl rfl) rfl (pa_cons (pv 1) (pa_cons pe_int pa_nil)))))
      (pss_cons (ps_if (pt_cmpR (k_same K (hr_units hr)) (pe_def c__law_take (hr.mono (by decide)) (takes_of rfl rfl rfl rfl) rfl (pa_cons (pv 1) (pa_cons pe_int pa_nil))) pe_int (nomark _)) (pss_one (ps_set (i := 2) sc_law.nd rfl (Or.inl rfl) (pe_op (k_plus K) pe_int (pe_def c__law_take (hr.mono (by decide)) (takes_of rfl rfl rfl rfl) rfl (pa_cons (pv 1) (pa_cons pe_int pa_nil)))))) pss_nil)
      (pss_cons (ps_set (i := 3) sc_law.nd rfl (Or.inl rfl) (pe_def c__law_walked (hr.mono (by decide)) (takes_of rfl rfl rfl rfl) rfl (pa_cons (pv 1) (pa_cons (pv 2) pa_nil))))
      (pss_cons (ps_set (i := 4) sc_law.nd rfl (Or.inr rfl) (pe_lc (own := [("v", 9)]) rfl sc_law.nd (pi_range1 (by rfl) T.m_range (pa_cons (pv 2) pa_nil)) (blkOk_by (own := [("v", 9)]) (N := ["script", "store", "n", "row", "names", "passed", "firsts", "back", "lasts", "v", "bent", "door"]) (sc := defScope s_law) (by decide +kernel)) (fun _ _ _ _ _ => (pg_name (i := 9) sc_law.nd rfl (Or.inl rfl))) (fun _ _ _ _ _ => pts_nil) (fun _ _ _ _ _ => (pe_def c__law_number (hr.mono (by decide)) takes0 rfl (pa_cons (pv 1) (pa_cons pe_int pa_nil))))))
      (pss_cons (ps_if (PW.pt (pw_or (pt_not (pt_val (pe_def c__law_turn_right (hr.mono (by decide)) (takes_of rfl rfl rfl rfl) rfl (pa_cons (pv 3) pa_nil)))) (pw_or1 (pt_not (pt_val (pe_def c__law_turn_right (hr.mono (by decide)) (takes_of rfl rfl rfl rfl) rfl (pa_cons (pe_lc (own := [("v", 9)]) rfl sc_law.nd (pi_or2 (ki_list K (pv 3)) (ki_tup K (pv 3))) (blkOk_by (own := [("v", 9)]) (N := ["script", "store", "n", "row", "names", "passed", "firsts", "back", "lasts", "v", "bent", "door"]) (sc := defScope s_law) (by decide +kernel)) (fun _ _ _ _ _ => (pg_name (i := 9) sc_law.nd rfl (Or.inl rfl))) (fun _ _ _ _ _ => pts_nil) (fun _ _ _ _ _ => (pe_ix (k_ix K) (pv 4) (pv 9) (fun _ _ => rfl)))) pa_nil))))))) (pss_one (ps_ret pe_bl)) pss_nil)
      (pss_cons (ps_set (i := 5) sc_law.nd rfl (Or.inl rfl) (pe_callTy (k_ls K) (by rfl) T.m_list bt_list (pa_cons (pv 3) pa_nil)))
      (pss_cons (ps_set (i := 6) sc_law.nd rfl (Or.inl rfl) (pe_def c__law_first_comings (hr.mono (by decide)) (takes_of rfl rfl rfl rfl) rfl (pa_cons (pv 2) (pa_cons (pv 3) pa_nil))))
      (pss_cons (ps_if (PW.pt (pw_or (pt_not (pt_val (pe_def c__law_alike (hr.mono (by decide)) (takes_of rfl rfl rfl rfl) rfl (pa_cons (pe_def c_first_comings (hr.mono (by decide)) (takes_of rfl rfl rfl rfl) rfl (pa_cons (pv 2) (pa_cons (pv 5) pa_nil))) (pa_cons (pv 6) pa_nil))))) (pw_or1 (pt_cmpR (k_unlike K (hr_units hr)) (pv 5) (pv 3) (nomark _))))) (pss_one (ps_ret pe_bl)) pss_nil)
      (pss_cons (ps_if (PW.pt (pw_or (pt_not (pt_val (pe_def c__law_alike (hr.mono (by decide)) (takes_of rfl rfl rfl rfl) rfl (pa_cons (pe_def c_last_leavings (hr.mono (by decide)) (takes_of rfl rfl rfl rfl) rfl (pa_cons (pv 2) (pa_cons (pv 5) pa_nil))) (pa_cons (pe_def c__law_last_leavings (hr.mono (by decide)) (takes_of rfl rfl rfl rfl) rfl (pa_cons (pv 2) (pa_cons (pv 3) pa_nil))) pa_nil))))) (pw_or1 (pt_cmpR (k_unlike K (hr_units hr)) (pv 5) (pv 3) (nomark _))))) (pss_one (ps_ret pe_bl)) pss_nil)
      (pss_cons (ps_if (pt_not (pt_val (pe_def c__law_alike (hr.mono (by decide)) (takes_of rfl rfl rfl rfl) rfl (pa_cons (pe_def c_first_comings (hr.mono (by decide)) (takes_of rfl rfl rfl rfl) rfl (pa_cons (pv 2) (pa_cons (pe_callTy (k_tp K) (by rfl) T.m_tuple bt_tuple (pa_cons (pv 3) pa_nil)) pa_nil))) (pa_cons (pv 6) pa_nil))))) (pss_one (ps_ret pe_bl)) pss_nil)
      (pss_cons (ps_set (i := 7) sc_law.nd rfl (Or.inl rfl) (pe_def c_turned (hr.mono (by decide)) (takes_of rfl rfl rfl rfl) rfl (pa_cons (pv 5) pa_nil)))
      (pss_cons (ps_set (i := 8) sc_law.nd rfl (Or.inl rfl) (pe_def c_last_leavings (hr.mono (by decide)) (takes_of rfl rfl rfl rfl) rfl (pa_cons (pv 2) (pa_cons (pv 7) pa_nil))))
      (pss_cons (ps_if (pt_not (pt_val (pe_def c__law_alike (hr.mono (by decide)) (takes_of rfl rfl rfl rfl) rfl (pa_cons (pv 8) (pa_cons (pe_def c__law_last_leavings (hr.mono (by decide)) (takes_of rfl rfl rfl rfl) rfl (pa_cons (pv 2) (pa_cons (pe_or2 (kp_revL K (pv 3)) (kp_revT K (pv 3))) pa_nil))) pa_nil))))) (pss_one (ps_ret pe_bl)) pss_nil)
      (pss_cons (ps_for (passes_of rfl) rfl (pi_range1 (by rfl) T.m_range (pa_cons (pv 2) pa_nil)) (pg_name (i := 9) sc_law.nd rfl (Or.inl rfl)) (pss_one (ps_if (PW.pt (pw_and (pt_cmpR (k_unlike K (hr_units hr)) (pv 9) (pe_ix (k_ix K) (pv 3) pe_int (fun _ _ => rfl)) (nomark _)) (pw_and1 (pt_cmpR (k_unlike K (hr_units hr)) (pe_ix (k_ix K) (pv 8) (pv 9) (fun _ _ => rfl)) (pe_ix (k_ix K) (pv 6) (pv 9) (fun _ _ => rfl)) (nomark _))))) (pss_one (ps_ret pe_bl)) pss_nil)))
      (pss_cons (ps_if (pt_not (pt_val (pe_def c__law_alike (hr.mono (by decide)) (takes_of rfl rfl rfl rfl) rfl (pa_cons (pe_def c_first_comings (hr.mono (by decide)) (takes_of rfl rfl rfl rfl) rfl (pa_cons (pv 2) (pa_cons (pv 7) pa_nil))) (pa_cons (pe_def c__law_first_comings (hr.mono (by decide)) (takes_of rfl rfl rfl rfl) rfl (pa_cons (pv 2) (pa_cons (pe_or2 (kp_revL K (pv 3)) (kp_revT K (pv 3))) pa_nil))) pa_nil))))) (pss_one (ps_ret pe_bl)) pss_nil)
      (pss_cons (ps_if (PW.pt (pw_and (pt_cmpR (k_same K (hr_units hr)) (pe_def c__law_limit (hr.mono (by decide)) (takes_of rfl rfl rfl rfl) rfl (pa_cons (pe_def c__law_trail_piles (hr.mono (by decide)) (takes_of rfl rfl rfl rfl) rfl (pa_cons (pv 2) (pa_cons (pe_or2 (kp_revL K (pv 3)) (kp_revT K (pv 3))) pa_nil))) pa_nil)) (pe_tup pa_nil) (nomark _)) (pw_and1 (pt_not (pt_val (pe_def c__law_alike (hr.mono (by decide)) (takes_of rfl rfl rfl rfl) rfl (pa_cons (pe_def c_aim (hr.mono (by decide)) (takes_of rfl rfl rfl rfl) rfl (pa_cons (pe_def c_deal_of (hr.mono (by decide)) (takes_of rfl rfl rfl rfl) rfl (pa_cons (pv 2) (pa_cons (pv 7) pa_nil))) pa_nil)) (pa_cons (pv 6) pa_nil)))))))) (pss_one (ps_ret pe_bl)) pss_nil)
      (pss_cons (ps_set (i := 10) sc_law.nd rfl (Or.inl rfl) (pe_def c__law_bent_walk (hr.mono (by decide)) (takes_of rfl rfl rfl rfl) rfl (pa_cons (pv 1) (pa_cons (pv 2) (pa_cons (pv 3) pa_nil)))))
      (pss_cons (ps_for (passes_of rfl) rfl (pi_range1 (by rfl) T.m_range (pa_cons pe_int pa_nil)) (pg_name (i := 11) sc_law.nd rfl (Or.inl rfl)) (pss_one (ps_if (pt_not (pt_val (pe_def c__law_alike (hr.mono (by decide)) (takes_of rfl rfl rfl rfl) rfl (pa_cons (pe_def c__law_door (hr.mono (by decide)) (takes_of rfl rfl rfl rfl) rfl (pa_cons (pv 11) (pa_cons (pe_ix (k_ix K) (pv 10) pe_int (fun _ _ => rfl)) (pa_cons (pe_ix (k_ix K) (pv 10) pe_int (fun _ _ => rfl)) pa_nil)))) (pa_cons (pe_ix (k_ix K) (pv 10) pe_int (fun _ _ => rfl)) pa_nil))))) (pss_one (ps_ret pe_bl)) pss_nil)))
      (pss_one (ps_ret (pe_and (pe_def c__law_alike (hr.mono (by decide)) (takes_of rfl rfl rfl rfl) rfl (pa_cons (pe_def c__law_door (hr.mono (by decide)) (takes_of rfl rfl rfl rfl) rfl (pa_cons pe_int (pa_cons (pv 2) (pa_cons (pe_lst pa_nil) pa_nil)))) (pa_cons (pe_tup (pa_cons pe_str (pa_cons (pe_tup (pa_cons pe_str pa_nil)) pa_nil))) pa_nil))) (pe_one (pe_def c__law_alike (hr.mono (by decide)) (takes_of rfl rfl rfl rfl) rfl (pa_cons (pe_def c__law_door (hr.mono (by decide)) (takes_of rfl rfl rfl rfl) rfl (pa_cons pe_int (pa_cons (pv 2) (pa_cons (pv 3) pa_nil)))) (pa_cons (pe_tup pa_nil) pa_nil)))))))))))))))))))))))))), ?_⟩
    refine start' (σ' := [some _, none, none, none, none, none, none, none, none, none, none, none]) rfl ?_
    walk_at "ra"
    refine ⟨a0, sc, rfl, hsc, fun a H0 s0 ha0 st0 => ?_⟩
    walk_at "ra"
    refine ⟨H0, a, 6, 0, rfl, st0, by decide, by omega, fun v1 H1 b1 st1 hv1 => ?_⟩
    walk_at "ra"
    with_reducible refine seqK ?P ?_ ?_
    case P => exact fun σ' H' => ∃ m : Int, σ' = [some (.ref a0), some (.ref a), some (.int m), none, none, none, none, none, none, none, none, none] ∧ Sto H0 H' a 3 ∧ 1 ≤ m ∧ m ≤ 40
    · rintro σ H2 ⟨n, rfl, st2, hn⟩
      obtain ⟨m, rfl⟩ : ∃ m : Nat, n = m := ⟨n.toNat, by omega⟩
      walk_at "ra"
      refine ⟨H0, a, (m : Int), 3, rfl, st2, hn, by omega, fun r ms H3 b3 st3 hr er hw => ?_⟩
      have nra : r ≠ a := by
        obtain ⟨xs, e⟩ := st2.at
        exact Ne.symm (ne_of_none e hr)
      obtain ⟨w0, w1, wall⟩ := hw
      walk_at "ra"
      refine lcR1S (n := (m : Int)) (H0 := H0) (a := a) (U := 5003) 4 (fun R h => ?_) (by omega) (fun _ => rfl) (st3.more (by omega)) ?_ ?_
      · walk_at "ra"
        exact h
      · intro i H4 R hi b4 st4 hR
        walk_at "ra"
        exact ⟨H0, a, 30, _, rfl, st4, by decide, by omega, fun v H5 b5 st5 _ => hR v H5 b5 (st5.more (by omega))⟩
      · intro nm nms H4 b4 st4 hnm enm lnm
        have er4 := b4 r _ nra er
        walk_at "ra"
        with_reducible refine Rd.seq ?_
        walk_at "ra"
        refine ⟨r, ms, rfl, sqL er4, w0, by omega, fun H5 s5 => ?_⟩
        walk_at "ra"
        refine lcSq (a := r) (xs := ms.map V.int) (fun R h => ⟨_, rfl, h⟩) (.inl (sqL (by walk_at "hp"))) (fun i _ => V.int (nms.getD (ms.getD i 0).toNat 0)) (fun _ => rfl) (line_ge (by rw [List.length_map]; omega)) ?_ ?_
        · intro i x H6 R hx s6 hR
          obtain ⟨z, hz, rfl⟩ := ints_at hx
          have hb := wall z (List.mem_of_getElem? hz)
          have ez : ms.getD i 0 = z := by simp [List.getD, hz]
          walk_at "ra"
          refine ixZ (p := nm) (ns := nms) (j := z.toNat) (.inl (sqL (by walk_at "hp"))) (by omega) (by omega) ?_
          have := hR H6 (Same.refl H6)
          rw [ez] at this
          exact this
        · intro H6 q s6 hq eq
          have eq' : H6 q = some (.lst (((List.range ms.length).map fun i => nms.getD (ms.getD i 0).toNat 0).map V.int)) := by
            rw [eq]
            congr 2
            apply List.ext_getElem?
            intro i
            rw [List.getElem?_mapIdx, List.getElem?_map, List.getElem?_map, List.getElem?_map]
            by_cases h : i < ms.length
            · rw [List.getElem?_eq_getElem h, List.getElem?_range h]
              rfl
            · rw [List.getElem?_eq_none (by omega), List.getElem?_eq_none (by rw [List.length_range]; omega)]
              rfl
          have er5 := s5 _ _ er4
          walk_at "ra"
          refine ⟨q, _, rfl, sqL eq', by rw [tab_len]; exact w0, by rw [tab_len]; omega, fun H7 s7 => ?_⟩
          have er : H7 r = some (.lst (ms.map V.int)) := s7 _ _ (s6 _ _ er5)
          have st : Sto H0 H7 a (5003 + m * 4) := by
            have := ((st4.go s5).go s6).go s7
            rw [Int.toNat_natCast] at this
            exact this
          clear s5 s6 s7 er4 er5 st4 st3 st2 eq' enm b4 b3 st1 st0 b1 eq
          walk_at "ra"
          refine lstOf (.inl (sqL er)) fun l hl => ?_
          have s8 : Same H7 (upd H7 l (.lst (ms.map V.int))) := Rd.Same.new hl
          have el : upd H7 l (.lst (ms.map V.int)) l = some (.lst (ms.map V.int)) := upd_same
          replace er := s8 _ _ er
          replace st := st.go s8
          generalize upd H7 l (.lst (ms.map V.int)) = H8 at s8 el er st ⊢
          clear s8
          have lim : ms.length ≤ 1000000 := by omega
          have hall := hall_of wall
          have tn : trailErr (m : Int) ms = none := trail_none hn w0 wall
          have tnr : trailErr (m : Int) ms.reverse = none := trail_none hn (by rw [List.length_reverse]; exact w0) (walk_rev wall)
          have hallr := hall_of (walk_rev wall)
          have ok : ∀ x fs, trailErr (m : Int) ms ≠ some (x, fs) := fun x fs z => by
            rw [tn] at z
            cases z
          have okr : ∀ x fs, trailErr (m : Int) ms.reverse ≠ some (x, fs) := fun x fs z => by
            rw [tnr] at z
            cases z
          have limr : ms.reverse.length ≤ 1000000 := by rw [List.length_reverse]; exact lim
          have w0r : 0 < ms.reverse.length := by rw [List.length_reverse]; exact w0
          have fl : (firstsOf (m : Int).toNat ms).length ≤ 1000000 := by rw [firsts_len]; omega
          have flr : (firstsOf (m : Int).toNat ms.reverse).length ≤ 1000000 := by rw [firsts_len]; omega
          have ll : (lastsOf (m : Int).toNat ms).length ≤ 1000000 := by rw [lasts_len]; omega
          have llr : (lastsOf (m : Int).toNat ms.reverse).length ≤ 1000000 := by rw [lasts_len]; omega
          walk_at "ra"
          refine ⟨(m : Int), r, ms, rfl, sqL er, lim, hn, w0, hall, fun H9 fi s9 hfi => ?_⟩
          replace er := s9 _ _ er
          replace el := s9 _ _ el
          replace st := st.go s9
          clear s9
          walk_at "ra"
          with_reducible refine Rd.seq ?_
          walk_at "ra"
          refine ⟨(m : Int), l, ms, rfl, .inl (sqL el), lim, fun _ H10 t10 s10 h10 => ?_, fun x fs z => absurd z (ok x fs)⟩
          replace er := s10 _ _ er
          replace el := s10 _ _ el
          replace st := st.go s10
          replace hfi := goSqT s10 hfi
          clear s10
          walk_at "ra"
          refine al_call (al_row h10 hfi scal_firsts fl) fun H11 s11 => ?_
          replace er := s11 _ _ er
          replace el := s11 _ _ el
          replace st := st.go s11
          replace hfi := goSqT s11 hfi
          clear s11 h10
          walk_at "ra"
          refine neSame (ns := ms) (sqL el) (sqL er) ?_
          walk_at "ra"
          with_reducible refine Rd.seq ?_
          walk_at "ra"
          refine ⟨(m : Int), l, ms, rfl, .inl (sqL el), lim, fun _ H12 t12 s12 h12 => ?_, fun x fs z => absurd z (ok x fs)⟩
          replace er := s12 _ _ er
          replace el := s12 _ _ el
          replace st := st.go s12
          replace hfi := goSqT s12 hfi
          clear s12
          walk_at "ra"
          refine ⟨(m : Int), r, ms, rfl, .inl (sqL er), lim, hn, w0, hall, fun H13 t13 s13 h13 => ?_⟩
          replace er := s13 _ _ er
          replace el := s13 _ _ el
          replace st := st.go s13
          replace hfi := goSqT s13 hfi
          replace h12 := goSqT s13 h12
          clear s13
          walk_at "ra"
          refine al_call (al_row h12 h13 scal_lasts ll) fun H14 s14 => ?_
          replace er := s14 _ _ er
          replace el := s14 _ _ el
          replace st := st.go s14
          replace hfi := goSqT s14 hfi
          clear s14 h12 h13
          walk_at "ra"
          refine neSame (ns := ms) (sqL el) (sqL er) ?_
          walk_at "ra"
          with_reducible refine Rd.seq ?_
          walk_at "ra"
          refine tupOfL (ys := ms.map V.int) (sqL er) fun t15 ht15 => ?_
          have s15 : Same H14 (upd H14 t15 (.tup (ms.map V.int))) := Rd.Same.new ht15
          walk_at "ra"
          refine ⟨(m : Int), t15, ms, rfl, .inr (sqT upd_same), lim, fun _ H16 t16 s16 h16 => ?_, fun x fs z => absurd z (ok x fs)⟩
          replace s16 := s15.trans s16
          clear s15 ht15
          replace er := s16 _ _ er
          replace el := s16 _ _ el
          replace st := st.go s16
          replace hfi := goSqT s16 hfi
          clear s16
          walk_at "ra"
          refine al_call (al_row h16 hfi scal_firsts fl) fun H17 s17 => ?_
          replace er := s17 _ _ er
          replace el := s17 _ _ el
          replace st := st.go s17
          replace hfi := goSqT s17 hfi
          clear s17 h16
          walk_at "ra"
          refine ⟨l, ms.map V.int, rfl, .inl (sqL el), fun _ H18 bk s18 hbk => ?_, fun x fs z => absurd z (some_no w0 x fs)⟩
          replace hbk : SqT K H18 bk (ms.reverse.map V.int) := by
            rw [List.map_reverse]
            exact hbk
          replace er := s18 _ _ er
          replace el := s18 _ _ el
          replace st := st.go s18
          replace hfi := goSqT s18 hfi
          clear s18
          walk_at "ra"
          refine ⟨(m : Int), bk, ms.reverse, rfl, .inr hbk, limr, fun _ H19 la s19 hla => ?_, fun x fs z => absurd z (okr x fs)⟩
          replace er := s19 _ _ er
          replace el := s19 _ _ el
          replace st := st.go s19
          replace hfi := goSqT s19 hfi
          replace hbk := goSqT s19 hbk
          clear s19
          walk_at "ra"
          with_reducible refine Rd.seq ?_
          walk_at "ra"
          refine revL (a := r) (xs := ms.map V.int) (fun R h => ⟨_, rfl, h⟩) (sqL er) fun r2 hr2 => ?_
          rw [← List.map_reverse]
          have s20 : Same H19 (upd H19 r2 (.lst (ms.reverse.map V.int))) := Rd.Same.new hr2
          walk_at "ra"
          refine ⟨(m : Int), r2, ms.reverse, rfl, .inl (sqL upd_same), limr, hn, w0r, hallr, fun H21 t21 s21 h21 => ?_⟩
          replace s21 := s20.trans s21
          clear s20 hr2
          replace er := s21 _ _ er
          replace el := s21 _ _ el
          replace st := st.go s21
          replace hfi := goSqT s21 hfi
          replace hbk := goSqT s21 hbk
          replace hla := goSqT s21 hla
          clear s21
          walk_at "ra"
          refine al_call (al_row hla h21 scal_lasts llr) fun H22 s22 => ?_
          replace er := s22 _ _ er
          replace el := s22 _ _ el
          replace st := st.go s22
          replace hfi := goSqT s22 hfi
          replace hbk := goSqT s22 hbk
          replace hla := goSqT s22 hla
          clear s22 h21
          walk_at "ra"
          with_reducible refine Rd.seq ?_
          refine forR1 (n := (m : Int)) (fun R h => ?_) (by omega) (fun i σ H' => ∃ v : Option V, σ = [some (.ref a0), some (.ref a), some (.int m), some (.ref r), some (.ref nm), some (.ref l), some (.ref fi), some (.ref bk), some (.ref la), v, none, none] ∧ H' = H22) ⟨none, rfl, rfl⟩ ?_ ?_
          · walk_at "ra"
            exact h
          · rintro i σ H23 hi ⟨v, rfl, rfl⟩
            walk_at "ra"
            refine ixZ (p := r) (ns := ms) (j := 0) (.inl (sqL er)) (by omega) w0 ?_
            walk_at "ra"
            refine nways (fun c => ?_) (fun c => ?_)
            · have im : i < m := by omega
              have ev : (lastsOf (m : Int).toNat ms.reverse)[i]? = some (optV (firstFrom i ms 1)) := by
                unfold lastsOf lastsTo
                rw [Int.toNat_natCast, tab_at im, List.length_reverse, last_first w0 (fun z => c z.symm)]
              have ef : (firstsOf (m : Int).toNat ms)[i]? = some (optV (firstFrom i ms 1)) := by
                unfold firstsOf
                rw [Int.toNat_natCast, tab_at im, if_neg (fun z => c z.symm)]
              walk_at "ra"
              refine ixT (xs := lastsOf (m : Int).toNat ms.reverse) hla (atN ev) ?_
              walk_at "ra"
              refine ixT (xs := firstsOf (m : Int).toNat ms) hfi (atN ef) ?_
              refine neRefl (scal_optV _) ?_
              walk_at "ra"
              exact ⟨_, rfl, rfl⟩
            · walk_at "ra"
              exact ⟨_, rfl, rfl⟩
          · rintro σ H23 ⟨v, rfl, rfl⟩
            walk_at "ra"
            with_reducible refine Rd.seq ?_
            walk_at "ra"
            refine ⟨(m : Int), bk, ms.reverse, rfl, .inr hbk, limr, fun _ H24 t24 s24 h24 => ?_, fun x fs z => absurd z (okr x fs)⟩
            replace er := s24 _ _ er
            replace el := s24 _ _ el
            replace st := st.go s24
            replace hfi := goSqT s24 hfi
            replace hbk := goSqT s24 hbk
            replace hla := goSqT s24 hla
            clear s24
            walk_at "ra"
            refine revL (a := r) (xs := ms.map V.int) (fun R h => ⟨_, rfl, h⟩) (sqL er) fun r3 hr3 => ?_
            rw [← List.map_reverse]
            have s25 : Same H24 (upd H24 r3 (.lst (ms.reverse.map V.int))) := Rd.Same.new hr3
            walk_at "ra"
            refine ⟨(m : Int), r3, ms.reverse, rfl, sqL upd_same, limr, hn, w0r, hallr, fun H26 t26 s26 h26 => ?_⟩
            replace s26 := s25.trans s26
            clear s25 hr3
            replace er := s26 _ _ er
            replace el := s26 _ _ el
            replace st := st.go s26
            replace hfi := goSqT s26 hfi
            replace hbk := goSqT s26 hbk
            replace hla := goSqT s26 hla
            replace h24 := goSqT s26 h24
            clear s26
            walk_at "ra"
            refine al_call (al_row h24 h26 scal_firsts flr) fun H27 s27 => ?_
            replace er := s27 _ _ er
            replace el := s27 _ _ el
            replace st := st.go s27
            replace hfi := goSqT s27 hfi
            replace hbk := goSqT s27 hbk
            replace hla := goSqT s27 hla
            clear s27 h24 h26
            walk_at "ra"
            with_reducible refine seqK ?P ?_ ?_
            case P => exact fun σ' H' => σ' = [some (.ref a0), some (.ref a), some (.int m), some (.ref r), some (.ref nm), some (.ref l), some (.ref fi), some (.ref bk), some (.ref la), v, none, none] ∧ Same H27 H'
            · rintro σ H28 ⟨rfl, s28⟩
              replace er := s28 _ _ er
              replace st := st.go s28
              clear s28 hfi hbk hla el
              walk_at "ra"
              refine ⟨H0, a, (m : Int), r, ms, _, rfl, st, er, nra, hn, ⟨w0, w1, wall⟩, by omega, fun H29 t li d n' ms' b29 st29 et eli lms hdue hne => ?_⟩
              replace er := b29 r _ nra er
              clear b29 st29 st
              have frm : ∀ x fs, trailErr n' ms' = some (x, fs) → Form x fs := fun x fs => trailErr_form
              walk_at "ra"
              with_reducible refine Rd.seq ?_
              refine forR1 (n := 2) (fun R h => ?_) (by omega) (fun i σ H' => ∃ w : Option V, σ = [some (.ref a0), some (.ref a), some (.int m), some (.ref r), some (.ref nm), some (.ref l), some (.ref fi), some (.ref bk), some (.ref la), v, some (.ref t), w] ∧ Same H29 H') ⟨none, rfl, Same.refl H29⟩ ?_ ?_
              · walk_at "ra"
                exact h
              · rintro i σ H30 hi ⟨w, rfl, s30⟩
                have et30 := s30 _ _ et
                walk_at "ra"
                refine ⟨(i : Int), n', li, ms', rfl, .inl (sqL (s30 _ _ eli)), by omega, by omega, fun H31 t31 s31 h31 => ?_⟩
                have ed : doorErr (i : Int) n' ms' = trailErr n' ms' := if_neg (by omega)
                rw [ed] at h31
                have et31 := s31 _ _ et30
                walk_at "ra"
                refine al_call (al_due h31 ((hdue.go s30).go s31) frm) fun H32 s32 => ?_
                walk_at "ra"
                exact ⟨_, rfl, (s30.trans s31).trans s32⟩
              · rintro σ H30 ⟨w, rfl, s30⟩
                replace er := s30 _ _ er
                clear s30 et eli hdue
                walk_at "ra"
                refine ⟨le_line (by simp), fun e1 he1 => ?_⟩
                walk_at "ra"
                refine ⟨2, (m : Int), e1, [], rfl, .inl (.inl (.inl upd_same)), by simp, by omega, fun H31 t31 s31 h31 => ?_⟩
                replace s31 := (Rd.Same.new (o := .lst []) he1).trans s31
                replace er := s31 _ _ er
                clear s31
                walk_at "ra"
                refine ⟨le_line (by simp), fun x1 hx1 => ?_⟩
                walk_at "ra"
                refine ⟨le_line (by simp), fun x2 hx2 => ?_⟩
                have s32 : Same H31 (upd (upd H31 x1 (.tup [.str "trail"])) x2 (.tup [.str "Empty", .ref x1])) := (Rd.Same.new hx1).trans (Rd.Same.new hx2)
                walk_at "ra"
                refine al_call (al_due (r := doorErr 2 (m : Int) []) (h31.go s32) ⟨x1, sqT upd_same, sqT (Rd.Same.new hx2 _ _ upd_same)⟩ (fun x fs z => someErr_form (ns := []) z)) fun H33 s33 => ?_
                replace er := s33 _ _ (s32 _ _ er)
                clear s32 s33 h31
                walk_at "ra"
                refine ⟨2, (m : Int), r, ms, rfl, .inl (sqL er), by omega, by omega, fun H34 t34 s34 h34 => ?_⟩
                walk_at "ra"
                refine ⟨le_line (by simp), fun x3 hx3 => ?_⟩
                have s35 : Same H34 (upd H34 x3 (.tup [])) := Rd.Same.new hx3
                have ed : doorErr 2 (m : Int) ms = none := (if_pos rfl).trans (if_neg (by omega))
                rw [ed] at h34
                walk_at "ra"
                refine al_call (al_due (r := none) (h34.go s35) (sqT upd_same) (fun x fs z => by cases z)) fun H36 s36 => ?_
                exact k H36
            · intro N hN
              walk_at "ra"
              refine revL (a := r) (xs := ms.map V.int) (fun R h => ⟨_, rfl, h⟩) (sqL er) fun r4 hr4 => ?_
              rw [← List.map_reverse]
              have s28 : Same H27 (upd H27 r4 (.lst (ms.reverse.map V.int))) := Rd.Same.new hr4
              walk_at "ra"
              refine ⟨(m : Int), r4, ms.reverse, rfl, .inl (sqL upd_same), limr, hn, w0r, hallr, fun H29 pl prs s29 epl hprs => ?_⟩
              replace s29 := s28.trans s29
              clear s28 hr4 er el st hla
              walk_at "ra"
              refine ⟨pl, prs, _, rfl, .inl (sqL epl), hprs, by rw [piles_len, Int.toNat_natCast]; omega, by rw [piles_len, Int.toNat_natCast]; omega, fun H30 t30 s30 lo e30 => ?_, fun H30 t30 u30 x y z s30 lo hsh e30 eu30 => ?_⟩
              · replace s30 := s29.trans s30
                clear s29 epl hprs
                walk_at "ra"
                refine ⟨le_line (by simp), fun t31 ht31 => ?_⟩
                have s31 : Same H30 (upd H30 t31 (.tup [])) := Rd.Same.new ht31
                walk_at "ra"
                refine eqd (d := .tuple []) (e := .tuple []) (dp_nil (sqT (s31 _ _ e30))) (dp_nil (sqT upd_same)) (by decide +kernel) (by decide +kernel) ?_
                walk_at "ra"
                refine byes (by decide +kernel) ?_
                have hallr' : ∀ k, k < ms.reverse.length → 0 ≤ ms.reverse.getD k 0 ∧ ms.reverse.getD k 0 < ((m : Int).toNat : Int) := by
                  rw [Int.toNat_natCast]
                  exact hallr
                have dn : trailDealErr (m : Int) ms.reverse = none := by
                  unfold trailDealErr
                  rw [tnr, deal_none (by rw [Int.toNat_natCast]; omega) w0r hallr' lo]
                  rfl
                replace s31 := s30.trans s31
                replace hfi := goSqT s31 hfi
                replace hbk := goSqT s31 hbk
                clear s30 e30 ht31
                walk_at "ra"
                refine ⟨(m : Int), bk, ms.reverse, rfl, .inr hbk, limr, fun _ H32 x32 s32 h32 => ?_, fun x fs z => by rw [dn] at z; cases z⟩
                have hfi32 := goSqT s32 hfi
                replace s32 := s31.trans s32
                walk_at "ra"
                refine ⟨x32, _, _, rfl, h32, deal_ok (by rw [Int.toNat_natCast]; omega) w0r hallr' lo, end_pos w0r hallr', fun H33 t33 s33 h33 => ?_⟩
                rw [aim_turned w0 (by rw [Int.toNat_natCast]; exact hall)] at h33
                walk_at "ra"
                refine al_call (al_row h33 (goSqT s33 (hfi32)) scal_firsts fl) fun H34 s34 => ?_
                walk_at "ra"
                exact hN _ _ ⟨rfl, (s32.trans s33).trans s34⟩
              · replace s30 := s29.trans s30
                clear s29 epl hprs
                walk_at "ra"
                refine ⟨le_line (by simp), fun t31 ht31 => ?_⟩
                have s31 : Same H30 (upd H30 t31 (.tup [])) := Rd.Same.new ht31
                walk_at "ra"
                refine eqd (d := .tuple [.str x, .tuple [.str y, .int z]]) (e := .tuple []) (.tup (sqT (s31 _ _ e30)) (.cons (.str x) (.cons (.tup (sqT (s31 _ _ eu30)) (.cons (.str y) (.cons (.int z) .nil))) .nil))) (dp_nil (sqT upd_same)) hsh (by decide +kernel) ?_
                walk_at "ra"
                refine bno rfl ?_
                walk_at "ra"
                exact hN _ _ ⟨rfl, s30.trans s31⟩
    · intro N hN
      walk_at "ra"
      refine ⟨H0, a, 5, 1, rfl, st1, by decide, by omega, fun v2 H2 b2 st2 hv2 => ?_⟩
      walk_at "ra"
      refine ways (fun c => ?_) (fun c => ?_)
      · walk_at "ra"
        refine ⟨H0, a, 40, 2, rfl, st2, by decide, by omega, fun v3 H3 b3 st3 hv3 => ?_⟩
        walk_at "ra"
        have h1 := hv3.1
        have h2 := hv3.2
        exact hN _ _ ⟨_, rfl, st3, by omega, by omega⟩
      · walk_at "ra"
        have h1 := hv1.1
        have h2 := hv1.2
        exact hN _ _ ⟨_, rfl, st2.more (by omega), by omega, by omega⟩
end
end K59

set_option Elab.async false
set_option linter.all false
set_option maxRecDepth 100000
set_option maxHeartbeats 4000000
namespace K59
open PySem PySem.Spec PyProof.Rows L2 Rd
theorem walk_end {l : PySem.W.OpenLaw} {n k : Nat} {q : Program} {loose : List Str} {XP : (Str → Option Value) → Heap → Prop} {YP : World → Heap → Prop} {d : DefRec} {CX : World → CXT} {x : Str}
    (hn : l.most = some n) (hn2 : n ≤ sizeLine) (hdf : d.params.defaults = []) (hr : Room k callerA)
    (F : ∀ (w : World) (mg : Str → Option Value) (fa : Addr) (h : Heap), YP w h → h.Ns mainGlobals mg → mg d.name = some (.ref fa) →
      ∃ (K : PySem.W.Frag) (fd : FuncData) (sp : Sp), K.In h ∧ (∀ (s : Shared) (u : Value), BindsTo s fd ⟨[u], []⟩ [(x, u)]) ∧
        (∀ (H : Hp) (a : Addr) (ns : List Int), ns.length ≤ n → Only H → SqL K H a (ns.map V.int) → sp [.ref a] H (fun v _ => v = .bl true) fun _ _ _ => False) ∧
        ∀ base : Heap, K.In base → base.Ns mainGlobals mg → FnOk l.prog w K mg base (CX w) k fa fd [x] sp)
    (hCX : ∀ (w : World) (H : Hp) (s : Shared) (e : Value) (s' : Shared), CX w [] H s (fun _ _ _ => False) e s' → False) :
    PySem.W.WalkO q loose XP YP l.row.toRowW d [] (fun f vs => PySem.call f vs) := by
  refine Att.attach_call hn hdf fun w s₀ s₁ mg mb fa o pm cd doc a vs ns G Y ho hd hcd hmg hobj hints hlen hg => ?_
  obtain ⟨K, fd, sp, KX, hb, hsp, hF⟩ := F w mg fa _ Y G.T.g hmg
  exact law_call KX G.T.g G.T.b G.T.builtins G.T.nolimit hg hobj hints (Nat.le_trans hlen hn2) hr hF hb (fun H hO hS => hsp H a ns hlen hO hS) fun H e s' => hCX w H s₁ e s'
theorem facts {P : Program} {w : World} {K : PySem.W.Frag} {h : Heap} {mg : Str → Option Value} {f : Addr} (X : K.In h) (G : h.Ns mainGlobals mg) (hfa : mg ("law" : Str) = some (.ref f)) (c : Says fa fn exb K) :
    ∃ fd : FuncData, (∀ (s : Shared) (v : Value), BindsTo s fd ⟨[v], []⟩ [("script", v)]) ∧ ∀ base : Heap, K.In base → base.Ns mainGlobals mg → FnOk P w K mg base (L2.CX P w) 9 f fd ["script"] (sp_law K) := by
  have T : Tx K mg := ⟨⟨h, X, G⟩, c⟩
  obtain ⟨fd, F⟩ := T.f_law
  have e := hfa.symm.trans T.g_law
  cases e
  have b := FunD.bindsA (ps := ["script"]) F fun _ _ _ _ _ _ us hl => match us, hl with | [_], _ => rfl
  exact ⟨fd, fun s v => b s [v] rfl, fun base _ _ => fn_law T F⟩
end K59
open PySem PySem.W PySem.Calls PyProof.Rows
theorem PySem.Challenge.cw_lastslips_k59_turned_trail_holds : PySem.Challenge.rw_lastslips_k59_turned_trail.Holds := by
  w_on; o_law
  refine HandSHeadRun.head_any (r := OpenLaw.row PySem.Challenge.rw_lastslips_k59_turned_trail) (q := view (OpenLaw.row PySem.Challenge.rw_lastslips_k59_turned_trail).prog [72]) (H := K59.hk) (ob := K59.ob) (M := 8000) (loose := K59.loose) (d := HandSHeadRun.topDef (OpenLaw.row PySem.Challenge.rw_lastslips_k59_turned_trail).prog 72) (kwd := []) K59.ob_eq
    (by kernel_rfl) (fun s => by kernel_rfl) K59.run (by kernel_rfl) (by kernel_rfl) (by kernel_rfl) (by rfl) (by first | assumption | decide +kernel) (by decide +kernel) ⟨rfl, rfl, rfl, rfl, rfl, by decide +kernel⟩ ?hw ?hc
  case hw => w_witness2
  case hc =>
    refine K59.walk_end (l := PySem.Challenge.rw_lastslips_k59_turned_trail) (n := 63) (k := 9) (x := "script") (CX := fun w => L2.CX (PySem.Challenge.rw_lastslips_k59_turned_trail).prog w) rfl (by decide) (by kernel_rfl) ⟨rfl, by decide, by decide⟩ ?F (fun _ _ _ _ _ ⟨_, _, _, _, _, _, _, _, _, _, _, _, z⟩ => z)
    intro w mg fa h Y G hmg0
    obtain ⟨K, KX, c⟩ := Y
    have hmg : mg ("law" : PySem.Str) = some (.ref fa) := by
      have e : (HandSHeadRun.topDef (OpenLaw.row PySem.Challenge.rw_lastslips_k59_turned_trail).prog 72).name = ("law" : PySem.Str) := by kernel_rfl
      rw [← e]
      exact hmg0
    obtain ⟨fd, hb, hF⟩ := K59.facts (P := (PySem.Challenge.rw_lastslips_k59_turned_trail).prog) (w := w) KX G hmg c
    exact ⟨K, fd, K59.sp_law K, KX, hb, fun H a ns hl _ hS => ⟨a, ns, rfl, hS, fun _ => rfl⟩, hF⟩

