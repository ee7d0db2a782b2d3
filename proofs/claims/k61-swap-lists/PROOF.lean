import PyProof.Rows.All
import Wide.All
import OpenK.AllK
import Wide.FinOn
import HandS.ForMost
import HandS.Codes
import HandS.Steps
import HandS.Style
import HandS.TupAny
import HandS.Conv
import HandS.IsInst
import HandS.Flow
import HandS.ForExc
import HandS.ExcInit
import HandS.ExcField
import KE.KExcSuper
import HandS.WordsExc
import KE.KExcIs
import HandS.FStrTup
import HandS.Walk
import HandS.Iter
import PySem.Challenge.RW_mendedtree_k61_swap_lists
set_option Elab.async false
set_option linter.all false
set_option maxRecDepth 100000
set_option maxHeartbeats 4000000
namespace Z
open PySem PySem.Spec L2

/-! ## heaps: what stays -/
/-- all that was tracked stands, but the list at l, which may be another one -/
structure SL (l : Addr) (H H' : Hp) : Prop where
  was : ∃ xs, H l = some (.lst xs)
  is : ∃ xs, H' l = some (.lst xs)
  keep : ∀ a o, a ≠ l → H a = some o → H' a = some o
theorem SL.refl {l : Addr} {H : Hp} {xs : List V} (h : H l = some (.lst xs)) : SL l H H := ⟨⟨_, h⟩, ⟨_, h⟩, fun _ _ _ e => e⟩
theorem SL.trans {l : Addr} {H H1 H2 : Hp} (a : SL l H H1) (b : SL l H1 H2) : SL l H H2 := ⟨a.was, b.is, fun x o n e => b.keep x o n (a.keep x o n e)⟩
theorem Same.at {H H' : Hp} {a : Addr} {o : HO} (s : Same H H') (h : H a = some o) : H' a = some o := s a o h
theorem SL.at {l : Addr} {H H' : Hp} {a : Addr} {o : HO} (s : SL l H H') (n : a ≠ l) (h : H a = some o) : H' a = some o := s.keep a o n h
theorem SL.tup {l p : Addr} {H H' : Hp} {ys : List V} (s : SL l H H') (h : H p = some (.tup ys)) : H' p = some (.tup ys) := by
  obtain ⟨xs, e⟩ := s.was
  exact s.keep p _ (ne_of h e (fun q => nomatch q)) h
theorem SL.frz {l p : Addr} {H H' : Hp} {ob : Obj} {u : HO} (s : SL l H H') (h : H p = some (.frz ob u)) : H' p = some (.frz ob u) := by
  obtain ⟨xs, e⟩ := s.was
  exact s.keep p _ (ne_of h e (fun q => nomatch q)) h
/-- the list at l was made behind H0 -/
theorem SL.same {l : Addr} {H0 H H' : Hp} (s0 : Same H0 H) (s : SL l H H') (n : H0 l = none) : Same H0 H' := fun a o e => s.keep a o (ne_of_none e n) (s0 a o e)
theorem Same.sl {l : Addr} {H H' : Hp} {xs : List V} (h : H l = some (.lst xs)) (s : Same H H') : SL l H H' := ⟨⟨_, h⟩, ⟨_, s _ _ h⟩, fun a o _ e => s a o e⟩
theorem SL.more {l : Addr} {H0 H H' : Hp} (s0 : SL l H0 H) (s : Same H H') : SL l H0 H' := ⟨s0.was, s0.is.imp fun _ e => s _ _ e, fun a o n e => s a o (s0.keep a o n e)⟩
theorem SL.two {l m : Addr} {H0 H H' : Hp} (s0 : SL m H0 H) (s : SL l H H') (n : H0 l = none) : SL m H0 H' := by
  obtain ⟨xs, e0⟩ := s0.was
  obtain ⟨ys, e1⟩ := s0.is
  exact ⟨s0.was, ⟨ys, s.keep m _ (ne_of_none e0 n) e1⟩, fun a o q e => s.keep a o (ne_of_none e n) (s0.keep a o q e)⟩
theorem Same.fre {H H' : Hp} {l : Addr} (e : Same H H') (h : H' l = Option.none) : H l = Option.none := e.free h
theorem SL.fre {H H' : Hp} {l m : Addr} (e : SL m H H') (h : H' l = Option.none) : H l = Option.none := by
  cases q : H l with
  | none => rfl
  | some o =>
    by_cases c : l = m
    · obtain ⟨xs, e1⟩ := e.is
      rw [c, e1] at h
      cases h
    · rw [e.keep l o c q] at h
      cases h
/-- a new object: its address, the heap behind it -/
def newO (o : HO) (H : Hp) (Q : VK) : Prop := ∀ p, H p = none → Q (.ref p) (upd H p o)
/-- p is new to H -/
def Frs (H : Hp) (p : Addr) : Prop := H p = none
theorem Frs.ne {H : Hp} {p a : Addr} {u : HO} (f : Frs H p) (h : H a = some u) : a ≠ p := ne_of_none h f
theorem Frs.ne' {H : Hp} {p a : Addr} {u : HO} (f : Frs H p) (h : H a = some u) : p ≠ a := (ne_of_none h f).symm
theorem newO_gen {o : HO} {H : Hp} {Q : VK} (h : ∀ (p : Addr) (H' : Hp), Frs H p → Same H H' → H' p = some o → Q (.ref p) H') : newO o H Q := fun p hp =>
  h p _ hp (fun b u e => by rw [upd_ne (ne_of_none e hp)]; exact e) upd_same
/-- a list that is written -/
def putO (l : Addr) (xs : List V) (H : Hp) (Q : Hp → Prop) : Prop := Q (upd H l (.lst xs))
theorem putO_gen {l : Addr} {xs ys : List V} {H : Hp} {Q : Hp → Prop} (hw : H l = some (.lst ys)) (h : ∀ H' : Hp, SL l H H' → H' l = some (.lst xs) → Q H') : putO l xs H Q :=
  h _ ⟨⟨_, hw⟩, ⟨_, upd_same⟩, fun a u n e => by rw [upd_ne n]; exact e⟩ upd_same

/-! ## statements -/
section
variable {t u : TS} {nx : L2.St → Hp → Prop} {rt : VK} {bk ct : L2.St → Hp → Prop} {σ : L2.St} {H : Hp} {te ta tb : TE} {c tA tB' : TT} {i : Nat} {Q : VK} {QT : Bool → Hp → Prop}
theorem rSeq (h : t ⟨u ⟨nx, rt, bk, ct⟩, rt, bk, ct⟩ σ H) : tSeq t u ⟨nx, rt, bk, ct⟩ σ H := h
theorem rCut (Mid : L2.St → Hp → Prop) (h : t ⟨Mid, rt, bk, ct⟩ σ H) (h2 : ∀ σ' H', Mid σ' H' → u ⟨nx, rt, bk, ct⟩ σ' H') : C8.tCut t u ⟨nx, rt, bk, ct⟩ σ H := ⟨Mid, h, h2⟩
theorem rNext (h : nx σ H) : tNext ⟨nx, rt, bk, ct⟩ σ H := h
theorem rBrk (h : bk σ H) : tBreak ⟨nx, rt, bk, ct⟩ σ H := h
theorem rCnt (h : ct σ H) : tCont ⟨nx, rt, bk, ct⟩ σ H := h
theorem rDrop (h : te σ H (fun _ H1 => nx σ H1)) : tDrop te ⟨nx, rt, bk, ct⟩ σ H := h
theorem rRet (h : te σ H rt) : tRet te ⟨nx, rt, bk, ct⟩ σ H := h
theorem rRetN (h : rt .non H) : tRetN ⟨nx, rt, bk, ct⟩ σ H := h
theorem rIfS (h : c σ H (fun b H1 => if b = true then t ⟨nx, rt, bk, ct⟩ σ H1 else u ⟨nx, rt, bk, ct⟩ σ H1)) : tIfS c t u ⟨nx, rt, bk, ct⟩ σ H := h
theorem rAsgN (h : te σ H (fun x H1 => nx (σ.set i (some x)) H1)) : tAsg te (gName i) ⟨nx, rt, bk, ct⟩ σ H := h
theorem rAsgT {K : PySem.W.Frag} {n : Nat} {gs : TGs} (h : te σ H (fun x H1 => gTup K n gs x σ H1 nx)) : tAsg te (gTup K n gs) ⟨nx, rt, bk, ct⟩ σ H := h
theorem rAsgS {r : TSet} (h : te σ H (fun x H1 => ta σ H1 fun o H2 => tb σ H2 fun k H3 => r o k x H3 fun H4 => nx σ H4)) : tAsg te (gSub ta tb r) ⟨nx, rt, bk, ct⟩ σ H := h
/-! expressions -/
theorem rVar {v : V} (hi : σ[i]? = some (some v)) (h : Q v H) : tVar i σ H Q := ⟨v, hi, h⟩
theorem rC {v : V} (h : Q v H) : tC v σ H Q := h
theorem rOp {r : R2} (h : ta σ H fun x H1 => tb σ H1 fun y H2 => r x y H2 Q) : tOp r ta tb σ H Q := h
theorem rUn {r : V → Hp → VK → Prop} (h : ta σ H fun x H1 => r x H1 Q) : tUn r ta σ H Q := h
theorem rChain {r r' : R2} {tc : TE} (h : ta σ H fun x H1 => tb σ H1 fun y H2 => r x y H2 fun z H3 => ∃ k, z = .bl k ∧ (if k = true then tc σ H3 fun w' H4 => r' y w' H4 Q else Q (.bl false) H3)) : tChain r r' ta tb tc σ H Q := h
theorem rTest (h : te σ H fun x H' => ∃ k, x = .bl k ∧ QT k H') : tTest te σ H QT := h
theorem rB (h : te σ H fun x H' => ∃ k, x = .bl k ∧ QT k H') : tB te σ H QT := h
theorem rBl {b : Bool} {R : Bool → Hp → Prop} (h : R b H) : ∃ k, V.bl b = V.bl k ∧ R k H := ⟨b, rfl, h⟩
theorem rBl' {b : Bool} {R : Bool → Prop} (h : R b) : ∃ k, V.bl b = V.bl k ∧ R k := ⟨b, rfl, h⟩
theorem rAnd (h : c σ H fun b H1 => if b = true then tA σ H1 QT else QT false H1) : tAnd c tA σ H QT := h
theorem rOr (h : c σ H fun b H1 => if b = true then QT true H1 else tA σ H1 QT) : tOr c tA σ H QT := h
theorem rNot (h : c σ H fun b H1 => QT (!b) H1) : tNot c σ H QT := h
theorem rAndV (h : ta σ H fun x H1 => ∃ k, x = .bl k ∧ if k = true then tb σ H1 Q else Q (.bl false) H1) : tAndV ta tb σ H Q := h
theorem rOrV (h : ta σ H fun x H1 => ∃ k, x = .bl k ∧ if k = true then Q (.bl true) H1 else tb σ H1 Q) : tOrV ta tb σ H Q := h
theorem rNotV (h : ta σ H fun x H1 => ∃ k, x = .bl k ∧ Q (.bl (!k)) H1) : tNotV ta σ H Q := h
theorem rIfE (h : c σ H fun b H1 => if b = true then ta σ H1 Q else tb σ H1 Q) : tIf c ta tb σ H Q := h
variable {tas : TA} {QA : List V → Hp → Prop}
theorem rNil (h : QA [] H) : tNil σ H QA := h
theorem rCons (h : ta σ H fun x H1 => tas σ H1 fun xs H2 => QA (x :: xs) H2) : tCons ta tas σ H QA := h
theorem rTup (h : tas σ H fun xs H1 => xs.length ≤ sizeLine ∧ newO (.tup xs) H1 Q) : tTup tas σ H Q := h
theorem rLst (h : tas σ H fun xs H1 => xs.length ≤ sizeLine ∧ newO (.lst xs) H1 Q) : tLst tas σ H Q := h
theorem rCall {sp : Sp} {E : XK} (h : tas σ H fun vs H1 => sp vs H1 Q E) : tCall sp [] E tas σ H Q := by
  have e : (fun vs H1 => sp vs H1 Q E) = fun vs H1 => sp (vs ++ []) H1 Q E := by
    funext vs H1
    rw [List.append_nil]
  show tas σ H fun vs H1 => sp (vs ++ []) H1 Q E
  rw [← e]
  exact h
theorem rCB {r : List V → Hp → VK → Prop} (h : tas σ H fun vs H1 => r vs H1 Q) : tCB r tas σ H Q := h
theorem rBM {K : PySem.W.Frag} {T : String} {r : V → List V → Hp → VK → Prop} (h : ta σ H fun x H1 => tyV K T x H1 ∧ tas σ H1 fun xs H2 => r x xs H2 Q) : tBM K T r ta tas σ H Q := h
theorem rBM0 {K : PySem.W.Frag} {T : String} {r : V → List V → Hp → VK → Prop} (h : ta σ H fun x H1 => tyV K T x H1 ∧ r x [] H1 Q) : tBM0 K T r ta σ H Q := h
theorem rM1 {r : V → List V → Hp → VK → Prop} (h : ta σ H fun x H1 => (∃ a, x = .str a) ∧ tb σ H1 fun y H2 => r x [y] H2 Q) : tM1 r ta tb σ H Q := h
theorem rM0 {r : V → List V → Hp → VK → Prop} (h : ta σ H fun x H1 => (∃ a, x = .str a) ∧ r x [] H1 Q) : tM0 r ta σ H Q := h
theorem rStr {z : Str} {P : Prop} (h : P) : (∃ a, V.str z = V.str a) ∧ P := ⟨⟨_, rfl⟩, h⟩
variable {QO : Option Int → Hp → Prop} {tl th : TO}
theorem rNoPart (h : QO none H) : tNoPart σ H QO := h
theorem rPart (h : ta σ H fun x H1 => ∃ i, x = .int i ∧ QO (some i) H1) : tPart ta σ H QO := h
theorem rInt {i : Int} {R : Int → Hp → Prop} (h : R i H) : ∃ k, V.int i = V.int k ∧ R k H := ⟨i, rfl, h⟩
theorem rInt' {i : Int} {R : Int → Prop} (h : R i) : ∃ k, V.int i = V.int k ∧ R k := ⟨i, rfl, h⟩
theorem rSl {r : V → Option Int → Option Int → Hp → VK → Prop} (h : ta σ H fun x H1 => tl σ H1 fun l H2 => th σ H2 fun u H3 => r x l u H3 Q) : tSl r ta tl th σ H Q := h
/-! targets -/
variable {g : TG} {gs : TGs} {R : L2.St → Hp → Prop} {v : V} {vs : List V}
theorem gN (h : R (σ.set i (some v)) H) : gName i v σ H R := h
theorem gNl (h : R σ H) : gNil [] σ H R := ⟨rfl, h⟩
theorem gC (h : g v σ H fun σ' H' => gs vs σ' H' R) : gCons g gs (v :: vs) σ H R := ⟨v, vs, rfl, h⟩
theorem gT {K : PySem.W.Frag} {n : Nat} {a : Addr} {xs : List V} (ha : H a = some (.tup xs)) (hn : xs.length = n) (h : gs xs σ H R) : gTup K n gs (.ref a) σ H R := ⟨a, xs, rfl, SqT.of ha, hn, h⟩
/-! tests -/
theorem ifT {A B : Prop} (h : A) : if true = true then A else B := by rw [if_pos rfl]; exact h
theorem ifF {A B : Prop} (h : B) : if false = true then A else B := by rw [if_neg Bool.false_ne_true]; exact h
theorem ifNF {A B : Prop} (h : A) : if (!false) = true then A else B := by rw [if_pos (show (!false) = true from rfl)]; exact h
theorem ifNT {A B : Prop} (h : B) : if (!true) = true then A else B := by rw [if_neg (by decide)]; exact h
/-- the answer is known -/
theorem ifDy {p A B : Prop} [Decidable p] (h : p) (h1 : A) : if decide p = true then A else B := by rw [if_pos (decide_eq_true h)]; exact h1
theorem ifDn {p A B : Prop} [Decidable p] (h : ¬ p) (h2 : B) : if decide p = true then A else B := by rw [if_neg (by rw [decide_eq_false h]; exact Bool.false_ne_true)]; exact h2
theorem ifNDy {p A B : Prop} [Decidable p] (h : p) (h2 : B) : if (!decide p) = true then A else B := by rw [if_neg (by rw [decide_eq_true h]; exact Bool.false_ne_true)]; exact h2
theorem ifNDn {p A B : Prop} [Decidable p] (h : ¬ p) (h1 : A) : if (!decide p) = true then A else B := by rw [if_pos (by rw [decide_eq_false h] <;> rfl)]; exact h1
theorem ifD {p A B : Prop} [Decidable p] (h1 : p → A) (h2 : ¬ p → B) : if decide p = true then A else B := by
  by_cases h : p
  · rw [if_pos (decide_eq_true h)]; exact h1 h
  · rw [if_neg (by rw [decide_eq_false h]; exact Bool.false_ne_true)]; exact h2 h
theorem ifND {p A B : Prop} [Decidable p] (h1 : ¬ p → A) (h2 : p → B) : if (!decide p) = true then A else B := by
  by_cases h : p
  · rw [if_neg (by rw [decide_eq_true h]; exact Bool.false_ne_true)]; exact h2 h
  · rw [if_pos (by rw [decide_eq_false h] <;> rfl)]; exact h1 h
theorem ifB {b : Bool} {A B : Prop} (h1 : b = true → A) (h2 : b = false → B) : if b = true then A else B := by
  cases b with
  | true => rw [if_pos rfl]; exact h1 rfl
  | false => rw [if_neg Bool.false_ne_true]; exact h2 rfl
end
end Z
namespace Z
open PySem PySem.Spec L2

/-! ## operators of several kinds of values -/
abbrev SqV (K : PySem.W.Frag) (H : Hp) (p : Addr) (xs : List V) : Prop := SqL K H p xs ∨ SqT K H p xs
def rAddU (K : PySem.W.Frag) : R2 := fun x y H Q => rI0 (fun i j => .int (i + j)) x y H Q ∨ (∃ i j, x = .str i ∧ y = .str j ∧ i.length + j.length ≤ sizeLine ∧ Q (.str (i ++ j)) H) ∨ rCat x y H Q ∨ rCatA K x y H Q
def rSubU : R2 := rI0 fun i j => .int (i - j)
def rMulU : R2 := fun x y H Q => rI CMul (fun i j => .int (i * j)) x y H Q ∨ rRep x y H Q
def rDivU : R2 := rI CDiv fun i j => .int (i / j)
def rModU : R2 := rI (fun _ j => 0 < j) fun i j => .int (i % j)
def rPowU : R2 := rI CPow fun i j => .int (i ^ j.toNat)
def rEqU (K : PySem.W.Frag) : R2 := fun x y H Q => rEq x y H Q ∨ rEqD K x y H Q
def rNeU (K : PySem.W.Frag) : R2 := fun x y H Q => rNe x y H Q ∨ rNeD K x y H Q
def rLtU : R2 := fun x y H Q => rI0 (fun i j => .bl (decide (i < j))) x y H Q ∨ (∃ i j, x = .str i ∧ y = .str j ∧ Q (.bl (decide (i.cps.toList < j.cps.toList))) H)
def rLeU : R2 := fun x y H Q => rI0 (fun i j => .bl (decide (i ≤ j))) x y H Q ∨ (∃ i j, x = .str i ∧ y = .str j ∧ Q (.bl (!decide (j.cps.toList < i.cps.toList))) H)
def rGtU : R2 := fun x y H Q => rI0 (fun i j => .bl (decide (j < i))) x y H Q ∨ (∃ i j, x = .str i ∧ y = .str j ∧ Q (.bl (decide (j.cps.toList < i.cps.toList))) H)
def rGeU : R2 := fun x y H Q => rI0 (fun i j => .bl (decide (j ≤ i))) x y H Q ∨ (∃ i j, x = .str i ∧ y = .str j ∧ Q (.bl (!decide (i.cps.toList < j.cps.toList))) H)
def rInU (K : PySem.W.Frag) (neg : Bool) : R2 := fun x y H Q => (∃ (c : Nat) (z : Str), x = .str ⟨#[c]⟩ ∧ y = .str z ∧ Q (.bl (if neg = true then !decide (c ∈ z.cps.toList) else decide (c ∈ z.cps.toList))) H) ∨ rIn K neg x y H Q
def rIsU (neg : Bool) : R2 := fun x y H Q => (y = .non ∧ Q (.bl (if neg = true then !decide (x = .non) else decide (x = .non))) H) ∨ (∃ a b : Bool, x = .bl a ∧ y = .bl b ∧ Q (.bl (if neg = true then !decide (a = b) else decide (a = b))) H)
def rSlU (K : PySem.W.Frag) : V → Option Int → Option Int → Hp → VK → Prop := fun x lo hi H Q => rSlL K x lo hi H Q ∨ rSlS x lo hi H Q ∨ rSlA K x lo hi H Q
def rLenU (K : PySem.W.Frag) : List V → Hp → VK → Prop := fun xs H Q => (∃ p ys, xs = [.ref p] ∧ (SqL K H p ys ∨ SqT K H p ys) ∧ Q (.int ys.length) H) ∨ (∃ z, xs = [.str z] ∧ z.length ≤ sizeLine ∧ Q (.int z.length) H)
def rIsiU (K : PySem.W.Frag) : List V → Hp → VK → Prop := fun xs H Q => rIsi K xs H Q ∨ rIsiT K xs H Q
def rAbs : List V → Hp → VK → Prop := fun xs H Q => ∃ i, xs = [.int i] ∧ Q (.int (if i < 0 then -i else i)) H
def rMax2 : List V → Hp → VK → Prop := fun xs H Q => ∃ i j, xs = [.int i, .int j] ∧ Q (.int (if j > i then j else i)) H
def rMin2 : List V → Hp → VK → Prop := fun xs H Q => ∃ i j, xs = [.int i, .int j] ∧ Q (.int (if j < i then j else i)) H
def rInt1 : List V → Hp → VK → Prop := fun xs H Q => (∃ i, xs = [.int i] ∧ Q (.int i) H) ∨ ∃ k, xs = [.bl k] ∧ Q (.int (if k then 1 else 0)) H
def rStrI : List V → Hp → VK → Prop := fun xs H Q => ∃ i, xs = [.int i] ∧ i.natAbs.log2 < 1920 ∧ Q (.str (toString i)) H
def rListOf (K : PySem.W.Frag) : List V → Hp → VK → Prop := fun xs H Q => ∃ p ys, xs = [.ref p] ∧ (SqL K H p ys ∨ SqT K H p ys) ∧ ∀ l, H l = none → Q (.ref l) (upd H l (.lst ys))
def rTupleOf (K : PySem.W.Frag) : List V → Hp → VK → Prop := fun xs H Q => ∃ p ys, xs = [.ref p] ∧ ((SqL K H p ys ∧ ∀ l, H l = none → Q (.ref l) (upd H l (.tup ys))) ∨ (SqT K H p ys ∧ Q (.ref p) H))
def rJoin (K : PySem.W.Frag) : V → List V → Hp → VK → Prop := fun x xs H Q => ∃ a p, ∃ ys : List Str, x = .str a ∧ xs = [.ref p] ∧ (SqL K H p (ys.map V.str) ∨ SqT K H p (ys.map V.str)) ∧ (ys.map (·.length)).sum + ys.length * a.length ≤ 16777216 ∧ Q (.str (Txt.join a ys)) H

section
variable {X : Cx} (K : PySem.W.Frag)
theorem op_addK (hK : X.K = K := by rfl) : OpR X (binaryOp .Add) (rAddU K) := by subst hK; exact OpR.or op_add (OpR.or op_add_str (OpR.or op_cat op_catA))
theorem op_subU {X : Cx} : OpR X (binaryOp .Sub) rSubU := op_sub
theorem op_mulU {X : Cx} : OpR X (binaryOp .Mult) rMulU := OpR.or op_mul op_rep
theorem op_divU {X : Cx} : OpR X (binaryOp .FloorDiv) rDivU := op_fdiv
theorem op_modU {X : Cx} : OpR X (binaryOp .Mod) rModU := op_mod
theorem op_powU {X : Cx} : OpR X (binaryOp .Pow) rPowU := op_pow
theorem op_eqK (hu : X.A.units + 64 < cLine) (hK : X.K = K := by rfl) : OpR X (compareOp .Eq) (rEqU K) := by subst hK; exact OpR.or op_eq (op_eqD hu)
theorem op_neK (hu : X.A.units + 64 < cLine) (hK : X.K = K := by rfl) : OpR X (compareOp .NotEq) (rNeU K) := by subst hK; exact OpR.or op_ne (op_neD hu)
theorem op_ltU {X : Cx} : OpR X (compareOp .Lt) rLtU := OpR.or op_lt op_lt_str
theorem op_leU {X : Cx} : OpR X (compareOp .LtE) rLeU := OpR.or op_le op_le_str
theorem op_gtU {X : Cx} : OpR X (compareOp .Gt) rGtU := OpR.or op_gt op_gt_str
theorem op_geU {X : Cx} : OpR X (compareOp .GtE) rGeU := OpR.or op_ge op_ge_str
theorem op_inK (hK : X.K = K := by rfl) : OpR X (compareOp .In) (rInU K false) := by
  subst hK
  intro pins s σ H x y v u Q I rx ry h
  rcases h with ⟨c, z, e1, e2, q⟩ | h
  · exact op_in_sign pins s σ H x y v u Q I rx ry ⟨c, z, e1, e2, by simpa using q⟩
  · exact op_in_seq pins s σ H x y v u Q I rx ry h
theorem op_notInK (hK : X.K = K := by rfl) : OpR X (compareOp .NotIn) (rInU K true) := by
  subst hK
  intro pins s σ H x y v u Q I rx ry h
  rcases h with ⟨c, z, e1, e2, q⟩ | h
  · exact op_notIn_sign pins s σ H x y v u Q I rx ry ⟨c, z, e1, e2, by simpa using q⟩
  · exact op_notIn_seq pins s σ H x y v u Q I rx ry h
theorem op_isU {X : Cx} : OpR X (compareOp .Is) (rIsU false) := by
  intro pins s σ H x y v u Q I rx ry h
  rcases h with ⟨e1, q⟩ | ⟨a, b, e1, e2, q⟩
  · exact op_isN pins s σ H x y v u Q I rx ry ⟨e1, by simpa using q⟩
  · exact op_isBl pins s σ H x y v u Q I rx ry ⟨a, b, e1, e2, by simpa using q⟩
theorem op_isNotU {X : Cx} : OpR X (compareOp .IsNot) (rIsU true) := by
  intro pins s σ H x y v u Q I rx ry h
  rcases h with ⟨e1, q⟩ | ⟨a, b, e1, e2, q⟩
  · exact op_notN pins s σ H x y v u Q I rx ry ⟨e1, by simpa using q⟩
  · exact op_notBl pins s σ H x y v u Q I rx ry ⟨a, b, e1, e2, by simpa using q⟩
theorem sl_K (hK : X.K = K := by rfl) : SlR X (rSlU K) := by subst hK; exact SlR.or sl_list (SlR.or sl_str sl_tupA)
theorem ix_K (hK : X.K = K := by rfl) : IxR X (rIx K) := by subst hK; exact ix_seq
theorem call_lenK (hK : X.K = K := by rfl) : CallR X (.builtin "len") (rLenU K) := by subst hK; exact CallR.or call_len_seq call_len_str
theorem call_isiK' (hK : X.K = K := by rfl) : CallR X (.builtin "isinstance") (rIsiU K) := by subst hK; exact CallR.or call_isi call_isiT
theorem call_absU {X : Cx} : CallR X (.builtin "abs") rAbs := call_abs
theorem call_max2U {X : Cx} (hc : X.calm = true) : CallR X (.builtin "max") rMax2 := call_max2 hc
theorem call_min2U {X : Cx} (hc : X.calm = true) : CallR X (.builtin "min") rMin2 := call_min2 hc
theorem call_intU {X : Cx} : CallR X (.type "int") rInt1 := call_int1
theorem call_strI {X : Cx} : CallR X (.type "str") rStrI := call_str_int
theorem call_sumK (hc : X.calm = true) (hK : X.K = K := by rfl) : CallR X (.builtin "sum") (rSum K) := by subst hK; exact cr_sum hc
theorem call_listK (hK : X.K = K := by rfl) : CallR X (.type "list") (rListOf K) := by subst hK; exact call_list_of
theorem call_tupleK (hK : X.K = K := by rfl) : CallR X (.type "tuple") (rTupleOf K) := by subst hK; exact call_tuple_of
theorem mt_joinK (hK : X.K = K := by rfl) : MtR X "str.join" (rJoin K) := by subst hK; exact mt_join
theorem pi_listK {tg l : Expr} {tl : TE} (hl : PE X l tl) (hK : X.K = K := by rfl) : PI X tg l (iList K tl) := by subst hK; exact pi_list hl
theorem pi_tupK {tg l : Expr} {tl : TE} (hl : PE X l tl) (hK : X.K = K := by rfl) : PI X tg l (iTup K tl) := by subst hK; exact pi_tup hl
/-- truth of any value -/
def tTru (K : PySem.W.Frag) (ta : TE) : TT := fun σ H Q => ta σ H fun x H' => ∃ k, TruV K x H' k ∧ Q k H'
theorem pt_truK {a : Expr} {ta : TE} (ha : PE X a ta) (he : ∀ whole, isTrue a X.env whole = (do let v ← whole; standAt a.pos; holding [v] (truthy v))) (hK : X.K = K := by rfl) : PT X a (tTru K ta) := by subst hK; exact pt_truth ha he
end
/-- a row of three comparisons -/
def tChain3 (r r' r'' : R2) (ta tb tc td : TE) : TT := fun σ H Q => ta σ H fun x H1 => tb σ H1 fun y H2 => r x y H2 fun z H3 => ∃ k, z = .bl k ∧ (if k = true then
  (tc σ H3 fun y2 H4 => r' y y2 H4 fun z2 H5 => ∃ k2, z2 = .bl k2 ∧ (if k2 = true then (td σ H5 fun y3 H6 => r'' y2 y3 H6 fun z3 H7 => ∃ k3, z3 = .bl k3 ∧ Q k3 H7) else Q false H5)) else Q false H3)
theorem pt_chain3 {X : Cx} {a b c d : Expr} {pos : Pos} {ta tb tc td : TE} {op op' op'' : CmpOp} {r r' r'' : R2} (ho : OpR X (compareOp op) r) (ho' : OpR X (compareOp op') r') (ho'' : OpR X (compareOp op'') r'') (ha : PE X a ta) (hb : PE X b tb) (hc : PE X c tc) (hd : PE X d td)
    (hm : lastMarks [op, op', op''] [b, c, d] = false := by with_unfolding_all rfl) : PT X (.Compare a [op, op', op''] [b, c, d] pos) (tChain3 r r' r'' ta tb tc td) := by
  refine ⟨fun pins s σ H Q I h => ?_⟩
  refine PyProof.Rows.isTrue_chain (thn (ha.run pins s σ H _ I h) fun v s1 ⟨x, H1, I1, r1, q1⟩ => PyProof.Rows.test_link (thn (hb.run pins s1 σ H1 _ I1 q1) fun u s2 ⟨y, H2, I2, r2, q2⟩ =>
    thn (ho pins s2 σ H2 x y v u _ I2 r1 r2 q2) fun e s3 ⟨z, H3, I3, r3, k, ek, q3⟩ => ?_)) hm
  subst ek
  cases r3
  refine wpAny_truthy_bool ?_
  cases k with
  | false => exact PyProof.Rows.ite_ff ⟨H3, I3, q3⟩
  | true =>
    refine PyProof.Rows.ite_tt (PyProof.Rows.test_link (thn (hc.run pins s3 σ H3 _ I3 q3) fun w' s4 ⟨y2, H4, I4, r4, q4⟩ => thn (ho' pins s4 σ H4 y y2 u w' _ I4 r2 r4 q4) fun e2 s5 ⟨z2, H5, I5, r5, k2, ek2, q5⟩ => ?_))
    subst ek2
    cases r5
    refine wpAny_truthy_bool ?_
    cases k2 with
    | false => exact PyProof.Rows.ite_ff ⟨H5, I5, q5⟩
    | true =>
      refine PyProof.Rows.ite_tt (PyProof.Rows.test_last (thn (hd.run pins s5 σ H5 _ I5 q5) fun w3 s6 ⟨y3, H6, I6, r6, q6⟩ => thn (ho'' pins s6 σ H6 y2 y3 w' w3 _ I6 r4 r6 q6) fun e3 s7 ⟨z3, H7, I7, r7, k3, ek3, q7⟩ => ?_))
      subst ek3
      cases r7
      exact wpAny_truthy_bool ⟨H7, I7, q7⟩
theorem rChain3 {r r' r'' : R2} {ta tb tc td : TE} {σ : L2.St} {H : Hp} {Q : Bool → Hp → Prop} (h : ta σ H fun x H1 => tb σ H1 fun y H2 => r x y H2 fun z H3 => ∃ k, z = .bl k ∧ (if k = true then
  (tc σ H3 fun y2 H4 => r' y y2 H4 fun z2 H5 => ∃ k2, z2 = .bl k2 ∧ (if k2 = true then (td σ H5 fun y3 H6 => r'' y2 y3 H6 fun z3 H7 => ∃ k3, z3 = .bl k3 ∧ Q k3 H7) else Q false H5)) else Q false H3)) : tChain3 r r' r'' ta tb tc td σ H Q := h
section
theorem sz_le {n : Nat} (h : n ≤ 16777216) : n ≤ sizeLine := by rw [sizeLine_eq]; exact h
theorem sz_lt {n : Nat} (h : n < 16777216) : n < sizeLine := by rw [sizeLine_eq]; exact h
end

/-! ## places -/
theorem at0 {α : Type} {x : α} {xs : List α} : atI (x :: xs) 0 = some x := by
  have := atI_nat (xs := x :: xs) (j := 0) (v := x) rfl
  exact this
theorem at1 {α : Type} {x y : α} {xs : List α} : atI (x :: y :: xs) 1 = some y := by
  have := atI_nat (xs := x :: y :: xs) (j := 1) (v := y) rfl
  exact this
theorem at2 {α : Type} {x y z : α} {xs : List α} : atI (x :: y :: z :: xs) 2 = some z := by
  have := atI_nat (xs := x :: y :: z :: xs) (j := 2) (v := z) rfl
  exact this
theorem ixN0 {α : Type} {x : α} {xs : List α} : ixN (x :: xs).length 0 = some 0 := by
  unfold ixN
  rw [if_pos (by decide), if_pos (by rw [List.length_cons]; omega)]
  rfl
theorem at_of {α : Type} {xs : List α} {z : Int} {j : Nat} {v : α} (e : z = (j : Int)) (h : xs[j]? = some v) : atI xs z = some v := by
  rw [e]; exact atI_nat h
/-- an item at a place in bounds -/
theorem at_in {α : Type} {xs : List α} {z : Int} (h0 : 0 ≤ z) (h1 : z < xs.length) : ∃ v, atI xs z = some v ∧ xs[z.toNat]? = some v ∧ v ∈ xs := by
  have hl : z.toNat < xs.length := by omega
  refine ⟨xs[z.toNat], at_of (j := z.toNat) (by omega) (List.getElem?_eq_getElem hl), List.getElem?_eq_getElem hl, List.getElem_mem hl⟩

/-! ## their readings, kind by kind -/
section
variable {K : PySem.W.Frag} {H : Hp} {Q : VK} {i j : Int} {a b : Str} {p q : Addr} {xs ys : List V} {x y v : V}
theorem add_int (h : Q (.int (i + j)) H) : rAddU K (.int i) (.int j) H Q := .inl ⟨i, j, rfl, rfl, h⟩
theorem add_str (hl : a.length + b.length ≤ sizeLine) (h : Q (.str (a ++ b)) H) : rAddU K (.str a) (.str b) H Q := .inr (.inl ⟨a, b, rfl, rfl, hl, h⟩)
theorem add_lst (h1 : H p = some (.lst xs)) (h2 : H q = some (.lst ys)) (hl : xs.length + ys.length ≤ sizeLine) (h : newO (.lst (xs ++ ys)) H Q) : rAddU K (.ref p) (.ref q) H Q := .inr (.inr (.inl ⟨p, q, xs, ys, rfl, rfl, h1, h2, hl, h⟩))
theorem add_tup (h1 : H p = some (.tup xs)) (h2 : H q = some (.tup ys)) (n1 : xs ≠ []) (n2 : ys ≠ []) (hl : xs.length + ys.length ≤ sizeLine) (h : newO (.tup (xs ++ ys)) H Q) : rAddU K (.ref p) (.ref q) H Q :=
  .inr (.inr (.inr ⟨p, q, xs, ys, rfl, rfl, SqT.of h1, SqT.of h2, hl, fun e => absurd e n1, fun _ e => absurd e n2, fun _ _ => h⟩))
theorem sub_int (h : Q (.int (i - j)) H) : rSubU (.int i) (.int j) H Q := ⟨i, j, rfl, rfl, h⟩
theorem mul_int (hc : CMul i j) (h : Q (.int (i * j)) H) : rMulU (.int i) (.int j) H Q := .inl ⟨i, j, rfl, rfl, hc, h⟩
theorem mul_intR (hc : -(2 ^ 64) < j ∧ j < 2 ^ 64) (h : Q (.int (i * j)) H) : rMulU (.int i) (.int j) H Q := .inl ⟨i, j, rfl, rfl, .inr hc, h⟩
theorem mul_intL (hc : -(2 ^ 64) < i ∧ i < 2 ^ 64) (h : Q (.int (i * j)) H) : rMulU (.int i) (.int j) H Q := .inl ⟨i, j, rfl, rfl, .inl hc, h⟩
theorem div_int (hc : 0 < j ∧ j < 1073741824) (h : Q (.int (i / j)) H) : rDivU (.int i) (.int j) H Q := ⟨i, j, rfl, rfl, hc, h⟩
theorem mod_int (hc : 0 < j) (h : Q (.int (i % j)) H) : rModU (.int i) (.int j) H Q := ⟨i, j, rfl, rfl, hc, h⟩
theorem neg_int (h : Q (.int (-i)) H) : rU (fun i => .int (-i)) (.int i) H Q := ⟨i, rfl, h⟩
theorem pow_int (hc : 0 ≤ j ∧ j ≤ 1000000 ∧ i.natAbs < 2 ^ 64) (h : Q (.int (i ^ j.toNat)) H) : rPowU (.int i) (.int j) H Q := ⟨i, j, rfl, rfl, hc, h⟩
theorem dec_int : decide (V.int i = V.int j) = decide (i = j) := by
  by_cases h : i = j
  · subst h; simp
  · rw [decide_eq_false h, decide_eq_false (fun e => h (V.int.inj e))]
theorem dec_str : decide (V.str a = V.str b) = decide (a = b) := by
  by_cases h : a = b
  · subst h; simp
  · rw [decide_eq_false h, decide_eq_false (fun e => h (V.str.inj e))]
theorem dec_bl {a b : Bool} : decide (V.bl a = V.bl b) = decide (a = b) := by
  by_cases h : a = b
  · subst h; simp
  · rw [decide_eq_false h, decide_eq_false (fun e => h (V.bl.inj e))]
theorem eq_int (h : Q (.bl (decide (i = j))) H) : rEqU K (.int i) (.int j) H Q := .inl ⟨rfl, by rw [dec_int]; exact h⟩
theorem eq_str (h : Q (.bl (decide (a = b))) H) : rEqU K (.str a) (.str b) H Q := .inl ⟨rfl, by rw [dec_str]; exact h⟩
theorem eq_bl {a b : Bool} (h : Q (.bl (decide (a = b))) H) : rEqU K (.bl a) (.bl b) H Q := .inl ⟨rfl, by rw [dec_bl]; exact h⟩
theorem eq_scal (hs : scal x y = true) (h : Q (.bl (decide (x = y))) H) : rEqU K x y H Q := .inl ⟨hs, h⟩
theorem eq_deep {d e : PyData} (h1 : Dp K H x d) (h2 : Dp K H y e) (s1 : SeqAt.shaped d = true) (s2 : SeqAt.shaped e = true) (h : Q (.bl (PyData.eqv d e)) H) : rEqU K x y H Q := .inr ⟨d, e, h1, h2, s1, s2, h⟩
theorem ne_int (h : Q (.bl (!decide (i = j))) H) : rNeU K (.int i) (.int j) H Q := .inl ⟨rfl, by rw [dec_int]; exact h⟩
theorem ne_str (h : Q (.bl (!decide (a = b))) H) : rNeU K (.str a) (.str b) H Q := .inl ⟨rfl, by rw [dec_str]; exact h⟩
theorem ne_bl {a b : Bool} (h : Q (.bl (!decide (a = b))) H) : rNeU K (.bl a) (.bl b) H Q := .inl ⟨rfl, by rw [dec_bl]; exact h⟩
theorem ne_scal (hs : scal x y = true) (h : Q (.bl (!decide (x = y))) H) : rNeU K x y H Q := .inl ⟨hs, h⟩
theorem ne_deep {d e : PyData} (h1 : Dp K H x d) (h2 : Dp K H y e) (s1 : SeqAt.shaped d = true) (s2 : SeqAt.shaped e = true) (h : Q (.bl (!PyData.eqv d e)) H) : rNeU K x y H Q := .inr ⟨d, e, h1, h2, s1, s2, h⟩
theorem lt_int (h : Q (.bl (decide (i < j))) H) : rLtU (.int i) (.int j) H Q := .inl ⟨i, j, rfl, rfl, h⟩
theorem le_int (h : Q (.bl (decide (i ≤ j))) H) : rLeU (.int i) (.int j) H Q := .inl ⟨i, j, rfl, rfl, h⟩
theorem gt_int (h : Q (.bl (decide (j < i))) H) : rGtU (.int i) (.int j) H Q := .inl ⟨i, j, rfl, rfl, h⟩
theorem ge_int (h : Q (.bl (decide (j ≤ i))) H) : rGeU (.int i) (.int j) H Q := .inl ⟨i, j, rfl, rfl, h⟩
theorem lt_str (h : Q (.bl (decide (a.cps.toList < b.cps.toList))) H) : rLtU (.str a) (.str b) H Q := .inr ⟨a, b, rfl, rfl, h⟩
theorem is_non (h : Q (.bl (decide (x = .non))) H) : rIsU false x .non H Q := .inl ⟨rfl, h⟩
theorem isnt_non (h : Q (.bl (!decide (x = .non))) H) : rIsU true x .non H Q := .inl ⟨rfl, h⟩
theorem is_bl {a b : Bool} (h : Q (.bl (decide (a = b))) H) : rIsU false (.bl a) (.bl b) H Q := .inr ⟨a, b, rfl, rfl, h⟩
theorem isnt_bl {a b : Bool} (h : Q (.bl (!decide (a = b))) H) : rIsU true (.bl a) (.bl b) H Q := .inr ⟨a, b, rfl, rfl, h⟩
theorem in_seq {neg : Bool} (h1 : SqV K H p xs) (hx : flatV x = true) (ha : xs.all flatV = true) (h : Q (.bl (if neg then !inV x xs else inV x xs)) H) : rInU K neg x (.ref p) H Q := .inr ⟨p, xs, rfl, h1, hx, ha, h⟩
theorem in_sign {c : Nat} (h : Q (.bl (decide (c ∈ a.cps.toList))) H) : rInU K false (.str ⟨#[c]⟩) (.str a) H Q := .inl ⟨c, a, rfl, rfl, h⟩
/-- an item -/
theorem ix_lst (h1 : H p = some (.lst xs)) (h2 : atI xs i = some v) (h : Q v H) : rIx K (.ref p) (.int i) H Q := .inl ⟨p, xs, i, v, rfl, rfl, SqL.of h1, h2, h⟩
theorem ix_sql (h1 : SqL K H p xs) (h2 : atI xs i = some v) (h : Q v H) : rIx K (.ref p) (.int i) H Q := .inl ⟨p, xs, i, v, rfl, rfl, h1, h2, h⟩
theorem ix_tpl (h1 : H p = some (.tup xs)) (h2 : atI xs i = some v) (h : Q v H) : rIx K (.ref p) (.int i) H Q := .inr (.inl ⟨p, xs, i, v, rfl, rfl, SqT.of h1, h2, h⟩)
theorem ix_str {c : Nat} (hl : a.length ≤ sizeLine) (h2 : atI a.cps.toList i = some c) (h : Q (.str ⟨#[c]⟩) H) : rIx K (.str a) (.int i) H Q := .inr (.inr ⟨a, i, c, rfl, rfl, hl, h2, h⟩)
variable {lo hi : Option Int}
theorem sl_lst (h1 : H p = some (.lst xs)) (h : newO (.lst (cutV xs lo hi)) H Q) : rSlU K (.ref p) lo hi H Q := .inl ⟨p, xs, rfl, SqL.of h1, h⟩
theorem sl_strU (hl : a.length ≤ sizeLine) (h : Q (.str (cutS a lo hi)) H) : rSlU K (.str a) lo hi H Q := .inr (.inl ⟨a, rfl, hl, h⟩)
theorem len_lst (h1 : H p = some (.lst xs)) (h : Q (.int xs.length) H) : rLenU K [.ref p] H Q := .inl ⟨p, xs, rfl, .inl (SqL.of h1), h⟩
theorem len_sql (h1 : SqL K H p xs) (h : Q (.int xs.length) H) : rLenU K [.ref p] H Q := .inl ⟨p, xs, rfl, .inl h1, h⟩
theorem len_tup (h1 : H p = some (.tup xs)) (h : Q (.int xs.length) H) : rLenU K [.ref p] H Q := .inl ⟨p, xs, rfl, .inr (SqT.of h1), h⟩
theorem len_str (hl : a.length ≤ sizeLine) (h : Q (.int a.length) H) : rLenU K [.str a] H Q := .inr ⟨a, rfl, hl, h⟩
theorem abs_int (h : Q (.int (if i < 0 then -i else i)) H) : rAbs [.int i] H Q := ⟨i, rfl, h⟩
theorem max_int (h : Q (.int (if j > i then j else i)) H) : rMax2 [.int i, .int j] H Q := ⟨i, j, rfl, h⟩
theorem min_int (h : Q (.int (if j < i then j else i)) H) : rMin2 [.int i, .int j] H Q := ⟨i, j, rfl, h⟩
theorem int_int (h : Q (.int i) H) : rInt1 [.int i] H Q := .inl ⟨i, rfl, h⟩
theorem list_lst (h1 : H p = some (.lst xs)) (h : newO (.lst xs) H Q) : rListOf K [.ref p] H Q := ⟨p, xs, rfl, .inl (SqL.of h1), h⟩
theorem list_tup (h1 : H p = some (.tup xs)) (h : newO (.lst xs) H Q) : rListOf K [.ref p] H Q := ⟨p, xs, rfl, .inr (SqT.of h1), h⟩
theorem tuple_lst (h1 : H p = some (.lst xs)) (h : newO (.tup xs) H Q) : rTupleOf K [.ref p] H Q := ⟨p, xs, rfl, .inl ⟨SqL.of h1, h⟩⟩
theorem tuple_tup (h1 : H p = some (.tup xs)) (h : Q (.ref p) H) : rTupleOf K [.ref p] H Q := ⟨p, xs, rfl, .inr ⟨SqT.of h1, h⟩⟩
theorem sum_lst {ns : List Int} (h1 : H p = some (.lst (ns.map V.int))) (h : Q (.int ns.sum) H) : rSum K [.ref p] H Q := ⟨p, ns, rfl, SqL.of h1, h⟩
theorem join_lst {zs : List Str} (h1 : H p = some (.lst (zs.map V.str))) (hl : (zs.map (·.length)).sum + zs.length * a.length ≤ 16777216) (h : Q (.str (Txt.join a zs)) H) : rJoin K (.str a) [.ref p] H Q := ⟨a, p, zs, rfl, rfl, .inl (SqL.of h1), hl, h⟩
/-! methods of a list -/
theorem tyL {P : Prop} (h1 : H p = some (.lst xs)) (h : P) : tyV K "list" (.ref p) H ∧ P := ⟨.inl ⟨rfl, _, SqL.of h1⟩, h⟩
theorem append_lst (h1 : H p = some (.lst xs)) (hl : xs.length < sizeLine) (h : putO p (xs ++ [x]) H (Q .non)) : rAppend (.ref p) [x] H Q := ⟨p, xs, x, rfl, rfl, h1, hl, h⟩
theorem pop_lst (h1 : H p = some (.lst xs)) (h2 : xs[xs.length - 1]? = some v) (h : putO p xs.dropLast H (Q v)) : rPop (.ref p) [] H Q := ⟨p, xs, v, rfl, rfl, h1, h2, h⟩
theorem clear_lst (h1 : H p = some (.lst xs)) (h : putO p [] H (Q .non)) : rClear (.ref p) [] H Q := ⟨p, xs, rfl, rfl, h1, h⟩
theorem set_lst {k : Nat} {R : Hp → Prop} (h1 : H p = some (.lst xs)) (h2 : ixN xs.length i = some k) (h : putO p (xs.set k v) H R) : rSetL (.ref p) (.int i) v H R := ⟨p, xs, i, k, rfl, rfl, h1, h2, h⟩
/-! isinstance -/
theorem isi_ty {n m : String} {b : Bool} (ty : TyX K H x (.type n)) (e : kitB n m = some b) (h : Q (.bl b) H) : rIsiU K [x, .ty m] H Q := .inl ⟨x, .ty m, _, _, b, rfl, .ty m, ty, kit_ty e, h⟩
theorem kb_ii : kitB "int" "int" = some true := by decide +kernel
theorem kb_ib : kitB "int" "bool" = some false := by decide +kernel
theorem kb_bi : kitB "bool" "int" = some true := by decide +kernel
theorem kb_bb : kitB "bool" "bool" = some true := by decide +kernel
theorem kb_ss : kitB "str" "str" = some true := by decide +kernel
theorem kb_tt : kitB "tuple" "tuple" = some true := by decide +kernel
theorem kb_ll : kitB "list" "list" = some true := by decide +kernel
theorem isi_ii (h : Q (.bl true) H) : rIsiU K [.int i, .ty "int"] H Q := isi_ty (.base (.int i)) kb_ii h
theorem isi_ib (h : Q (.bl false) H) : rIsiU K [.int i, .ty "bool"] H Q := isi_ty (.base (.int i)) kb_ib h
theorem isi_bb {c : Bool} (h : Q (.bl true) H) : rIsiU K [.bl c, .ty "bool"] H Q := isi_ty (.base (.bl c)) kb_bb h
theorem isi_bi {c : Bool} (h : Q (.bl true) H) : rIsiU K [.bl c, .ty "int"] H Q := isi_ty (.base (.bl c)) kb_bi h
theorem isi_ss (h : Q (.bl true) H) : rIsiU K [.str a, .ty "str"] H Q := isi_ty (.base (.str a)) kb_ss h
theorem isi_tt (h1 : H p = some (.tup xs)) (h : Q (.bl true) H) : rIsiU K [.ref p, .ty "tuple"] H Q := isi_ty (.base (.tup h1)) kb_tt h
theorem isi_ll (h1 : H p = some (.lst xs)) (h : Q (.bl true) H) : rIsiU K [.ref p, .ty "list"] H Q := isi_ty (.base (.lst h1)) kb_ll h
/-! truth -/
variable {QT : Bool → Hp → Prop}
theorem rTru {σ : L2.St} {ta : TE} (h : ta σ H fun x H' => ∃ k, TruV K x H' k ∧ QT k H') : tTru K ta σ H QT := h
theorem tru_bl {c : Bool} {R : Bool → Prop} (h : R c) : ∃ k, TruV K (.bl c) H k ∧ R k := ⟨c, rfl, h⟩
theorem tru_int {R : Bool → Prop} (h : R (i != 0)) : ∃ k, TruV K (.int i) H k ∧ R k := ⟨_, rfl, h⟩
theorem tru_str {R : Bool → Prop} (hl : a.length ≤ sizeLine) (h : R ((a.length : Int) != 0)) : ∃ k, TruV K (.str a) H k ∧ R k := ⟨_, ⟨hl, rfl⟩, h⟩
theorem tru_lst {R : Bool → Prop} (h1 : H p = some (.lst xs)) (h : R (!xs.isEmpty)) : ∃ k, TruV K (.ref p) H k ∧ R k := ⟨_, .inl ⟨xs, SqL.of h1, rfl⟩, h⟩
theorem tru_tup {R : Bool → Prop} (h1 : H p = some (.tup xs)) (h : R (!xs.isEmpty)) : ∃ k, TruV K (.ref p) H k ∧ R k := ⟨_, .inr (.inl ⟨xs, SqT.of h1, rfl⟩), h⟩
end
end Z
namespace Z
open PySem PySem.Spec L2

theorem hu64 {k : Nat} {A : Around} (r : Room k A) : A.units + 64 < cLine := by have := r.un; omega
theorem pe_c0 {X : Cx} {k j : Nat} {x : Str} {sp : Sp} {p pos : Pos} (c : C8.Cal X.prog X.w X.K X.mg X.base k x sp []) (hr : Room j X.A) (hk : k ≤ j) (hg : Gl X x) (hdb : (x == ("__debug__" : Str)) = false := by decide) :
    PE X (.Call (.Name x p) [] [] pos) (tCall sp [] C8.E0 tNil) := by
  obtain ⟨f, fd, ps, ds, F, hm, kp, b, d⟩ := c.ex
  exact pe_call0 F (hr.mono hk) hg hm kp b d C8.pass0 hdb
/-! ## loops -/
section
variable {g : TG} {tb : TS} {nx : L2.St → Hp → Prop} {rt : VK} {bk ct : L2.St → Hp → Prop} {σ : L2.St} {H : Hp} {ta : TA} {te tl : TE} {K : PySem.W.Frag} {Q : VK} {tt : TT} {vs : List Nat}
/-- a loop over what J walks -/
def loopJ (J : It) (g : TG) (tb : TS) (nx : L2.St → Hp → Prop) (rt : VK) (σ : L2.St) (H : Hp) : Prop :=
  ∃ W : Nat → Nat → L2.St → Hp → Prop, (∃ m, W 0 m σ H) ∧ ∀ i m σ H, W i m σ H →
    (J.stop i H ∧ nx σ H) ∨ (J.go i H ∧ ∃ N : L2.St → Hp → Prop, (∀ σ' H', N σ' H' → ∃ m', m' < m ∧ W (i + 1) m' σ' H') ∧ ∀ x H', J.yld i H x H' → g x σ H' fun σ2 H2 => tb ⟨N, rt, nx, N⟩ σ2 H2)
abbrev loopR (lo : Int) (n : Nat) := loopJ (Itr lo n)
abbrev loopL (K : PySem.W.Frag) (a : Addr) := loopJ (Itl K a)
theorem rForR1 (h : ta σ H fun as H1 => ∃ j : Int, as = [.int j] ∧ -(2 ^ 62) ≤ j ∧ j < 2 ^ 62 ∧ loopJ (Itr 0 j.toNat) g tb nx rt σ H1) : tFor (iRng1 ta) g tb ⟨nx, rt, bk, ct⟩ σ H := h
theorem rForR2 (h : ta σ H fun as H1 => ∃ i j : Int, as = [.int i, .int j] ∧ (-(2 ^ 62) ≤ i ∧ i < 2 ^ 62 ∧ -(2 ^ 62) ≤ j ∧ j < 2 ^ 62) ∧ loopJ (Itr i (j - i).toNat) g tb nx rt σ H1) : tFor (iRng2 ta) g tb ⟨nx, rt, bk, ct⟩ σ H := h
theorem rForL (h : tl σ H fun x H1 => ∃ a, x = .ref a ∧ (∃ xs, SqL K H1 a xs) ∧ loopJ (Itl K a) g tb nx rt σ H1) : tFor (iList K tl) g tb ⟨nx, rt, bk, ct⟩ σ H := h
theorem rRg1 {n : Int} {R : Int → Prop} (b : -(2 ^ 62) ≤ n ∧ n < 2 ^ 62) (h : R n) : ∃ j : Int, [V.int n] = [V.int j] ∧ -(2 ^ 62) ≤ j ∧ j < 2 ^ 62 ∧ R j := ⟨n, rfl, b.1, b.2, h⟩
theorem rRg2 {n m : Int} {R : Int → Int → Prop} (b : -(2 ^ 62) ≤ n ∧ n < 2 ^ 62 ∧ -(2 ^ 62) ≤ m ∧ m < 2 ^ 62) (h : R n m) : ∃ i j : Int, [V.int n, V.int m] = [V.int i, V.int j] ∧ (-(2 ^ 62) ≤ i ∧ i < 2 ^ 62 ∧ -(2 ^ 62) ≤ j ∧ j < 2 ^ 62) ∧ R i j := ⟨n, m, rfl, b, h⟩
theorem rRf {p : Addr} {xs : List V} {R : Addr → Prop} (h1 : H p = some (.lst xs)) (h : R p) : ∃ a, V.ref p = V.ref a ∧ (∃ xs, SqL K H a xs) ∧ R a := ⟨p, rfl, ⟨xs, SqL.of h1⟩, h⟩
theorem loopR_by {lo : Int} {n : Nat} (Pv : Nat → L2.St → Hp → Prop) (h0 : Pv 0 σ H)
    (hs : ∀ (i : Nat) σ H, i < n → Pv i σ H → g (.int (lo + i)) σ H fun σ2 H2 => tb ⟨Pv (i + 1), rt, nx, Pv (i + 1)⟩ σ2 H2) (hd : ∀ σ H, Pv n σ H → nx σ H) : loopJ (Itr lo n) g tb nx rt σ H :=
  for_range (D := ⟨nx, rt, fun _ _ => False, fun _ _ => False⟩) Pv h0 hs hd
theorem loopL_by {a : Addr} {xs : List V} (Pv : Nat → L2.St → Hp → Prop) (h0 : Pv 0 σ H) (hl : ∀ i σ H, i ≤ xs.length → Pv i σ H → H a = some (.lst xs))
    (hs : ∀ i x σ H, xs[i]? = some x → Pv i σ H → g x σ H fun σ2 H2 => tb ⟨Pv (i + 1), rt, nx, Pv (i + 1)⟩ σ2 H2) (hd : ∀ σ H, Pv xs.length σ H → nx σ H) : loopJ (Itl K a) g tb nx rt σ H :=
  for_list (K := K) (D := ⟨nx, rt, fun _ _ => False, fun _ _ => False⟩) Pv h0 (fun i σ H hi p => SqL.of (hl i σ H hi p)) hs hd
/-! a while -/
def loopW (c : TT) (tb : TS) (nx : L2.St → Hp → Prop) (rt : VK) (σ : L2.St) (H : Hp) : Prop :=
  tWhile c tb ⟨nx, rt, fun _ _ => False, fun _ _ => False⟩ σ H
theorem rWhile {c : TT} (h : tWhile c tb ⟨nx, rt, bk, ct⟩ σ H) : tWhile c tb ⟨nx, rt, bk, ct⟩ σ H := h

/-! ## comprehensions -/
/-- a comprehension over what J walks, the list at a new address -/
def compJ (J : It) (g : TG) (tt : TT) (te : TE) (vs : List Nat) (σ : L2.St) (H1 : Hp) (Q : VK) : Prop := ∀ D, H1 D = none → ∃ W : Nat → Nat → Hp → Prop, (∃ m, W 0 m (upd H1 D (.lst []))) ∧ ∀ i m H, W i m H →
  (J.stop i H ∧ Q (.ref D) H) ∨ (J.go i H ∧ ∃ Nx : Hp → Prop, (∀ H', Nx H' → ∃ m', m' < m ∧ W (i + 1) m' H') ∧ ∀ x H', J.yld i H x H' → g x (wipe σ vs) H' fun σ2 H2 => wipe σ2 vs = wipe σ vs ∧ tt σ2 H2 fun b H3 =>
    if b = true then te σ2 H3 fun y H4 => ∃ acc, H4 D = some (.lst acc) ∧ acc.length < sizeLine ∧ Nx (upd H4 D (.lst (acc ++ [y]))) else Nx H3)
theorem rLcR1 (h : ta σ H fun as H1 => ∃ j : Int, as = [.int j] ∧ -(2 ^ 62) ≤ j ∧ j < 2 ^ 62 ∧ compJ (Itr 0 j.toNat) g tt te vs σ H1 Q) : tLc (iRng1 ta) g tt te vs σ H Q := h
theorem rLcR2 (h : ta σ H fun as H1 => ∃ i j : Int, as = [.int i, .int j] ∧ (-(2 ^ 62) ≤ i ∧ i < 2 ^ 62 ∧ -(2 ^ 62) ≤ j ∧ j < 2 ^ 62) ∧ compJ (Itr i (j - i).toNat) g tt te vs σ H1 Q) : tLc (iRng2 ta) g tt te vs σ H Q := h
theorem rLcL (h : tl σ H fun x H1 => ∃ a, x = .ref a ∧ (∃ xs, SqL K H1 a xs) ∧ compJ (Itl K a) g tt te vs σ H1 Q) : tLc (iList K tl) g tt te vs σ H Q := h
theorem wipe1 (σ : L2.St) (i : Nat) (x : V) : wipe ((wipe σ [i]).set i (some x)) [i] = wipe σ [i] := by
  show (((σ.set i none).set i (some x)).set i none) = σ.set i none
  rw [List.set_set, List.set_set]
end

/-! ## the reel -/
/-- the reel: a list of whole numbers, at least 41 of them -/
def Reel (H : Hp) (r : Addr) : Prop := ∃ (p : Int) (ns : List Int), H r = some (.lst (V.int p :: ns.map V.int)) ∧ 40 ≤ ns.length ∧ ns.length ≤ 5000
theorem Reel.lst {H : Hp} {r : Addr} (h : Reel H r) : ∃ xs, H r = some (.lst xs) := let ⟨_, _, e, _⟩ := h; ⟨_, e⟩
theorem Reel.same {H H' : Hp} {r : Addr} (h : Reel H r) (s : Same H H') : Reel H' r := let ⟨p, ns, e, l⟩ := h; ⟨p, ns, s _ _ e, l⟩
theorem Reel.sl {H H' : Hp} {r l : Addr} (h : Reel H r) (s : SL l H H') (n : r ≠ l) : Reel H' r := let ⟨p, ns, e, q⟩ := h; ⟨p, ns, s.keep _ _ n e, q⟩
theorem Reel.refl {H : Hp} {r : Addr} (h : Reel H r) : SL r H H := let ⟨_, e⟩ := h.lst; SL.refl e
theorem Reel.ne {H : Hp} {r p : Addr} (h : Reel H r) (f : Frs H p) : r ≠ p := let ⟨_, e⟩ := h.lst; f.ne e
theorem Reel.ne_tup {H : Hp} {r p : Addr} {xs : List V} (h : Reel H r) (f : H p = Option.some (.tup xs)) : p ≠ r := by
  obtain ⟨_, e⟩ := h.lst
  exact ne_of f e (fun q => nomatch q)
theorem Reel.sl0 {H H' : Hp} {r : Addr} (h : Reel H r) (s : Same H H') : SL r H H' := let ⟨_, e⟩ := h.lst; Same.sl e s
theorem SL.upd_new {r D : Addr} {H H' : Hp} {o : HO} (s : SL r H H') (f : H D = Option.none) : SL r H (upd H' D o) := by
  obtain ⟨xs, e⟩ := s.was
  obtain ⟨ys, e'⟩ := s.is
  refine ⟨s.was, ⟨ys, by rw [upd_ne (ne_of_none e f)]; exact e'⟩, fun a u n q => ?_⟩
  rw [upd_ne (ne_of_none q f)]
  exact s.keep a u n q
theorem Reel.upd_ne {H : Hp} {r D : Addr} {o : HO} (h : Reel H r) (n : r ≠ D) : Reel (upd H D o) r := let ⟨p, ns, e, q⟩ := h; ⟨p, ns, by rw [L2.upd_ne n]; exact e, q⟩
section
variable {lo : Int} {n i : Nat} {te : TE} {σ : L2.St} {H : Hp} {Q : VK} {r : Addr}
/-- within a comprehension: the list so far at D, the heap H2, since H at its start -/
structure cIn (r : Addr) (H : Hp) (D : Addr) (n : Nat) (acc : List V) (H2 : Hp) : Prop where
  at_D : H2 D = some (.lst acc)
  fresh : Frs H D
  since : SL r H H2
  reel : Reel H2 r
  lt : acc.length < n
/-- the turn's end -/
def cD (r : Addr) (H : Hp) (D : Addr) (Pa : List V → Prop) (k : Nat) (y : V) (H4 : Hp) : Prop :=
  ∃ acc, H4 D = some (.lst acc) ∧ acc.length < sizeLine ∧ ∃ acc', acc'.length = k + 1 ∧ Pa acc' ∧ SL r H (upd H4 D (.lst (acc ++ [y]))) ∧ Reel (upd H4 D (.lst (acc ++ [y]))) r ∧ upd H4 D (.lst (acc ++ [y])) D = some (.lst acc')
theorem cD_of {D : Addr} {acc : List V} {H2 H4 : Hp} {Pa : List V → Prop} {y : V} (c : cIn r H D n acc H2) (hn : n < 16777216) (s : SL r H2 H4) (hr : Reel H4 r) (pa : Pa (acc ++ [y])) : cD r H D Pa acc.length y H4 := by
  have hrD : r ≠ D := by
    obtain ⟨_, e⟩ := c.since.was
    exact c.fresh.ne e
  have l := c.lt
  exact ⟨acc, s.keep D _ hrD.symm c.at_D, sz_lt (by omega), acc ++ [y], by simp, pa, (c.since.trans s).upd_new c.fresh, hr.upd_ne hrD, upd_same⟩
/-- a comprehension over a range whose element draws from the reel -/
theorem compR_draw (hR : Reel H r) (Pa : List V → Prop) (h0 : Pa [])
    (hs : ∀ acc H2 D, cIn r H D n acc H2 → Pa acc → te ((σ.set i none).set i (some (.int (lo + acc.length)))) H2 (fun y H3 => cD r H D Pa acc.length y H3))
    (hd : ∀ acc H2 D, acc.length = n → Pa acc → SL r H H2 → Reel H2 r → H2 D = some (.lst acc) → Frs H D → Q (.ref D) H2) : compJ (Itr lo n) (gName i) tYes te [i] σ H Q := by
  intro D hD
  have hrD : r ≠ D := hR.ne hD
  refine lc_range (Qd := fun H' => Q (.ref D) H') (fun k H' => ∃ acc, acc.length = k ∧ Pa acc ∧ SL r H H' ∧ Reel H' r ∧ H' D = some (.lst acc)) ⟨[], rfl, h0, hR.refl.upd_new hD, hR.upd_ne hrD, upd_same⟩ ?_ ?_
  · rintro k H' hk ⟨acc, rfl, pa, s, hr, hDl⟩
    exact ⟨wipe1 σ i _, (hs acc H' D ⟨hDl, hD, s, hr, hk⟩ pa)⟩
  · rintro H' ⟨acc, e, pa, s, hr, hDl⟩
    exact hd acc H' D e pa s hr hDl hD
end
section
variable {lo : Int} {n i : Nat} {te : TE} {σ : L2.St} {H : Hp} {Q : VK} {K : PySem.W.Frag}
/-- the same where the element leaves all as it was -/
structure pIn (H : Hp) (D : Addr) (n : Nat) (acc : List V) (H2 : Hp) : Prop where
  at_D : H2 D = some (.lst acc)
  fresh : Frs H D
  since : Same H H2
  lt : acc.length < n
def pD (H : Hp) (D : Addr) (Pa : List V → Hp → Prop) (k : Nat) (y : V) (H4 : Hp) : Prop :=
  ∃ acc, H4 D = some (.lst acc) ∧ acc.length < sizeLine ∧ ∃ acc', acc'.length = k + 1 ∧ Pa acc' (upd H4 D (.lst (acc ++ [y]))) ∧ Same H (upd H4 D (.lst (acc ++ [y]))) ∧ upd H4 D (.lst (acc ++ [y])) D = some (.lst acc')
theorem Same.upd_new {D : Addr} {H H' : Hp} {o : HO} (s : Same H H') (f : H D = none) : Same H (upd H' D o) := fun a u q => by
  rw [upd_ne (ne_of_none q f)]
  exact s a u q
theorem pD_of {D : Addr} {acc : List V} {H2 H4 : Hp} {Pa : List V → Hp → Prop} {y : V} (c : pIn H D n acc H2) (hn : n < 16777216) (s : Same H2 H4) (pa : ∀ H5, SL D H4 H5 → Pa (acc ++ [y]) H5) : pD H D Pa acc.length y H4 := by
  have l := c.lt
  have e4 := s _ _ c.at_D
  exact ⟨acc, e4, sz_lt (by omega), acc ++ [y], by simp, pa _ ⟨⟨_, e4⟩, ⟨_, upd_same⟩, fun a u n e => by rw [upd_ne n]; exact e⟩, Same.upd_new (Same.trans c.since s) c.fresh, upd_same⟩
theorem compR_pure (Pa : List V → Hp → Prop) (h0 : ∀ H2, Same H H2 → Pa [] H2)
    (hs : ∀ acc H2 D, pIn H D n acc H2 → Pa acc H2 → te ((σ.set i none).set i (some (.int (lo + acc.length)))) H2 (fun y H3 => pD H D Pa acc.length y H3))
    (hd : ∀ acc H2 D, acc.length = n → Pa acc H2 → Same H H2 → H2 D = some (.lst acc) → Frs H D → Q (.ref D) H2) : compJ (Itr lo n) (gName i) tYes te [i] σ H Q := by
  intro D hD
  refine lc_range (Qd := fun H' => Q (.ref D) H') (fun k H' => ∃ acc, acc.length = k ∧ Pa acc H' ∧ Same H H' ∧ H' D = some (.lst acc)) ⟨[], rfl, h0 _ (Same.upd_new (Same.refl H) hD), Same.upd_new (Same.refl H) hD, upd_same⟩ ?_ ?_
  · rintro k H' hk ⟨acc, rfl, pa, s, hDl⟩
    exact ⟨wipe1 σ i _, (hs acc H' D ⟨hDl, hD, s, hk⟩ pa)⟩
  · rintro H' ⟨acc, e, pa, s, hDl⟩
    exact hd acc H' D e pa s hDl hD
theorem compL_pure {a : Addr} {xs : List V} (ha : H a = some (.lst xs)) (Pa : List V → Hp → Prop) (h0 : ∀ H2, Same H H2 → Pa [] H2)
    (hs : ∀ acc x H2 D, pIn H D xs.length acc H2 → xs[acc.length]? = some x → Pa acc H2 → te ((σ.set i none).set i (some x)) H2 (fun y H3 => pD H D Pa acc.length y H3))
    (hd : ∀ acc H2 D, acc.length = xs.length → Pa acc H2 → Same H H2 → H2 D = some (.lst acc) → Frs H D → Q (.ref D) H2) : compJ (Itl K a) (gName i) tYes te [i] σ H Q := by
  intro D hD
  refine lc_list (K := K) (a := a) (xs := xs) (Qd := fun H' => Q (.ref D) H') (fun k H' => ∃ acc, acc.length = k ∧ Pa acc H' ∧ Same H H' ∧ H' D = some (.lst acc)) ⟨[], rfl, h0 _ (Same.upd_new (Same.refl H) hD), Same.upd_new (Same.refl H) hD, upd_same⟩ (fun i H' _ ⟨_, _, _, s, _⟩ => SqL.of (s _ _ ha)) ?_ ?_
  · rintro k x H' hx ⟨acc, rfl, pa, s, hDl⟩
    exact ⟨wipe1 σ i _, (hs acc x H' D ⟨hDl, hD, s, (List.getElem?_eq_some_iff.mp hx).1⟩ hx pa)⟩
  · rintro H' ⟨acc, e, pa, s, hDl⟩
    exact hd acc H' D e pa s hDl hD
end
/-! ## texts -/
theorem len_app (x y : Str) : (x ++ y).length = x.length + y.length := by
  rw [TL.len_tl, TL.tl_append, List.length_append, ← TL.len_tl, ← TL.len_tl]
theorem joinL_nil : ∀ ps : List (List Nat), TL.joinL [] ps = ps.flatten
  | [] => rfl
  | [p] => by simp [TL.joinL]
  | p :: q :: r => by
    show p ++ ([] ++ TL.joinL [] (q :: r)) = _
    rw [List.nil_append, joinL_nil (q :: r)]
    rfl
theorem tl_join0 (ys : List Str) : TL.tl (Txt.join Str.empty ys) = (ys.map TL.tl).flatten := by
  rw [TL.join_eq, TL.tl_join, show TL.tl Str.empty = [] from rfl, joinL_nil]
/-- all signs are signs -/
abbrev Ok (x : Str) : Prop := ∀ c ∈ TL.tl x, c < 1114112
theorem Ok.strOk {x : Str} (h : Ok x) : PyData.strOk x = true := by
  show x.cps.all (fun c => decide (c < 0x110000)) = true
  rw [← Array.all_toList, List.all_eq_true]
  exact fun c hc => decide_eq_true (h c hc)
theorem Ok.app {x y : Str} (h : Ok x) (h' : Ok y) : Ok (x ++ y) := fun c hc => by
  rw [TL.tl_append] at hc
  rcases List.mem_append.mp hc with hc | hc
  · exact h c hc
  · exact h' c hc
theorem Ok.join {ys : List Str} (h : ∀ y ∈ ys, Ok y) : Ok (Txt.join Str.empty ys) := fun c hc => by
  rw [tl_join0] at hc
  obtain ⟨l, hl, hcl⟩ := List.mem_flatten.mp hc
  obtain ⟨y, hy, rfl⟩ := List.mem_map.mp hl
  exact h y hy c hcl
/-- the list form of a slice -/
def cut {α : Type} (l : List α) (lo hi : Option Int) : List α := (l.drop (HT.sIx l.length 0 lo)).take (HT.sIx l.length l.length hi - HT.sIx l.length 0 lo)
theorem cutV_cut (xs : List V) (lo hi : Option Int) : cutV xs lo hi = cut xs lo hi := rfl
theorem tl_cutS (z : Str) (lo hi : Option Int) : TL.tl (cutS z lo hi) = cut (TL.tl z) lo hi := by
  unfold cutS cut
  rw [TL.len_tl z]
theorem Ok.cut {x : Str} (h : Ok x) (lo hi : Option Int) : Ok (cutS x lo hi) := fun c hc => by
  rw [tl_cutS] at hc
  exact h c (List.mem_of_mem_drop (List.mem_of_mem_take hc))
theorem sIx_pos {n d : Nat} {i : Int} (h : 0 ≤ i) : HT.sIx n d (some i) = min i.toNat n := by
  show (if i < 0 then (i + (n : Int)).toNat else min i.toNat n) = min i.toNat n
  rw [if_neg (by omega)]
theorem cut_to {α : Type} {l : List α} {i : Int} (h : 0 ≤ i) : cut l none (some i) = l.take i.toNat := by
  unfold cut
  rw [HT.sIx_none, sIx_pos h, List.drop_zero, Nat.sub_zero]
  by_cases c : i.toNat ≤ l.length
  · rw [Nat.min_eq_left c]
  · rw [Nat.min_eq_right (by omega), List.take_of_length_le (Nat.le_refl _), List.take_of_length_le (by omega)]
theorem cut_from {α : Type} {l : List α} {i : Int} (h : 0 ≤ i) : cut l (some i) none = l.drop i.toNat := by
  unfold cut
  rw [HT.sIx_none, sIx_pos h]
  by_cases c : i.toNat ≤ l.length
  · rw [Nat.min_eq_left c, List.take_of_length_le (by rw [List.length_drop]; omega)]
  · rw [Nat.min_eq_right (by omega), List.drop_eq_nil_of_le (Nat.le_refl _), List.drop_eq_nil_of_le (by omega)]
    simp
theorem cut_mid {α : Type} {l : List α} {i j : Int} (h : 0 ≤ i) (h' : 0 ≤ j) : cut l (some i) (some j) = (l.take j.toNat).drop i.toNat := by
  unfold cut
  rw [sIx_pos h, sIx_pos h', List.drop_take]
  by_cases c : i.toNat ≤ l.length
  · rw [Nat.min_eq_left c]
    by_cases c2 : j.toNat ≤ l.length
    · rw [Nat.min_eq_left c2]
    · rw [Nat.min_eq_right (by omega)]
      rw [List.take_of_length_le (by rw [List.length_drop]; omega), List.take_of_length_le (by rw [List.length_drop]; omega)]
  · rw [Nat.min_eq_right (show l.length ≤ i.toNat by omega), List.drop_eq_nil_of_le (Nat.le_refl _), List.drop_eq_nil_of_le (by omega)]
    simp
theorem cut_len {α : Type} (l : List α) (lo hi : Option Int) : (cut l lo hi).length ≤ l.length := by
  unfold cut
  rw [List.length_take, List.length_drop]
  omega
end Z
namespace Z
open PySem PySem.Spec L2

/-! ## paired lists -/
section
variable {α β : Type} {F G : α → β → Prop}
theorem Paired.len : ∀ {xs : List α} {ys : List β}, Paired F xs ys → xs.length = ys.length
  | _, _, .nil => rfl
  | _, _, .cons _ t => congrArg Nat.succ (Paired.len t)
theorem Paired.imp (f : ∀ a b, F a b → G a b) : ∀ {xs : List α} {ys : List β}, Paired F xs ys → Paired G xs ys
  | _, _, .nil => .nil
  | _, _, .cons r t => .cons (f _ _ r) (Paired.imp f t)
theorem Paired.app : ∀ {xs xs' : List α} {ys ys' : List β}, Paired F xs ys → Paired F xs' ys' → Paired F (xs ++ xs') (ys ++ ys')
  | _, _, _, _, .nil, h => h
  | _, _, _, _, .cons r t, h => .cons r (Paired.app t h)
theorem Paired.snoc {xs : List α} {ys : List β} {x : α} {y : β} (h : Paired F xs ys) (r : F x y) : Paired F (xs ++ [x]) (ys ++ [y]) := Paired.app h (.cons r .nil)
theorem Paired.tk : ∀ (n : Nat) {xs : List α} {ys : List β}, Paired F xs ys → Paired F (xs.take n) (ys.take n)
  | 0, _, _, _ => by rw [List.take_zero, List.take_zero]; exact .nil
  | _ + 1, _, _, .nil => .nil
  | n + 1, _, _, .cons r t => .cons r (Paired.tk n t)
theorem Paired.dr : ∀ (n : Nat) {xs : List α} {ys : List β}, Paired F xs ys → Paired F (xs.drop n) (ys.drop n)
  | 0, _, _, h => h
  | _ + 1, _, _, .nil => .nil
  | n + 1, _, _, .cons _ t => Paired.dr n t
theorem Paired.cut {xs : List α} {ys : List β} (h : Paired F xs ys) (lo hi : Option Int) : Paired F (cut xs lo hi) (cut ys lo hi) := by
  unfold Z.cut
  rw [Paired.len h]
  exact Paired.tk _ (Paired.dr _ h)
theorem Paired.rev : ∀ {xs : List α} {ys : List β}, Paired F xs ys → Paired F xs.reverse ys.reverse
  | _, _, .nil => .nil
  | _, _, .cons r t => by rw [List.reverse_cons, List.reverse_cons]; exact Paired.snoc (Paired.rev t) r
theorem Paired.at : ∀ {xs : List α} {ys : List β} {i : Nat} {x : α}, Paired F xs ys → xs[i]? = some x → ∃ y, ys[i]? = some y ∧ F x y
  | _, _, _, _, .nil, e => by simp at e
  | _, _, 0, x, .cons r _, e => by simp at e; subst e; exact ⟨_, rfl, r⟩
  | _, _, i + 1, x, .cons _ t, e => by
    obtain ⟨u, h1, h2⟩ := Paired.at (i := i) (x := x) t (by simpa using e)
    exact ⟨u, by simpa using h1, h2⟩
theorem Paired.at' : ∀ {xs : List α} {ys : List β} {i : Nat} {y : β}, Paired F xs ys → ys[i]? = some y → ∃ x, xs[i]? = some x ∧ F x y
  | _, _, _, _, .nil, e => by simp at e
  | _, _, 0, x, .cons r _, e => by simp at e; subst e; exact ⟨_, rfl, r⟩
  | _, _, i + 1, x, .cons _ t, e => by
    obtain ⟨u, h1, h2⟩ := Paired.at' (i := i) (y := x) t (by simpa using e)
    exact ⟨u, by simpa using h1, h2⟩
end

theorem Paired.last {α β : Type} {F : α → β → Prop} {x : α} : ∀ {xs : List α} {ys : List β}, Paired F (xs ++ [x]) ys → ∃ ys' y, ys = ys' ++ [y] ∧ Paired F xs ys' ∧ F x y
  | [], _, .cons r .nil => ⟨[], _, rfl, .nil, r⟩
  | a :: xs, _, .cons r t => by
    obtain ⟨ys', y, e, h, q⟩ := Paired.last (xs := xs) t
    exact ⟨_ :: ys', y, by rw [e]; rfl, .cons r h, q⟩
/-! ## edits -/
structure Ed where
  s : Int
  e : Int
  n : Str
deriving DecidableEq
def EdAt (H : Hp) (v : V) (x : Ed) : Prop := ∃ p, v = .ref p ∧ H p = some (.tup [.int x.s, .int x.e, .str x.n])
abbrev Edits (H : Hp) : List V → List Ed → Prop := Paired (EdAt H)
/-- tuples stay -/
def TpS (H H' : Hp) : Prop := ∀ p xs, H p = some (.tup xs) → H' p = some (.tup xs)
theorem TpS.same {H H' : Hp} (s : Same H H') : TpS H H' := fun _ _ e => s _ _ e
theorem TpS.sl {l : Addr} {H H' : Hp} (s : SL l H H') : TpS H H' := fun _ _ e => s.tup e
theorem TpS.trans {H H1 H2 : Hp} (a : TpS H H1) (b : TpS H1 H2) : TpS H H2 := fun p xs e => b p xs (a p xs e)
theorem EdAt.ts {H H' : Hp} {v : V} {x : Ed} (s : TpS H H') (h : EdAt H v x) : EdAt H' v x := let ⟨p, e, q⟩ := h; ⟨p, e, s _ _ q⟩
theorem Edits.ts {H H' : Hp} {vs : List V} {es : List Ed} (s : TpS H H') (h : Edits H vs es) : Edits H' vs es := Paired.imp (fun _ _ r => r.ts s) h

/-- it fits a text of this size -/
abbrev fit1 (sz : Int) (x : Ed) : Prop := 0 ≤ x.s ∧ x.s ≤ x.e ∧ x.e ≤ sz
/-- the size behind it -/
abbrev nsz (sz : Int) (x : Ed) : Int := sz - (x.e - x.s) + x.n.length
def fits : Int → List Ed → Prop
  | _, [] => True
  | sz, x :: xs => fit1 sz x ∧ fits (nsz sz x) xs
def sza (sz : Int) (es : List Ed) : Int := es.foldl nsz sz
theorem sza_snoc (sz : Int) (es : List Ed) (x : Ed) : sza sz (es ++ [x]) = nsz (sza sz es) x := by
  unfold sza
  rw [List.foldl_append]
  rfl
theorem fits_app : ∀ {sz : Int} {es fs : List Ed}, fits sz (es ++ fs) ↔ fits sz es ∧ fits (sza sz es) fs
  | sz, [], fs => ⟨fun h => ⟨trivial, h⟩, fun h => h.2⟩
  | sz, x :: es, fs => by
    show fit1 sz x ∧ fits (nsz sz x) (es ++ fs) ↔ (fit1 sz x ∧ fits (nsz sz x) es) ∧ fits (sza (nsz sz x) es) fs
    rw [fits_app]
    constructor
    · rintro ⟨a, b, c⟩; exact ⟨⟨a, b⟩, c⟩
    · rintro ⟨⟨a, b⟩, c⟩; exact ⟨a, b, c⟩
theorem fits_snoc {sz : Int} {es : List Ed} {x : Ed} (h : fits sz es) (h1 : fit1 (sza sz es) x) : fits sz (es ++ [x]) := fits_app.mpr ⟨h, h1, trivial⟩
theorem fits_take {sz : Int} {es : List Ed} (h : fits sz es) (k : Nat) : fits sz (es.take k) := by
  have e := List.take_append_drop k es
  rw [← e] at h
  exact (fits_app.mp h).1
/-- the place of the first that does not fit, or -1 -/
def fuAt : Int → List Ed → Nat → Int
  | _, [], _ => -1
  | sz, x :: xs, k => if fit1 sz x then fuAt (nsz sz x) xs (k + 1) else k
def fu (sz : Int) (es : List Ed) : Int := fuAt sz es 0
theorem fuAt_cases : ∀ (es : List Ed) (sz : Int) (k : Nat), (fuAt sz es k = -1 ∧ fits sz es) ∨ ∃ j, j < es.length ∧ fuAt sz es k = ((k + j : Nat) : Int) ∧ fits sz (es.take j) ∧ ¬ fits sz (es.take (j + 1))
  | [], sz, k => .inl ⟨rfl, trivial⟩
  | x :: xs, sz, k => by
    by_cases c : fit1 sz x
    · rcases fuAt_cases xs (nsz sz x) (k + 1) with ⟨h1, h2⟩ | ⟨j, h0, h1, h2, h3⟩
      · exact .inl ⟨by unfold fuAt; rw [if_pos c]; exact h1, c, h2⟩
      · refine .inr ⟨j + 1, by simpa using h0, ?_, ⟨c, h2⟩, fun h => h3 h.2⟩
        unfold fuAt
        rw [if_pos c, h1]
        omega
    · refine .inr ⟨0, by simp, ?_, by rw [List.take_zero]; exact trivial, fun h => c h.1⟩
      unfold fuAt
      rw [if_neg c]
      simp
theorem fu_cases (sz : Int) (es : List Ed) : (fu sz es = -1 ∧ fits sz es) ∨ ∃ j, j < es.length ∧ fu sz es = ((j : Nat) : Int) ∧ fits sz (es.take j) ∧ ¬ fits sz (es.take (j + 1)) := by
  have h := fuAt_cases es sz 0
  simpa [fu] using h
theorem fu_fits {sz : Int} {es : List Ed} (h : fits sz es) : fu sz es = -1 := by
  rcases fu_cases sz es with ⟨h1, _⟩ | ⟨j, _, _, _, h3⟩
  · exact h1
  · exact absurd (fits_take h _) h3
theorem drop_cons {α : Type} {l : List α} {i : Nat} {x : α} (h : l[i]? = some x) : l.drop i = x :: l.drop (i + 1) := by
  obtain ⟨h1, e⟩ := List.getElem?_eq_some_iff.mp h
  rw [List.drop_eq_getElem_cons h1, e]
theorem take_snoc {α : Type} {l : List α} {i : Nat} {x : α} (h : l[i]? = some x) : l.take (i + 1) = l.take i ++ [x] := by
  obtain ⟨h1, e⟩ := List.getElem?_eq_some_iff.mp h
  rw [List.take_add_one, h]
  rfl
/-- one step of the search -/
theorem fu_step {sz z : Int} {es : List Ed} {i : Nat} {x : Ed} (h : es[i]? = some x) (e : fu sz es = fuAt z (es.drop i) i) : fu sz es = if fit1 z x then fuAt (nsz z x) (es.drop (i + 1)) (i + 1) else (i : Int) := by
  rw [e, drop_cons h]
  rfl
theorem fu_end {sz z : Int} {es : List Ed} (e : fu sz es = fuAt z (es.drop es.length) es.length) : fu sz es = -1 := by
  rw [e, List.drop_length]
  rfl

/-! ## texts under edits -/
abbrev Nm (x : Ed) : Prop := x.n.length ≤ 2000 ∧ Ok x.n
def ap (t : Str) (x : Ed) : Str := cutS t none (some x.s) ++ x.n ++ cutS t (some x.e) none
def aps (t : Str) (es : List Ed) : Str := es.foldl ap t
theorem Ok.ap {t : Str} {x : Ed} (h : Ok t) (h' : Ok x.n) : Ok (ap t x) := ((h.cut _ _).app h').app (h.cut _ _)
theorem Ok.aps : ∀ {es : List Ed} {t : Str}, Ok t → (∀ x ∈ es, Ok x.n) → Ok (aps t es)
  | [], _, h, _ => h
  | x :: es, t, h, hn => Ok.aps (es := es) (h.ap (hn x (List.mem_cons_self ..))) fun y hy => hn y (List.mem_cons_of_mem _ hy)
theorem aps_snoc (t : Str) (es : List Ed) (x : Ed) : aps t (es ++ [x]) = ap (aps t es) x := by
  unfold aps
  rw [List.foldl_append]
  rfl
theorem tl_ap {t : Str} {x : Ed} (h : fit1 t.length x) : TL.tl (ap t x) = (TL.tl t).take x.s.toNat ++ TL.tl x.n ++ (TL.tl t).drop x.e.toNat := by
  unfold ap
  rw [TL.tl_append, TL.tl_append, tl_cutS, tl_cutS, cut_to h.1, cut_from (by omega)]
theorem len_ap {t : Str} {x : Ed} (h : fit1 t.length x) : ((ap t x).length : Int) = nsz t.length x := by
  have hl := TL.len_tl t
  rw [TL.len_tl, tl_ap h, List.length_append, List.length_append, List.length_take, List.length_drop, ← TL.len_tl t, ← TL.len_tl x.n]
  unfold nsz
  omega
theorem len_aps : ∀ {es : List Ed} {t : Str}, fits t.length es → ((aps t es).length : Int) = sza t.length es
  | [], _, _ => rfl
  | x :: es, t, h => by
    have e := len_ap h.1
    show ((aps (ap t x) es).length : Int) = sza (nsz t.length x) es
    rw [len_aps (es := es) (t := ap t x) (by rw [e]; exact h.2), e]
/-- what is asked of a list of edits beside: few, and none puts in much -/
structure Small (es : List Ed) : Prop where
  len : es.length ≤ 400
  new : ∀ x ∈ es, Nm x
theorem Small.take {es : List Ed} (h : Small es) (k : Nat) : Small (es.take k) := ⟨by rw [List.length_take]; have := h.len; omega, fun x hx => h.new x (List.mem_of_mem_take hx)⟩
theorem sza_le : ∀ {es : List Ed} {sz : Int}, fits sz es → (∀ x ∈ es, x.n.length ≤ 2000) → sza sz es ≤ sz + 2000 * es.length
  | [], sz, _, _ => by show sz ≤ _; simp
  | x :: es, sz, h, hn => by
    have h1 := sza_le (es := es) h.2 (fun y hy => hn y (List.mem_cons_of_mem _ hy))
    have h2 := hn x (List.mem_cons_self ..)
    have h3 := h.1
    show sza (nsz sz x) es ≤ _
    rw [List.length_cons]
    have : nsz sz x ≤ sz + 2000 := by unfold nsz; omega
    omega
theorem sza_nonneg : ∀ {es : List Ed} {sz : Int}, 0 ≤ sz → fits sz es → 0 ≤ sza sz es
  | [], _, h, _ => h
  | x :: es, sz, h, hf => by
    have h3 := hf.1
    exact sza_nonneg (es := es) (by unfold nsz; omega) hf.2
end Z
namespace Z
open PySem PySem.Spec L2
/-! ## edits as data -/
def edD (x : Ed) : PyData := .tuple [.int x.s, .int x.e, .str x.n]
theorem edD_shaped {x : Ed} (h : Ok x.n) : SeqAt.shaped (edD x) = true := by
  unfold edD SeqAt.shaped
  simp [PyData.canLay0, PyData.canLayAll0, PyData.depth, PyData.depthAll, h.strOk]
theorem edD_eqv (x y : Ed) : PyData.eqv (edD x) (edD y) = decide (x = y) := by
  obtain ⟨a, b, c⟩ := x
  obtain ⟨a', b', c'⟩ := y
  show (a == a' && (b == b' && (c == c' && true))) = decide ((⟨a, b, c⟩ : Ed) = ⟨a', b', c'⟩)
  by_cases h : (⟨a, b, c⟩ : Ed) = ⟨a', b', c'⟩
  · rw [decide_eq_true h]
    injection h with h1 h2 h3
    subst h1 h2 h3
    simp
  · rw [decide_eq_false h]
    cases hb : (a == a' && (b == b' && (c == c' && true))) with
    | false => rfl
    | true =>
      simp only [Bool.and_eq_true, beq_iff_eq, and_true] at hb
      obtain ⟨h1, h2, h3⟩ := hb
      subst h1 h2 h3
      exact absurd rfl h
theorem ed_dp {K : PySem.W.Frag} {H : Hp} {v : V} {x : Ed} (h : EdAt H v x) : Dp K H v (edD x) := by
  obtain ⟨p, rfl, e⟩ := h
  exact .tup (SqT.of e) (.cons (.int _) (.cons (.int _) (.cons (.str _) .nil)))
/-! ## inverse lists -/
def inv1 (t : Str) (x : Ed) : Ed := ⟨x.s, x.s + x.n.length, cutS t (some x.s) (some x.e)⟩
def bks : Str → List Ed → List Ed
  | _, [] => []
  | t, x :: es => bks (ap t x) es ++ [inv1 t x]
theorem bks_snoc : ∀ (es : List Ed) (t : Str) (x : Ed), bks t (es ++ [x]) = inv1 (aps t es) x :: bks t es
  | [], t, x => rfl
  | y :: es, t, x => by
    show bks (ap t y) (es ++ [x]) ++ [inv1 t y] = inv1 (aps (ap t y) es) x :: (bks (ap t y) es ++ [inv1 t y])
    rw [bks_snoc es (ap t y) x]
    rfl
theorem bks_len : ∀ (es : List Ed) (t : Str), (bks t es).length = es.length
  | [], _ => rfl
  | y :: es, t => by
    show (bks (ap t y) es ++ [inv1 t y]).length = _
    rw [List.length_append, bks_len es]
    rfl
theorem tl_inv1 {t : Str} {x : Ed} (h : fit1 t.length x) : TL.tl (inv1 t x).n = ((TL.tl t).take x.e.toNat).drop x.s.toNat := by
  unfold inv1
  show TL.tl (cutS t (some x.s) (some x.e)) = _
  rw [tl_cutS, cut_mid h.1 (by omega)]
theorem len_inv1 {t : Str} {x : Ed} (h : fit1 t.length x) : ((inv1 t x).n.length : Int) = x.e - x.s := by
  have hl := TL.len_tl t
  rw [TL.len_tl, tl_inv1 h, List.length_drop, List.length_take, ← hl]
  omega
/-- the inverse fits, and leads back -/
theorem inv1_fit {t : Str} {x : Ed} (h : fit1 t.length x) : fit1 (ap t x).length (inv1 t x) := by
  have e := len_ap h
  show 0 ≤ x.s ∧ x.s ≤ x.s + x.n.length ∧ x.s + x.n.length ≤ (ap t x).length
  rw [e]
  unfold nsz
  omega
theorem split3 (l : List Nat) {a b : Nat} (h : a ≤ b) (h2 : b ≤ l.length) : l.take a ++ (l.take b).drop a ++ l.drop b = l := by
  have e : l.take a = (l.take b).take a := by rw [List.take_take, Nat.min_eq_left h]
  rw [e, List.take_append_drop, List.take_append_drop]
theorem ap_inv1 {t : Str} {x : Ed} (h : fit1 t.length x) : ap (ap t x) (inv1 t x) = t := by
  have hl := TL.len_tl t
  have hn := TL.len_tl x.n
  refine TL.ext_tl ?_
  rw [tl_ap (inv1_fit h), tl_inv1 h, tl_ap h]
  show ((TL.tl t).take x.s.toNat ++ TL.tl x.n ++ (TL.tl t).drop x.e.toNat).take x.s.toNat ++ ((TL.tl t).take x.e.toNat).drop x.s.toNat ++ ((TL.tl t).take x.s.toNat ++ TL.tl x.n ++ (TL.tl t).drop x.e.toNat).drop (x.s + x.n.length).toNat = TL.tl t
  have h1 : ((TL.tl t).take x.s.toNat).length = x.s.toNat := by rw [List.length_take]; omega
  have e1 : ((TL.tl t).take x.s.toNat ++ TL.tl x.n ++ (TL.tl t).drop x.e.toNat).take x.s.toNat = (TL.tl t).take x.s.toNat := by
    rw [List.append_assoc]
    exact List.take_left' h1
  have e2 : ((TL.tl t).take x.s.toNat ++ TL.tl x.n ++ (TL.tl t).drop x.e.toNat).drop (x.s + x.n.length).toNat = (TL.tl t).drop x.e.toNat :=
    List.drop_left' (by rw [List.length_append, h1, ← hn]; omega)
  rw [e1, e2]
  exact split3 _ (by omega) (by omega)
theorem inv1_inv1 {t : Str} {x : Ed} (h : fit1 t.length x) : inv1 (ap t x) (inv1 t x) = x := by
  have hl := TL.len_tl t
  have hn := TL.len_tl x.n
  have e1 : x.s + ((inv1 t x).n.length : Int) = x.e := by rw [len_inv1 h]; omega
  have h1 : ((TL.tl t).take x.s.toNat).length = x.s.toNat := by rw [List.length_take]; omega
  have e2 : cutS (ap t x) (some x.s) (some (x.s + x.n.length)) = x.n := by
    refine TL.ext_tl ?_
    rw [tl_cutS, cut_mid h.1 (by omega), tl_ap h]
    have e3 : ((TL.tl t).take x.s.toNat ++ TL.tl x.n ++ (TL.tl t).drop x.e.toNat).take (x.s + x.n.length).toNat = (TL.tl t).take x.s.toNat ++ TL.tl x.n :=
      List.take_left' (by rw [List.length_append, h1, ← hn]; omega)
    rw [e3]
    exact List.drop_left' h1
  show (⟨x.s, x.s + ((inv1 t x).n.length : Int), cutS (ap t x) (some x.s) (some (x.s + x.n.length))⟩ : Ed) = x
  rw [e1, e2]
theorem bks_fits : ∀ (es : List Ed) (t : Str), fits t.length es → fits (aps t es).length (bks t es) ∧ aps (aps t es) (bks t es) = t
  | [], _, _ => ⟨trivial, rfl⟩
  | x :: es, t, h => by
    have hx : fits (ap t x).length es := by rw [len_ap h.1]; exact h.2
    obtain ⟨f1, f2⟩ := bks_fits es (ap t x) hx
    have hs : sza (aps (ap t x) es).length (bks (ap t x) es) = (ap t x).length := by rw [← len_aps f1, f2]
    refine ⟨fits_snoc f1 ?_, ?_⟩
    · show fit1 (sza (aps (ap t x) es).length (bks (ap t x) es)) (inv1 t x)
      rw [hs]
      exact inv1_fit h.1
    · show aps (aps (ap t x) es) (bks (ap t x) es ++ [inv1 t x]) = t
      rw [aps_snoc, f2, ap_inv1 h.1]
theorem bks_app : ∀ (fs gs : List Ed) (t : Str), bks t (fs ++ gs) = bks (aps t fs) gs ++ bks t fs
  | [], gs, t => by show bks t gs = bks t gs ++ []; rw [List.append_nil]
  | x :: fs, gs, t => by
    show bks (ap t x) (fs ++ gs) ++ [inv1 t x] = bks (aps (ap t x) fs) gs ++ (bks (ap t x) fs ++ [inv1 t x])
    rw [bks_app fs gs (ap t x), List.append_assoc]
theorem aps_app (t : Str) (fs gs : List Ed) : aps t (fs ++ gs) = aps (aps t fs) gs := by
  unfold aps
  rw [List.foldl_append]
/-- the first k of the inverse list lead back over the last k -/
theorem bks_take {t : Str} {es : List Ed} (h : fits t.length es) {k : Nat} (hk : k ≤ es.length) : aps (aps t es) ((bks t es).take k) = aps t (es.take (es.length - k)) := by
  have e := List.take_append_drop (es.length - k) es
  have hf : fits t.length (es.take (es.length - k) ++ es.drop (es.length - k)) := by rw [e]; exact h
  obtain ⟨h1, h2⟩ := fits_app.mp hf
  have h3 : fits (aps t (es.take (es.length - k))).length (es.drop (es.length - k)) := by rw [len_aps h1]; exact h2
  have hl : (bks (aps t (es.take (es.length - k))) (es.drop (es.length - k))).length = k := by rw [bks_len, List.length_drop]; omega
  have e1 : (bks t es).take k = bks (aps t (es.take (es.length - k))) (es.drop (es.length - k)) := by
    have := bks_app (es.take (es.length - k)) (es.drop (es.length - k)) t
    rw [e] at this
    rw [this]
    exact List.take_left' hl
  have e2 : aps t es = aps (aps t (es.take (es.length - k))) (es.drop (es.length - k)) := by rw [← aps_app, e]
  rw [e1, e2]
  exact (bks_fits _ _ h3).2
/-- the inverse of the inverse is the list -/
theorem bks_bks : ∀ {es : List Ed} {t : Str}, fits t.length es → bks (aps t es) (bks t es) = es
  | [], _, _ => rfl
  | x :: es, t, h => by
    have hx : fits (ap t x).length es := by rw [len_ap h.1]; exact h.2
    obtain ⟨f1, f2⟩ := bks_fits es (ap t x) hx
    show bks (aps (ap t x) es) (bks (ap t x) es ++ [inv1 t x]) = x :: es
    rw [bks_snoc, f2, bks_bks hx, inv1_inv1 h.1]
theorem bks_small {es : List Ed} {t : Str} (h : fits t.length es) {B : Nat} (hn : ∀ fs x gs, es = fs ++ x :: gs → (aps t fs).length ≤ B) : ∀ y ∈ bks t es, y.n.length ≤ B := by
  intro y hy
  obtain ⟨i, hi⟩ := List.getElem?_of_mem hy
  have hil : i < (bks t es).length := (List.getElem?_eq_some_iff.mp hi).1
  rw [bks_len] at hil
  have key : ∀ (es : List Ed) (t : Str) (y : Ed), y ∈ bks t es → ∃ fs x gs, es = fs ++ x :: gs ∧ y = inv1 (aps t fs) x := by
    intro es
    induction es with
    | nil => intro t y h; exact nomatch h
    | cons x es ih =>
      intro t y h
      rcases List.mem_append.mp h with h | h
      · obtain ⟨fs, z, gs, e, q⟩ := ih (ap t x) y h
        exact ⟨x :: fs, z, gs, by rw [e]; rfl, q⟩
      · exact ⟨[], x, es, rfl, List.mem_singleton.mp h⟩
  obtain ⟨fs, x, gs, e, q⟩ := key es t y hy
  rw [q]
  exact Nat.le_trans (cutS_length _ _ _) (hn fs x gs e)
/-- what is asked of a list of edits that is applied -/
structure Mild (es : List Ed) : Prop where
  len : es.length ≤ 400
  new : ∀ x ∈ es, x.n.length ≤ 2000000 ∧ Ok x.n
/-- no text on the way is long -/
def Mid (t : Str) (es : List Ed) : Prop := ∀ k, (aps t (es.take k)).length ≤ 2000000
theorem Small.mild {es : List Ed} (h : Small es) : Mild es := ⟨h.len, fun x hx => ⟨by have := (h.new x hx).1; omega, (h.new x hx).2⟩⟩
theorem Small.mid {es : List Ed} {t : Str} (h : Small es) (ht : t.length ≤ 900000) (hf : fits t.length es) : Mid t es := fun k => by
  have f := fits_take hf k
  have hl := len_aps f
  have hb := sza_le f fun y hy => (h.new y (List.mem_of_mem_take hy)).1
  have hsl := h.len
  rw [List.length_take] at hb
  omega
theorem Mild.take {es : List Ed} (h : Mild es) (k : Nat) : Mild (es.take k) := ⟨by rw [List.length_take]; have := h.len; omega, fun x hx => h.new x (List.mem_of_mem_take hx)⟩
theorem Mid.take {es : List Ed} {t : Str} (h : Mid t es) (k : Nat) : Mid t (es.take k) := fun i => by
  rw [List.take_take]
  exact h _
theorem Ok.bks : ∀ {es : List Ed} {t : Str}, Ok t → (∀ x ∈ es, Ok x.n) → ∀ y ∈ bks t es, Ok y.n
  | [], _, _, _, y, hy => nomatch hy
  | x :: es, t, h, hn, y, hy => by
    rcases List.mem_append.mp hy with hy | hy
    · exact Ok.bks (es := es) (h.ap (hn x (List.mem_cons_self ..))) (fun z hz => hn z (List.mem_cons_of_mem _ hz)) y hy
    · rw [List.mem_singleton.mp hy]
      exact h.cut _ _
theorem bks_mild {es : List Ed} {t : Str} (h : Mild es) (hm : Mid t es) (ht : Ok t) : Mild (bks t es) := by
  refine ⟨by rw [bks_len]; exact h.len, fun y hy => ⟨?_, Ok.bks ht (fun x hx => (h.new x hx).2) y hy⟩⟩
  have key : ∀ (es : List Ed) (t : Str) (y : Ed), y ∈ bks t es → ∃ fs x gs, es = fs ++ x :: gs ∧ y = inv1 (aps t fs) x := by
    intro es
    induction es with
    | nil => intro t y h; exact nomatch h
    | cons x es ih =>
      intro t y h
      rcases List.mem_append.mp h with h | h
      · obtain ⟨fs, z, gs, e, q⟩ := ih (ap t x) y h
        exact ⟨x :: fs, z, gs, by rw [e]; rfl, q⟩
      · exact ⟨[], x, es, rfl, List.mem_singleton.mp h⟩
  obtain ⟨fs, x, gs, e, q⟩ := key es t y hy
  rw [q]
  have := hm fs.length
  rw [e, List.take_left' rfl] at this
  exact Nat.le_trans (cutS_length _ _ _) this
theorem bks_mid {es : List Ed} {t : Str} (hf : fits t.length es) (hm : Mid t es) : Mid (aps t es) (bks t es) := fun k => by
  by_cases hk : k ≤ es.length
  · rw [bks_take hf hk]
    exact hm _
  · have e : (bks t es).take k = (bks t es).take es.length := by
      rw [List.take_of_length_le (by rw [bks_len]; omega), List.take_of_length_le (by rw [bks_len]; omega)]
    rw [e, bks_take hf (Nat.le_refl _)]
    exact hm _
theorem fits_of_take {sz : Int} {es : List Ed} {k : Nat} (h : fits sz es) : fits sz (es.take k) := fits_take h k
theorem aps_all {es : List Ed} {t : Str} (hm : Mid t es) : (aps t es).length ≤ 2000000 := by
  have := hm es.length
  rw [List.take_length] at this
  exact this
end Z
namespace Z
open PySem PySem.Spec L2
/-! ## lists of edits as data -/
theorem eds_dp {K : PySem.W.Frag} {H : Hp} : ∀ {us : List V} {es : List Ed}, Edits H us es → DpAll K H us (es.map edD)
  | _, _, .nil => .nil
  | _, _, .cons r t => .cons (ed_dp r) (eds_dp t)
theorem eds_lay : ∀ {es : List Ed}, (∀ x ∈ es, Ok x.n) → PyData.canLayAll0 (es.map edD) = true ∧ PyData.depthAll (es.map edD) ≤ 1
  | [], _ => ⟨rfl, Nat.zero_le _⟩
  | x :: es, h => by
    obtain ⟨h1, h2⟩ := eds_lay (es := es) fun y hy => h y (List.mem_cons_of_mem _ hy)
    have hx := (h x (List.mem_cons_self ..)).strOk
    have e1 : PyData.canLay0 (edD x) = true := by
      unfold edD
      simp [PyData.canLay0, PyData.canLayAll0, hx]
    have e2 : PyData.depth (edD x) ≤ 1 := by
      unfold edD
      simp [PyData.depth, PyData.depthAll]
    refine ⟨?_, ?_⟩
    · show (PyData.canLay0 (edD x) && PyData.canLayAll0 (es.map edD)) = true
      rw [e1, h1]
      rfl
    · show max (PyData.depth (edD x)) (PyData.depthAll (es.map edD)) ≤ 1
      omega
theorem eds_shaped {es : List Ed} (h : ∀ x ∈ es, Ok x.n) (hl : es.length ≤ 400) : SeqAt.shaped (.list (es.map edD)) = true := by
  obtain ⟨h1, h2⟩ := eds_lay h
  unfold SeqAt.shaped
  simp [PyData.canLay0, PyData.depth, h1]
  omega
theorem eds_eqv : ∀ es : List Ed, PyData.eqvAll (es.map edD) (es.map edD) = true
  | [] => by simp only [List.map_nil, PyData.eqvAll]
  | x :: es => by
    simp only [List.map_cons, PyData.eqvAll]
    rw [eds_eqv es, edD_eqv, decide_eq_true rfl]
    rfl
/-- == of a list of edits with itself, as it stands at two places -/
theorem ne_eds {K : PySem.W.Frag} {H : Hp} {p q : Addr} {us ws : List V} {es : List Ed} {Q : VK} (hp : H p = some (.lst us)) (hq : H q = some (.lst ws)) (h1 : Edits H us es) (h2 : Edits H ws es) (hk : ∀ x ∈ es, Ok x.n) (hl : es.length ≤ 400) (h : Q (.bl false) H) : rNeU K (.ref p) (.ref q) H Q := by
  refine ne_deep (.lst (SqL.of hp) (eds_dp h1)) (.lst (SqL.of hq) (eds_dp h2)) (eds_shaped hk hl) (eds_shaped hk hl) ?_
  have e : PyData.eqv (.list (es.map edD)) (.list (es.map edD)) = true := by
    simp only [PyData.eqv]
    exact eds_eqv es
  rw [e]
  exact h
/-- == of two lists of edits -/
theorem eq_eds {K : PySem.W.Frag} {H : Hp} {p q : Addr} {us ws : List V} {es : List Ed} {Q : VK} (hp : H p = some (.lst us)) (hq : H q = some (.lst ws)) (h1 : Edits H us es) (h2 : Edits H ws es) (hk : ∀ x ∈ es, Ok x.n) (hl : es.length ≤ 400) (h : Q (.bl true) H) : rEqU K (.ref p) (.ref q) H Q := by
  refine eq_deep (.lst (SqL.of hp) (eds_dp h1)) (.lst (SqL.of hq) (eds_dp h2)) (eds_shaped hk hl) (eds_shaped hk hl) ?_
  have e : PyData.eqv (.list (es.map edD)) (.list (es.map edD)) = true := by
    simp only [PyData.eqv]
    exact eds_eqv es
  rw [e]
  exact h
theorem fits_fu {sz : Int} {es : List Ed} (h : fu sz es = -1) : fits sz es := by
  rcases fu_cases sz es with ⟨_, h2⟩ | ⟨j, _, e, _, _⟩
  · exact h2
  · omega
/-- the first k fit exactly if all do, or the first that does not stands behind them -/
theorem fu_take {sz : Int} {es : List Ed} (k : Nat) : fu sz (es.take k) = -1 ↔ (fu sz es = -1 ∨ (k : Int) ≤ fu sz es) ∨ (es.length < k ∧ fu sz es = -1) := by
  constructor
  · intro h
    have hf := fits_fu h
    rcases fu_cases sz es with ⟨e, _⟩ | ⟨j, hj, e, _, h3⟩
    · exact .inl (.inl e)
    · refine .inl (.inr ?_)
      rw [e]
      by_cases c : k ≤ j
      · omega
      · exfalso
        refine h3 ?_
        have := fits_take hf (j + 1)
        rw [List.take_take, Nat.min_eq_left (by omega)] at this
        exact this
  · rintro ((e | e) | ⟨_, e⟩)
    · exact fu_fits (fits_take (fits_fu e) k)
    · rcases fu_cases sz es with ⟨e2, h2⟩ | ⟨j, hj, e2, h2, _⟩
      · exact fu_fits (fits_take h2 k)
      · have := fits_take h2 k
        rw [List.take_take, Nat.min_eq_left (by omega)] at this
        exact fu_fits this
    · exact fu_fits (fits_take (fits_fu e) k)
theorem not_bad {sz : Int} {es : List Ed} {P : Nat → Prop} (hf : fits sz es) : ∀ n : Nat, fu sz es = n → n ≤ 1000 → P n := fun n h _ => by
  rw [fu_fits hf] at h
  omega
end Z
namespace Z
open PySem PySem.Spec L2
/-! ## two edits exchanged -/
section
variable {α : Type}
/-- a list behind an edit -/
def apl (l : List α) (s e : Nat) (c : List α) : List α := l.take s ++ c ++ l.drop e
theorem apl_mid {l1 l2 l3 : List α} {c : List α} {s e : Nat} (h1 : l1.length = s) (h2 : s + l2.length = e) : apl (l1 ++ (l2 ++ l3)) s e c = l1 ++ (c ++ l3) := by
  unfold apl
  rw [List.take_left' h1]
  have e1 : (l1 ++ (l2 ++ l3)).drop e = l3 := by
    rw [← List.append_assoc]
    exact List.drop_left' (by rw [List.length_append]; omega)
  rw [e1, List.append_assoc]
theorem parts (l : List α) {s e : Nat} (h1 : s ≤ e) (h2 : e ≤ l.length) : ∃ l1 l2 l3, l = l1 ++ (l2 ++ l3) ∧ l1.length = s ∧ s + l2.length = e := by
  refine ⟨l.take s, (l.drop s).take (e - s), (l.drop s).drop (e - s), ?_, ?_, ?_⟩
  · rw [List.take_append_drop, List.take_append_drop]
  · rw [List.length_take]; omega
  · rw [List.length_take, List.length_drop]; omega
/-- the second ends ahead of the first -/
theorem apl_before {l : List α} {a b c d : Nat} {s t : List α} (h1 : c ≤ d) (h2 : d ≤ a) (h3 : a ≤ b) (h4 : b ≤ l.length) :
    apl (apl l a b s) c d t = apl (apl l c d t) (a - d + c + t.length) (b - d + c + t.length) s := by
  obtain ⟨l1, l2, r, rfl, e1, e2⟩ := parts l h1 (by omega)
  have hr : r.length = (l1 ++ (l2 ++ r)).length - d := by simp only [List.length_append]; omega
  obtain ⟨l3, l4, l5, rfl, e3, e4⟩ := parts r (s := a - d) (e := b - d) (by omega) (by omega)
  have q1 : apl (l1 ++ (l2 ++ (l3 ++ (l4 ++ l5)))) a b s = l1 ++ (l2 ++ (l3 ++ (s ++ l5))) := by
    have := apl_mid (l1 := l1 ++ (l2 ++ l3)) (l2 := l4) (l3 := l5) (c := s) (s := a) (e := b) (by simp only [List.length_append]; omega) (by omega)
    simpa only [List.append_assoc] using this
  have q2 : apl (l1 ++ (l2 ++ (l3 ++ (s ++ l5)))) c d t = l1 ++ (t ++ (l3 ++ (s ++ l5))) := apl_mid e1 e2
  have q3 : apl (l1 ++ (l2 ++ (l3 ++ (l4 ++ l5)))) c d t = l1 ++ (t ++ (l3 ++ (l4 ++ l5))) := apl_mid e1 e2
  have q4 := apl_mid (l1 := l1 ++ (t ++ l3)) (l2 := l4) (l3 := l5) (c := s) (s := a - d + c + t.length) (e := b - d + c + t.length) (by simp only [List.length_append]; omega) (by omega)
  simp only [List.append_assoc] at q4
  rw [q1, q2, q3, q4]
/-- the second begins behind what the first has put in -/
theorem apl_behind {l : List α} {a b c d : Nat} {s t : List α} (h1 : a ≤ b) (h2 : b ≤ l.length) (h3 : a + s.length ≤ c) (h4 : c ≤ d) (h5 : d ≤ l.length - (b - a) + s.length) :
    apl (apl l a b s) c d t = apl (apl l (c - s.length + (b - a)) (d - s.length + (b - a)) t) a b s := by
  obtain ⟨l1, l2, r, rfl, e1, e2⟩ := parts l h1 h2
  have hr : r.length = (l1 ++ (l2 ++ r)).length - b := by simp only [List.length_append]; omega
  have hl : (l1 ++ (l2 ++ r)).length = b + r.length := by simp only [List.length_append]; omega
  obtain ⟨l3, l4, l5, rfl, e3, e4⟩ := parts r (s := c - s.length - a) (e := d - s.length - a) (by omega) (by omega)
  have q1 : apl (l1 ++ (l2 ++ (l3 ++ (l4 ++ l5)))) a b s = l1 ++ (s ++ (l3 ++ (l4 ++ l5))) := apl_mid e1 e2
  have q2 := apl_mid (l1 := l1 ++ (s ++ l3)) (l2 := l4) (l3 := l5) (c := t) (s := c) (e := d) (by simp only [List.length_append]; omega) (by omega)
  have q3 := apl_mid (l1 := l1 ++ (l2 ++ l3)) (l2 := l4) (l3 := l5) (c := t) (s := c - s.length + (b - a)) (e := d - s.length + (b - a)) (by simp only [List.length_append]; omega) (by omega)
  have q4 : apl (l1 ++ (l2 ++ (l3 ++ (t ++ l5)))) a b s = l1 ++ (s ++ (l3 ++ (t ++ l5))) := apl_mid e1 e2
  simp only [List.append_assoc] at q2 q3
  rw [q1, q2, q3, q4]
end
/-- the exchange -/
def exch (x y : Ed) : Option (Ed × Ed) :=
  if y.e ≤ x.s then some (y, ⟨x.s + (y.n.length - (y.e - y.s)), x.e + (y.n.length - (y.e - y.s)), x.n⟩)
  else if x.s + x.n.length ≤ y.s then some (⟨y.s + (x.e - x.s - x.n.length), y.e + (x.e - x.s - x.n.length), y.n⟩, x)
  else none
/-- an edit of a row of things, each edit putting in its own -/
def apr {α : Type} (l : List α) (x : Ed) (c : List α) : List α := apl l x.s.toNat x.e.toNat c
theorem exch_apr {α : Type} {l : List α} {x y y' x' : Ed} {cx cy : List α} (hx : cx.length = x.n.length) (hy : cy.length = y.n.length) (f1 : fit1 l.length x) (f2 : fit1 (nsz l.length x) y) (h : exch x y = some (y', x')) :
    apr (apr l x cx) y cy = apr (apr l y' cy) x' cx ∧ fit1 l.length y' ∧ fit1 (nsz l.length y') x' ∧ y'.n = y.n ∧ x'.n = x.n := by
  unfold exch at h
  obtain ⟨a1, a2, a3⟩ := f1
  obtain ⟨c1, c2, c3⟩ := f2
  unfold nsz at c3
  split at h
  · rename_i hc
    cases h
    refine ⟨?_, ⟨c1, c2, by omega⟩, ⟨?_, ?_, ?_⟩, rfl, rfl⟩
    · unfold apr
      rw [apl_before (by omega) (by omega) (by omega) (by omega), hy]
      congr 1 <;> (dsimp only; omega)
    · show 0 ≤ x.s + _; omega
    · show x.s + _ ≤ x.e + _; omega
    · unfold nsz; show x.e + _ ≤ _; omega
  · split at h
    · rename_i hc hd
      cases h
      refine ⟨?_, ⟨?_, ?_, ?_⟩, ⟨a1, a2, ?_⟩, rfl, rfl⟩
      · unfold apr
        rw [apl_behind (by omega) (by omega) (by rw [hx]; omega) (by omega) (by rw [hx]; omega), hx]
        congr 2 <;> (dsimp only; omega)
      · show 0 ≤ y.s + _; omega
      · show y.s + _ ≤ y.e + _; omega
      · show y.e + _ ≤ _; omega
      · unfold nsz; show x.e ≤ _ - (y.e + _ - (y.s + _)) + _; omega
    · cases h
end Z
namespace Z
open PySem PySem.Spec PyProof.Rows PySem.W
/-! ## super().__init__(text) in an own exception's __init__ -/
section
variable {prog : Program} {w : World} {A : Around} {E : Value → Shared → Prop} {h : Heap} {g : Array GenState} {d : Drawn} {t : Nat} {os : OsState}
variable {nm q : Str} {C N : Addr} {bs bm : List Value} {hdct : Bool} {sn : List Str} {sub : List Value} {ab : Bool} {col : Option Bool} {dd : Option Addr} {k0 k1 k2 k3 k5 : Option Value}
theorem call_bwV {u e t0 : Addr} {rest : List Value} {Q : Value → Shared → Prop}
    (hC : h.get? C = some (excClassObj nm q C N bs bm hdct sn sub ab col dd k0 k1 k2 k3 k5 "ValueError.__new__")) (he : h.get? e = some (PySem.HandSPX.excO C t0)) (hu : h.get? u = some (kxs_mw "ValueError.__init__" e)) (hrest : rest.length ≤ sizeLine)
    (hq : ∀ h' t1, (∀ b o, b ≠ e → h.get? b = some o → h'.get? b = some o) → h'.get? e = some (PySem.HandSPX.excO C t1) → Q .none ⟨h', g, d, t, os⟩) :
    wpAny (model prog w) A (call (.ref u) rest) Q E ⟨h, g, d, t, os⟩ := by
  refine wpAny_call (codeAny_of_tree ?_)
  show wpAny _ A.in1 (callAny (.ref u) ⟨rest, []⟩) _ _ _
  simp only [callAny]
  refine wpAny_bind (wpAny_load hu ?_)
  simp only [kxs_mw, show (Value.type "method-wrapper" == Value.type "method" || Value.type "method-wrapper" == Value.type "builtin_function_or_method" || Value.type "method-wrapper" == Value.type "method-wrapper") = true by decide, if_true]
  refine KFB.if_so (by decide) ?_
  refine wpAny_bind (check_bound_init F.excBase_ValueError.toExcCallFacts hC he rfl ?_)
  refine wpAny_bind (wpAny_pure (wpAny_pure ?_))
  refine ⟨plainId_quiet F.excBase_ValueError.init.plain _, codeAny_builtin F.excBase_ValueError.initEntry ?_⟩
  refine exc_init_tree (cls := .ref C) (t0 := t0) (dv := none) (c2 := .none) (c3 := .none) (b4 := .bool false) he hrest fun h' k e' _ => ?_
  exact hq h' _ k e'
end

open L2 in
/-- the context of such a body -/
def cxS (CX : CXT) (P : Program) (w : World) (K : Frag) (mg : Str → Option Value) (base : Heap) (N : List Str) (qual : Str) (scope : Scope) (f cda cc : Addr) (A : Around) (outer : List Env) (s : Shared) (H : Hp) (E : XK) : Cx where
  prog := P
  w := w
  K := K
  mg := mg
  base := base
  A := A.deeper (ksEnv qual scope s.heap.objs.size f (.ref cda) cc)
  N := N
  s_0 := s
  H_0 := H
  env := ksEnv qual scope s.heap.objs.size f (.ref cda) cc
  outer := outer
  stack := ksEnv qual scope s.heap.objs.size f (.ref cda) cc :: outer
  ex := []
  calm := true
  fn := fun _ => false
  pn := []
  xe := fun e s' => wpAny (model P w) (A.deeper (ksEnv qual scope s.heap.objs.size f (.ref cda) cc)) (leaving (ksEnv qual scope s.heap.objs.size f (.ref cda) cc) e) (fun _ s'' => CX outer H s E e s'') (fun e' s'' => CX outer H s E e' s'') s'
/-- the scope of such a body -/
structure SupScope (N ps : List Str) (sc : Scope) : Prop where
  kind : sc.kind = .function
  co : sc.isCoroutine = false
  gen : sc.isGenerator = false
  nd : N.Nodup
  pre : N.take ps.length = ps
  par : ∀ x ∈ ps, sc.names.lookup x = some .local
  cell : ∀ x ∈ sc.names, x.2 ≠ .cell
  free : ∀ x ∈ sc.names, x.2 = .free → x.1 = "__class__"
  sup : sc.names.lookup ("super" : Str) = some .globalImplicit
  cls : sc.names.lookup ("__class__" : Str) = some .free
/-- what the written part says of the class at C and of its own __init__ -/
structure SupC (P : Program) (K : Frag) (mg : Str → Option Value) (C cda cc : Addr) : Prop where
  oex : L2.OexC K C
  code : ∃ ccl cdd vs ccs file tf, K.lookup cda = some ⟨ccl, cdd, .fields vs, ccs⟩ ∧ vs[2]? = some (.str file tf) ∧ ((P.main.file : Str) == file) = true
  cell : ∃ cl cld csl, K.lookup cc = some ⟨cl, cld, .cell (some (.ref C)), csl⟩
  sub : mroIn K C (.ref C) = some true
  sup : mg "super" = none
  any : nsIn K cStatics "thirdparty.any" = some none
  along : ks_superIn K C C "__init__" = some (some (.builtin "ValueError.__init__"))
  subV : subIn K (.ref C) (.type "ValueError") = some true
  top : (P.main.scope.names.lookup ("super" : Str)).isSome = false
section
open L2
variable {CX : CXT} {P : Program} {w : World} {K : Frag} {mg : Str → Option Value} {base : Heap} {N ps : List Str} {qual : Str} {scope : Scope} {f cda cc C : Addr} {A : Around} {outer : List Env} {s s1 : Shared} {H : Hp} {E : XK} {us : List Value} {vs : List V}
theorem binds_get {x : Str} {v : Value} : ∀ {P : List Str} {vs : List Value} {i : Nat}, P.Nodup → P[i]? = some x → vs[i]? = some v → vs.length = P.length → (P.zip vs).reverse.lookup x = some v := by
  intro P vs i nd h1 h2 hl
  have key : ∀ {l : List (Str × Value)}, (l.map (·.1)).Nodup → (x, v) ∈ l → l.lookup x = some v := by
    intro l
    induction l with
    | nil => intro _ h; exact nomatch h
    | cons p l ih =>
      obtain ⟨y, z⟩ := p
      intro nd h
      rw [List.map_cons, List.nodup_cons] at nd
      by_cases e : x = y
      · subst e
        rcases List.mem_cons.mp h with h | h
        · cases h
          simp [List.lookup]
        · exact absurd (List.mem_map_of_mem (f := (·.1)) h) nd.1
      · have e2 : (x == y) = false := by simpa using e
        show (match x == y with | true => some z | false => l.lookup x) = some v
        rw [e2]
        refine ih nd.2 ?_
        rcases List.mem_cons.mp h with h | h
        · cases h; exact absurd rfl e
        · exact h
  refine key ?_ ?_
  · rw [List.map_reverse, List.map_fst_zip (by omega)]
    unfold List.Nodup
    rw [List.pairwise_reverse]
    exact List.Pairwise.imp (fun h => Ne.symm h) nd
  · rw [List.mem_reverse]
    refine List.mem_of_getElem? (i := i) ?_
    rw [List.getElem?_zip_eq_some]
    exact ⟨h1, h2⟩
theorem inv_sup (S : SupScope N ps scope) (T : SupC P K mg C cda cc) (hd : A.handled = none) (e0 : Env0 P w K mg base A outer s H) (hl : vs.length = ps.length) (r : Vals vs us) {h₀ : Heap} {tk : Nat}
    (hns : h₀.Ns s.heap.objs.size (fun x => (ps.zip us).reverse.lookup x)) (hk : ∀ b o, s.heap.get? b = some o → h₀.get? b = some o) :
    Inv (cxS CX P w K mg base N qual scope f cda cc A outer s H E) [] (L2.start N vs) H { s with heap := h₀, toks := tk } := by
  have hpl : ps.length ≤ N.length := by have := congrArg List.length S.pre; rw [List.length_take] at this; omega
  have noA : ∀ b : Addr, b ∉ (cxS CX P w K mg base N qual scope f cda cc A outer s H E).ex := fun b z => absurd (show b ∈ ([] : List Addr) from z) (by simp)
  have cells : ∀ {y : Str} {c : Addr}, (cxS CX P w K mg base N qual scope f cda cc A outer s H E).env.cells.lookup y = some c → y = "__class__" ∧ c = cc := fun {y c} h => by
    have h' : List.lookup y [(("__class__" : Str), cc)] = some c := h
    by_cases e : y = "__class__"
    · subst e
      simp [List.lookup] at h'
      exact ⟨rfl, h'.symm⟩
    · have e2 : (y == ("__class__" : Str)) = false := by simpa using e
      simp [List.lookup, e2] at h'
  obtain ⟨cl, cld, csl, hcell⟩ := T.cell
  have hb := e0.mod.kin _ _ hcell
  refine ⟨⟨e0.mod, S.kind, rfl, rfl, Nat.le_refl _, fun y z c h1 h2 => (cells h1).1.trans (cells h2).1.symm, fun y hy => ?_, fun y c hf _ => (Bool.false_ne_true hf).elim, fun _ => hd, Around.frames_deeper e0.frames, .inr ⟨rfl, rfl⟩, fun b z => absurd z (noA b), e0.bs, e0.bsz, fun b _ _ => noA b, fun b z => absurd z (noA b), e0.funs, e0.frf⟩,
    rfl, e0.bare, Un.kept hk, ⟨_, hns, fun i y v h1 h2 h3 => ?_⟩, fun y c h => ?_, e0.hok.fresh (Nat.le_refl _), fun y c h => ?_, fun p hp => absurd (show p ∈ ([] : List (Addr × Obj)) from hp) (by simp), e0.hok.kept hk, ?_⟩
  · have hy : scope.names.lookup y = some .cell ∨ scope.names.lookup y = some .free := hy
    rcases hy with hy | hy
    · exact absurd rfl (S.cell _ (PySem.mem_of_lookup hy))
    · have e : y = "__class__" := S.free _ (PySem.mem_of_lookup hy) rfl
      subst e
      exact ⟨cc, by show List.lookup _ [(("__class__" : Str), cc)] = some cc; simp [List.lookup]⟩
  · have hi : i < vs.length := by
      unfold L2.start at h2
      by_cases hi : i < vs.length
      · exact hi
      · rw [List.getElem?_append_right (by simpa using hi)] at h2
        rw [List.getElem?_replicate] at h2
        split at h2 <;> cases h2
    have ha : vs[i]? = some v := by
      unfold L2.start at h2
      rw [List.getElem?_append_left (by simpa using hi), List.getElem?_map] at h2
      cases e : vs[i]? with
      | none => rw [e] at h2; cases h2
      | some a => rw [e] at h2; cases h2; rfl
    obtain ⟨u, hu, rv⟩ := r.get ha
    have hp : ps[i]? = some y := by
      rw [← S.pre, List.getElem?_take_of_lt (by omega)]; exact h1
    have ndP : ps.Nodup := by rw [← S.pre]; exact S.nd.sublist (List.take_sublist _ _)
    exact ⟨u, rv, .inl ⟨S.par y (List.mem_of_getElem? hp), binds_get ndP hp hu (by have := r.length; omega)⟩⟩
  · obtain ⟨_, rfl⟩ := cells h
    exact ⟨_, _, hk _ _ (e0.bs _ _ hb).1, rfl⟩
  · obtain ⟨_, rfl⟩ := cells h
    exact (e0.bs _ _ hb).2
  · unfold L2.start
    show _ = N.length
    rw [List.length_append, List.length_map, List.length_replicate]
    omega
theorem fn_sup {fI : Addr} {name : Str} {params : Arguments} {scope : Scope} {kV doc pm ct oc : Value} {an od : Option Addr} {osl : Array (Option Value)} {sp : Sp} {k : Nat} {p0 p1 p2 p3 p4 : Pos} {msg : Expr} {rest : List Stmt} {ar : Arg} {self : Str}
    (lk : K.lookup fI = some ⟨oc, od, .func (ksFn name qual params (.Expr (.Call (.Attribute (.Call (.Name "super" p0) [] [] p1) "__init__" p2) [msg] [] p3) p4 :: rest) scope .none kV doc pm an (.ref cda) ct cc), osl⟩)
    (hcd : codeIn K (.ref cda) qual = true) (S : SupScope N ps scope) (T : SupC P K mg C cda cc) (hps : ps.head? = some self) (har : (params.posonlyargs ++ params.args).head? = some ar) (hself : ar.arg = self)
    (len : ∀ vs H Q E, sp vs H Q E → vs.length = ps.length)
    (hst : ∀ L, starEach (msg :: []) (ksEnv qual scope L fI (.ref cda) cc) = (false, eval msg (ksEnv qual scope L fI (.ref cda) cc)) :: starEach [] (ksEnv qual scope L fI (.ref cda) cc) := by intro _; rfl)
    (hev : ∀ L, ∃ pl, eval (.Call (.Attribute (.Call (.Name "super" p0) [] [] p1) "__init__" p2) [msg] [] p3) (ksEnv qual scope L fI (.ref cda) cc) = (do
      let ov ← attributeBase (.Call (.Name "super" p0) [] [] p1) "__init__" (ksEnv qual scope L fI (.ref cda) cc) (eval (.Call (.Name "super" p0) [] [] p1) (ksEnv qual scope L fI (.ref cda) cc))
      standAt p2.atName
      let (f, first) ← holding [ov] (getMethod ov "__init__" pl)
      callWith p3 f first (backTo p3 (starEach [msg] (ksEnv qual scope L fI (.ref cda) cc))) []))
    (hi : ∀ L, interactive (ksEnv qual scope L fI (.ref cda) cc) = false)
    (hsw : ∀ L, swapsWith (.Call (.Attribute (.Call (.Name "super" p0) [] [] p1) "__init__" p2) [msg] [] p3) none p4.line (ksEnv qual scope L fI (.ref cda) cc) = pure false)
    (hbody : ∀ (A : Around) (outer : List Env) (s : Shared) (H : Hp) (vs : List V) (Q : VK) (E : XK), Room k (A.deeper (ksEnv qual scope s.heap.objs.size fI (.ref cda) cc)) → sp vs H Q E →
      ∃ (x : Addr) (ta : TA) (t : TS), vs.head? = some (.ref x) ∧ H x = some (exo x C none) ∧ PA (cxS CX P w K mg base N qual scope fI cda cc A outer s H E) [msg] ta ∧ PSs (cxS CX P w K mg base N qual scope fI cda cc A outer s H E) rest t ∧
        ta (L2.start N vs) H fun ws H1 => ws.length ≤ 1000 ∧ H1 x = some (exo x C none) ∧ t { nx := fun _ H' => Q .non H', rt := Q } (L2.start N vs) H1) :
    FnOk P w K mg base CX (k + 1) fI (ksFn name qual params (.Expr (.Call (.Attribute (.Call (.Name "super" p0) [] [] p1) "__init__" p2) [msg] [] p3) p4 :: rest) scope .none kV doc pm an (.ref cda) ct cc) ps sp := by
  refine ⟨len, fun A outer s H args us vs Q E hr e0 hb r hsp => ?_⟩
  have hl := len _ _ _ _ hsp
  have KX : K.In s.heap := e0.mod.kin.keeps fun b o e => (e0.bs b o e).1
  have lim : s.heap.NoLimit := e0.mod.nolimit.keeps fun b o e => (e0.bs b o e).1
  obtain ⟨x, ta, t, hx, hHx, pa, ps', q⟩ := hbody A outer s H vs Q E (hr.deeper _) hsp
  refine ks_codeAny_call_defAt (fd := ksFn name qual params (.Expr (.Call (.Attribute (.Call (.Name "super" p0) [] [] p1) "__init__" p2) [msg] [] p3) p4 :: rest) scope .none kV doc pm an (.ref cda) ct cc) hr.depth (KX _ _ lk) rfl lim (codeRec_of KX hcd) rfl hb S.cell
    (fun y hy => S.par y.1 (List.of_mem_zip hy).1) (fun h₀ hns hk => ?_) S.co S.gen S.kind
  have I := inv_sup (CX := CX) (P := P) (w := w) (mg := mg) (N := N) (qual := qual) (f := fI) (E := E) (tk := s.toks + (ps.zip us).length) S T hr.hd e0 hl r hns hk
  have KX0 : K.In h₀ := KX.keeps hk
  obtain ⟨nm, q', N', bs, bm, sn, sub, ab, col, dd, k0, k1, k2, k3, k5, hC, hbm⟩ := T.oex.cls
  have hcl : clsIn K C = some { name := nm, bases := bs, mro := .ref C :: bm, ns := N', qualname := q', hasDict := true, slotNames := sn, subclasses := sub, abstract := ab, collection := col, hasDel := false } := by unfold clsIn; rw [hC] <;> rfl
  obtain ⟨ccl, cdd, cvs, ccs, file, tf, hcda, hvs2, hfile⟩ := T.code
  obtain ⟨cl, cld, csl, hcell⟩ := T.cell
  obtain ⟨t0, ho⟩ := exo_at I.hok hHx
  have hxC : x ≠ C := fun z => by
    have := (e0.bs _ _ (e0.mod.kin _ _ hC)).2
    rw [← z, hHx] at this
    cases this
  have hself' : ps[0]? = some self := by cases ps with | nil => cases hps | cons a l => exact hps
  have hxv : us[0]? = some (.ref x) := by
    have h0 : vs[0]? = some (.ref x) := by cases vs with | nil => cases hx | cons a l => exact hx
    obtain ⟨u, hu, ru⟩ := r.get h0
    rw [hu]
    exact congrArg some ru
  have ndP : ps.Nodup := by rw [← S.pre]; exact S.nd.sublist (List.take_sublist _ _)
  have hlook : (ps.zip us).reverse.lookup self = some (.ref x) := binds_get ndP hself' hxv (by have := r.length; omega)
  obtain ⟨hs, g, d, tk, os⟩ := s
  obtain ⟨pl, ev⟩ := hev hs.objs.size
  show _root_.PySem.wpAt (model P w) (A.deeper (ksEnv qual scope hs.objs.size fI (.ref cda) cc)) (.func (.Expr (.Call (.Attribute (.Call (.Name "super" p0) [] [] p1) "__init__" p2) [msg] [] p3) p4 :: rest) (ksEnv qual scope hs.objs.size fI (.ref cda) cc)) (execs (.Expr (.Call (.Attribute (.Call (.Name "super" p0) [] [] p1) "__init__" p2) [msg] [] p3) p4 :: rest) (ksEnv qual scope hs.objs.size fI (.ref cda) cc)) _ _ _
  refine ks_wpAt_execs_cons ?_
  refine ks_wpAt_Expr_any ?_ (hi _) (hsw _)
  refine ks_wpAt_MethodCall (pl := pl) ?_ ev
  refine ks_wpAt_super_base (env := ksEnv qual scope hs.objs.size fI (.ref cda) cc) S.sup S.cls (by decide +kernel) rfl (KX0 _ _ lk) rfl har rfl (KX0 _ _ hcda) rfl hvs2 hfile T.top ?_
  obtain ⟨mb, hmb1, hmb2⟩ := e0.mod.blt
  have bk : ∀ b o, base.get? b = some o → h₀.get? b = some o := fun b o e => hk _ _ (e0.bs b o e).1
  refine ks_loadName_global S.kind S.sup (Calls.loadGlobal_builtin (env := ksEnv qual scope hs.objs.size fI (.ref cda) cc) (e0.mod.glob.keeps bk) T.sup (hmb1.keeps bk) ((hmb2 _ (by decide +kernel)).trans (show bootBuiltins "super" = some (.type "super") by first | boot_by_name | rfl | kernel_rfl)) ⟨rfl, ?_⟩)
  refine wpAny_loadName_free S.kind S.cls (show List.lookup _ [(("__class__" : Str), cc)] = some cc by simp [List.lookup]) ⟨_, KX0 _ _ hcell, rfl⟩ ?_
  refine wpAny_loadName_local S.kind (show scope.names.lookup ar.arg = some .local by rw [hself]; exact S.par _ (List.mem_of_getElem? hself')) hns (by rw [hself]; exact hlook) ?_
  refine ks_wpAny_isType_cls (KX0 _ _ hC) rfl ⟨rfl, ?_⟩
  refine ks_wpAny_call_super (KX0 _ _ hC) rfl ho rfl (fun c e => nomatch e) (looks_mroIn KX0 T.sub) (fun h1 e1 kk1 => ?_)
  have I1 := I.kept (t' := tk + (ps.zip us).length) kk1
  have KX1 : K.In h1 := KX0.keeps kk1
  have inst1 : W.InstAt h1 x { cls := .ref C, dict := none, data := .fields #[.ref t0, .none, .none, .none, .bool false, .none] } C none := ⟨kk1 _ _ ho, rfl, rfl, trivial⟩
  have hf1 := T.along
  unfold ks_superIn at hf1
  rw [hcl] at hf1
  refine kxs_getMethod kxs_ValueError e1 (looks_opaque KX1 T.any) (l₀ := .ref C :: bm) (fun A Q E s k q => wpAny_bind ((looks_clsIn KX1 hcl) A _ E s k (wpAny_pure q))) rfl KX1 hf1 (inst1.type.andThen (looks_subIn KX1 T.subV)) hxC (by decide +kernel) ?_
  have kk2 : ∀ b o, h1.get? b = some o → (h1.push (kxs_mw "ValueError.__init__" x)).get? b = some o := fun b o e => Heap.get?_push_of_some _ e
  have I2 := I1.kept (t' := tk + (ps.zip us).length + 1) kk2
  have hu2 : (h1.push (kxs_mw "ValueError.__init__" x)).get? h1.objs.size = some (kxs_mw "ValueError.__init__" x) := Heap.get?_push_at rfl rfl
  have I2p : Inv (cxS CX P w K mg base N qual scope fI cda cc A outer ⟨hs, g, d, tk, os⟩ H E) [(h1.objs.size, kxs_mw "ValueError.__init__" x)] (L2.start N vs) H ⟨h1.push (kxs_mw "ValueError.__init__" x), g, d, tk + (ps.zip us).length + 1, os⟩ := I2.pins_of fun p hp => by
    rw [List.mem_singleton.mp hp]
    exact ⟨hu2, I1.hok.fresh (Nat.le_refl _), Nat.ne_of_gt I1.lt, I1.nofs (Nat.le_refl _), fun v z => nomatch z⟩
  have hargs := pa.run p3 _ _ _ _ _ I2p q
  show wpAny _ _ (callWith p3 (.ref h1.objs.size) [] (backTo p3 (starEach (msg :: []) (ksEnv qual scope hs.objs.size fI (.ref cda) cc))) []) _ _ _
  have he := hst hs.objs.size
  have hargs' := hargs
  change wpAny _ _ (spliced (backTo p3 (starEach (msg :: []) (ksEnv qual scope hs.objs.size fI (.ref cda) cc)))) _ _ _ at hargs'
  rw [he] at hargs' ⊢
  refine kxs_callWith (i := "ValueError.__init__") (x := x) rfl (Calls.evalArgs_plain (thn hargs' fun us3 s3 hh => ?_))
  obtain ⟨vs3, H3, I3, r3, hl3, hx3, q3⟩ := hh
  have hpin := I3.pin (h1.objs.size, kxs_mw "ValueError.__init__" x) (List.mem_append_right _ (List.mem_cons_self ..))
  refine ⟨hpin.1, ?_⟩
  show wpAny _ _ (call (.ref h1.objs.size) us3) _ _ _
  obtain ⟨t3, ho3⟩ := exo_at I3.hok hx3
  have hlen3 : us3.length ≤ sizeLine := by rw [← Paired.length r3, sizeLine_eq]; omega
  have KX3 := I3.kIn
  obtain ⟨h3, g3, d3, tk3, os3⟩ := s3
  refine call_bwV (KX3 _ _ hC) ho3 hpin.1 hlen3 fun h4 t4 k4 hx4 => ?_
  have J := I3.write (t' := tk3) (x := x) (e := x) (o := exo x C none) (by rw [hx3]; exact True.intro) (.inl rfl) k4 ⟨_, hx4⟩ (exo_ok hx4)
  have eu : upd H3 x (exo x C none) = H3 := by
    funext b
    by_cases hb : b = x
    · rw [hb, upd_same, hx3]
    · rw [upd_ne hb]
  rw [eu] at J
  refine wpAt_of_wpAny ?_
  refine wpAny_mono (ps'.run _ _ _ _ _ J q3) (fun fl s' hs' => ?_) fun e s' hs' => hs'
  have fin : ∀ {σ' : L2.St} {H' : Hp} {v : V} {u : Value} {pins : List (Addr × Obj)}, Inv (cxS CX P w K mg base N qual scope fI cda cc A outer ⟨hs, g, d, tk, os⟩ H E) pins σ' H' s' → RelV v u → Q v H' → CE outer P w H ⟨hs, g, d, tk, os⟩ Q u s' :=
    fun {σ' H' v u pins} J rv q => ⟨v, H', J.os, J.bare, J.base, J.hok, rv, q⟩
  cases fl with
  | ret u =>
    obtain ⟨v, σ', H', J, rv, q⟩ := hs'
    exact fin J rv q
  | next =>
    obtain ⟨σ', H', J, q⟩ := hs'
    exact fin (v := V.non) (u := Value.none) J rfl q
  | brk =>
    obtain ⟨_, _, _, q⟩ := hs'
    exact False.elim q
  | cont =>
    obtain ⟨_, _, _, q⟩ := hs'
    exact False.elim q
end
end Z
namespace Z
open PySem PySem.Spec PyProof.Rows L2
/-! ## defs that may raise -/
/-- a def that may be called by its name, and may let an exception out -/
structure CalX (P : Program) (w : World) (K : PySem.W.Frag) (mg : Str → Option Value) (base : Heap) (k : Nat) (x : Str) (sp : Sp) : Prop where
  ex : ∃ (f : Addr) (fd : FuncData) (ps : List Str), FnOk P w K mg base (L2.CX P w) k f fd ps sp ∧ mg x = some (.ref f) ∧ PySem.W.keepIn K (.ref f) = true ∧ Binds K fd ps []
/-- an own exception that may be made by its name; sp: its __init__ -/
structure OexI (P : Program) (w : World) (K : PySem.W.Frag) (mg : Str → Option Value) (base : Heap) (k : Nat) (x : Str) (C : Addr) (sp : Sp) : Prop where
  ex : ∃ (f : Addr) (fd : FuncData) (ps : List Str), OexC K C ∧ PySem.W.findIn K (.ref C) "__init__" = some (some (.ref f)) ∧ PySem.W.typeIn K (.ref f) = some (.type "function") ∧ FnOk P w K mg base (L2.CX P w) k f fd ps sp ∧ Binds K fd ps [] ∧ mg x = some (.ref C)
section
variable {P : Program} {w : World} {K : PySem.W.Frag} {mg : Str → Option Value} {base : Heap}
theorem calX {x : Str} {st : Stmt} {f : Addr} {fd : FuncData} {N ps : List Str} {k : Nat} {sp : Sp} (F : C8.Def K mg x st f fd) (b : Binds K fd ps []) (S : FnScope N ps (C8.fnScope st)) (len : ∀ vs H Q E, sp vs H Q E → vs.length = ps.length)
    (hbody : ∀ (cdv : Value) (A : Around) (outer : List Env) (s : Shared) (H : Hp) (vs : List V) (Q : VK) (E : XK), Room k (A.deeper (envOfC x (C8.fnScope st) s.heap.objs.size f cdv)) → sp vs H Q E →
      ∃ t, PSs (cxOf (L2.CX P w) P w K mg base N x (C8.fnScope st) f cdv A outer s H E) (C8.fnBody st) t ∧ t { nx := fun _ H' => Q .non H', rt := Q } (start N vs) H) : CalX P w K mg base (k + 1) x sp := by
  refine ⟨f, fd, ps, ?_, F.mgf, F.kp, b⟩
  obtain ⟨oc, od, dV, kV, doc, pm, an, cdv, ct, osl, rfl, lk, hcd⟩ := F.fn.ex
  exact fn_of lk hcd S len fun A outer s H vs Q E hr hsp => hbody cdv A outer s H vs Q E hr hsp
end
section
variable {X : Cx} {k j : Nat} {x : Str} {sp : Sp} {p pos : Pos} {e : Expr} {es : List Expr} {t : TA} {E : XK} {W : WX} {C : Addr}
/-- a class by its name -/
theorem pe_cls (hg : Gl X x) (hm : X.mg x = some (.ref C)) (hd : (x == ("__debug__" : Str)) = false := by decide) : PE X (.Name x p) (tC (.ref C)) := pe_glob hg hm rfl hd
/-- called where no exception leaves -/
theorem pe_cn (c : CalX X.prog X.w X.K X.mg X.base k x sp) (hr : Room j X.A) (hk : k ≤ j) (hg : Gl X x) (ha : PA X (e :: es) t)
    (hdb : (x == ("__debug__" : Str)) = false := by decide) (he : starEach (e :: es) X.env = (false, eval e X.env) :: starEach es X.env := by rfl) (hpl : (backTo pos (starEach es X.env)).any (·.1) = false := by rfl) :
    PE X (.Call (.Name x p) (e :: es) [] pos) (tCall sp [] L2.E0 t) := by
  obtain ⟨f, fd, ps, F, hm, kp, b⟩ := c.ex
  exact pe_call F (hr.mono hk) hg hm kp b .nil passL ha hdb he hpl
/-- called in a def that hands the exception on -/
theorem pe_cx (c : CalX X.prog X.w X.K X.mg X.base k x sp) (tk : Takes X fun cls d _ H => E cls d H) (hr : Room j X.A) (hk : k ≤ j) (hg : Gl X x) (ha : PA X (e :: es) t)
    (hdb : (x == ("__debug__" : Str)) = false := by decide) (he : starEach (e :: es) X.env = (false, eval e X.env) :: starEach es X.env := by rfl) (hpl : (backTo pos (starEach es X.env)).any (·.1) = false := by rfl) :
    PE X (.Call (.Name x p) (e :: es) [] pos) (tCall sp [] E t) := by
  obtain ⟨f, fd, ps, F, hm, kp, b⟩ := c.ex
  exact pe_call F (hr.mono hk) hg hm kp b .nil (passes_call tk fun _ _ _ _ h => h) ha hdb he hpl
/-- called in the body of a try -/
theorem pe_ct (c : CalX X.prog X.w X.K X.mg X.base k x sp) (tk : Takes X W) (hr : Room j X.A) (hk : k ≤ j) (hg : Gl X x) (ha : PA X (e :: es) t)
    (hdb : (x == ("__debug__" : Str)) = false := by decide) (he : starEach (e :: es) X.env = (false, eval e X.env) :: starEach es X.env := by rfl) (hpl : (backTo pos (starEach es X.env)).any (·.1) = false := by rfl) :
    PE X (.Call (.Name x p) (e :: es) [] pos) (tCallS sp (WE W) t) := by
  obtain ⟨f, fd, ps, F, hm, kp, b⟩ := c.ex
  exact pe_callS F (hr.mono hk) hg hm kp b (fun σ => passAt tk σ) ha hdb he hpl
theorem pm_x (c : OexI X.prog X.w X.K X.mg X.base k x C sp) (hr : Room j X.A) (hk : k + 1 ≤ j) (hg : Gl X x) (ha : PA X (e :: es) t)
    (hdb : (x == ("__debug__" : Str)) = false := by decide) (he : starEach (e :: es) X.env = (false, eval e X.env) :: starEach es X.env := by rfl) (hpl : (backTo pos (starEach es X.env)).any (·.1) = false := by rfl) :
    PMk X (.Call (.Name x p) (e :: es) [] pos) (tMkO C sp [] t) := by
  obtain ⟨f, fd, ps, T, iC, tI, F, b, hm⟩ := c.ex
  exact pmk_oex T iC tI F (hr.mono hk) b .nil passL hg hm ha hdb he hpl
end
/-- the heap behind an exception of the class at C with the fields fs: what a wish must bear -/
def WantX (C : Addr) (fs : List (Str × V)) (H : Hp) (E : XK) : Prop := ∀ (d : Addr) (H' : Hp), H d = none → Same H H' → H' d = some (.xd fs) → E (.ref C) (some d) H'
theorem mkO1 {C : Addr} {sp : Sp} {H1 : Hp} {E : XK} {vs : List V} (fs : List (Str × V)) (hw : WantX C fs H1 E)
    (hs : ∀ (a : Addr) (Q : VK), H1 a = none → (∀ d, H1 d = none → d ≠ a → Q .non (upd (upd (upd H1 a (exo a C none)) d (exd d fs)) a (exo a C (some d)))) → sp (.ref a :: vs) (upd H1 a (exo a C none)) Q (fun _ _ _ => False)) :
    ∀ a, H1 a = none → sp (.ref a :: (vs ++ [])) (upd H1 a (exo a C none))
      (fun v H2 => v = .non ∧ ∃ (d : Addr) (fs : List (Str × V)), H2 a = some (exo a C (some d)) ∧ H2 d = some (exd d fs) ∧ H1 d = none ∧ E (.ref C) (some d) (upd (del H2 a) d (.xd fs))) (fun _ _ _ => False) := by
  intro a ha
  rw [List.append_nil]
  refine hs a _ ha fun d hd hda => ?_
  refine ⟨rfl, d, fs, upd_same, ?_, hd, ?_⟩
  · rw [upd_ne hda, upd_same]
  · refine hw d _ hd (fun b o hb => ?_) upd_same
    have hba : b ≠ a := ne_of_none hb ha
    have hbd : b ≠ d := ne_of_none hb hd
    rw [upd_ne hbd, del_ne hba, upd_ne hba, upd_ne hbd, upd_ne hba]
    exact hb
/-! ## isinstance of a caught exception -/
/-- what the written part says of the class -/
structure ExcK (K : PySem.W.Frag) (C : Addr) : Prop where
  k0 : (PySem.W.clsIn K C).isSome = true
  k4 : PySem.W.findIn K (.ref C) "__getattribute__" = some (some (.builtin "BaseException.__getattribute__"))
  k5 : PySem.W.findIn K (.ref C) "__getattr__" = some none
  k6 : PySem.W.subIn K (.ref C) (.type "BaseException") = some true
  k7 : PySem.W.findIn K (.ref C) "__class__" = some (some (.builtin "object.__class__"))
  k8 : PySem.W.specialIn K (.builtin "object.__class__") "__get__" = some (some (.builtin "getset_descriptor.__get__"))
  k9 : PySem.W.takesIn K (.builtin "object.__class__") = some true
  k10 : PySem.W.mroIn K C (.type "object") = some true
/-- isinstance(e, c): a the caught exception, of the class at C; c a class, or a tuple of classes -/
def tXi (K : PySem.W.Frag) (a : Addr) (cls : Value) (d : Option Addr) (C : Addr) (ta : TA) : TE := fun σ H Q => ta σ H fun vs H1 => cls = .ref C ∧ (∃ (dd : Addr) (fs : List (Str × V)), d = some dd ∧ H1 dd = some (.xd fs)) ∧
  ∃ b : Bool, Q (.bl b) H1 ∧ ((∃ (c : V) (u : Value), vs = [.ref a, c] ∧ ClsV c u ∧ PySem.W.kitOne K (.ref C) u = some b) ∨
    ∃ (tp : Addr) (cs : List V) (us : List Value), vs = [.ref a, .ref tp] ∧ H1 tp = some (.tup cs) ∧ Paired ClsV cs us ∧ PySem.W.kitAny K (.ref C) us = some b)
theorem pe_xi {X : Cx} {a C : Addr} {oe : Obj} {cls : Value} {d : Option Addr} {pn : List (Addr × Obj)} {e : Expr} {es : List Expr} {ta : TA} {p pos : Pos} (T : ExcK X.K C)
    (hz : Zc cls d oe) (hf : ∃ vs, oe.data = .fields vs) (hg : Gl (X.suite a ((a, oe) :: pn)) "isinstance") (hm : X.mg "isinstance" = none) (ha : PA (X.suite a ((a, oe) :: pn)) (e :: es) ta)
    (hv : bootBuiltins ("isinstance" : Str) = some (.builtin "isinstance") := by decide +kernel)
    (he : starEach (e :: es) X.env = (false, eval e X.env) :: starEach es X.env := by rfl) (hpl : (backTo pos (starEach es X.env)).any (·.1) = false := by rfl) :
    PE (X.suite a ((a, oe) :: pn)) (.Call (.Name "isinstance" p) (e :: es) [] pos) (tXi X.K a cls d C ta) := by
  refine ⟨fun pins s σ H Q I h => ?_⟩
  refine wpAny_Call_Name_kw (ld_blt I hg hm hv ?_ (by decide) (by decide))
  refine PyProof.Rows.callWith_builtin1 (thn (ha.run pos pins s σ H _ I h) fun us s1 hh => ?_) he hpl
  obtain ⟨vs, H1, I1, r1, ec, ⟨dd, fs, ed, ea⟩, b, q, hb⟩ := hh
  subst ec
  subst ed
  obtain ⟨ho, _⟩ := I1.pin (a, oe) (List.mem_append_left _ List.mem_cons_self)
  obtain ⟨fv, hd⟩ := hf
  have hx : ObjOk X.prog X.w H1 s1.heap dd (.xd fs) := I1.hok dd _ ea
  obtain ⟨mA, hns, hr⟩ := hx
  obtain ⟨od, hod, hl⟩ := lookIn_ns hns
  have J : PySem.W.InstAt s1.heap a oe C (some od) := ⟨ho, hz.1, by unfold PySem.W.notCls; rw [hd] <;> rfl, by rw [hz.2]; exact hod⟩
  have Z := PySem.W.kitx_exc (x := a) (ox := oe) (od := some od) T.k0 T.k4 T.k5 T.k6 T.k7 T.k8 T.k9 T.k10
  rcases hb with ⟨c, u, rfl, k, e1⟩ | ⟨tp, cs, ws, rfl, hT, k, e1⟩
  · obtain ⟨u1, u2, rfl, x1, x2⟩ := vals2 r1
    have e2 := k.eq x2
    subst e2
    cases (show u1 = Value.ref a from x1)
    exact PySem.W.kia_one Z I1.kIn J e1 (fun z => nomatch z) fun tk => ⟨.bl b, H1, I1.tok tk, rfl, q⟩
  · obtain ⟨u1, u2, rfl, x1, x2⟩ := vals2 r1
    cases (show u1 = Value.ref a from x1)
    cases (show u2 = Value.ref tp from x2)
    obtain ⟨_, its, rv, o, h1, h2, n, h3⟩ := (show ObjOk X.prog X.w H1 s1.heap tp (.tup cs) from I1.hok tp _ hT)
    have e3 := ClsV.all k rv
    subst e3
    obtain ⟨oc, od', dt, sl⟩ := o
    simp only at h2 h3
    subst h2 h3
    exact PySem.W.kia_tup Z I1.kIn J h1 e1 (fun z => nomatch z) fun tk => ⟨.bl b, H1, I1.tok tk, rfl, q⟩
/-! ## readings -/
section
variable {t ta : TA} {te : TE} {σ : L2.St} {H : Hp} {Q : VK} {sp : Sp} {E : L2.St → XK} {C a dd : Addr} {E' : XK} {D : Ends} {K : PySem.W.Frag} {fs : List (Str × V)} {f : Str} {v c : V} {u : Value} {b : Bool}
theorem rCallS (h : t σ H fun vs H1 => sp vs H1 Q (E σ)) : tCallS sp E t σ H Q := h
theorem rRaise (h : ta σ H fun vs H1 => vs.length ≤ 1000 ∧ ∀ a, H1 a = none → sp (.ref a :: (vs ++ [])) (upd H1 a (exo a C none))
      (fun v H2 => v = .non ∧ ∃ (d : Addr) (fs : List (Str × V)), H2 a = some (exo a C (some d)) ∧ H2 d = some (exd d fs) ∧ H1 d = none ∧ E' (.ref C) (some d) (upd (del H2 a) d (.xd fs))) (fun _ _ _ => False)) :
    tMkO C sp [] ta σ H E' := h
theorem rXf (h : te σ H fun x H1 => x = .ref a ∧ (Value.ref C) = .ref C ∧ ∃ (d' : Addr) (fs : List (Str × V)) (v : V), some dd = some d' ∧ H1 d' = some (.xd fs) ∧ fs.lookup f = some v ∧ Q v H1) : tXf a (.ref C) (some dd) C f te σ H Q := h
theorem xf_end {R : V → Prop} (hd : H dd = some (.xd fs)) (e : fs.lookup f = some v) (h : R v) : (V.ref a : V) = .ref a ∧ (Value.ref C) = .ref C ∧ ∃ (d' : Addr) (fs : List (Str × V)) (v : V), some dd = some d' ∧ H d' = some (.xd fs) ∧ fs.lookup f = some v ∧ R v := ⟨rfl, rfl, dd, fs, v, rfl, hd, e, h⟩
theorem rXi (h : ta σ H fun vs H1 => (Value.ref C) = .ref C ∧ (∃ (d' : Addr) (fs : List (Str × V)), some dd = some d' ∧ H1 d' = some (.xd fs)) ∧
  ∃ b : Bool, Q (.bl b) H1 ∧ ((∃ (c : V) (u : Value), vs = [.ref a, c] ∧ ClsV c u ∧ PySem.W.kitOne K (.ref C) u = some b) ∨
    ∃ (tp : Addr) (cs : List V) (us : List Value), vs = [.ref a, .ref tp] ∧ H1 tp = some (.tup cs) ∧ Paired ClsV cs us ∧ PySem.W.kitAny K (.ref C) us = some b)) : tXi K a (.ref C) (some dd) C ta σ H Q := h
theorem xi_own {R : Bool → Prop} {c : Addr} (hd : H dd = some (.xd fs)) (e : PySem.W.kitOne K (.ref C) (.ref c) = some b) (h : R b) : (Value.ref C) = .ref C ∧ (∃ (d' : Addr) (fs : List (Str × V)), some dd = some d' ∧ H d' = some (.xd fs)) ∧
  ∃ b : Bool, R b ∧ ((∃ (c' : V) (u : Value), [V.ref a, .ref c] = [.ref a, c'] ∧ ClsV c' u ∧ PySem.W.kitOne K (.ref C) u = some b) ∨
    ∃ (tp : Addr) (cs : List V) (us : List Value), [V.ref a, .ref c] = [.ref a, .ref tp] ∧ H tp = some (.tup cs) ∧ Paired ClsV cs us ∧ PySem.W.kitAny K (.ref C) us = some b) := ⟨rfl, ⟨dd, fs, rfl, hd⟩, b, h, .inl ⟨_, _, rfl, .own c, e⟩⟩
theorem xi_ty {R : Bool → Prop} {n : String} (hd : H dd = some (.xd fs)) (e : PySem.W.kitOne K (.ref C) (.type n) = some b) (h : R b) : (Value.ref C) = .ref C ∧ (∃ (d' : Addr) (fs : List (Str × V)), some dd = some d' ∧ H d' = some (.xd fs)) ∧
  ∃ b : Bool, R b ∧ ((∃ (c' : V) (u : Value), [V.ref a, .ty n] = [.ref a, c'] ∧ ClsV c' u ∧ PySem.W.kitOne K (.ref C) u = some b) ∨
    ∃ (tp : Addr) (cs : List V) (us : List Value), [V.ref a, .ty n] = [.ref a, .ref tp] ∧ H tp = some (.tup cs) ∧ Paired ClsV cs us ∧ PySem.W.kitAny K (.ref C) us = some b) := ⟨rfl, ⟨dd, fs, rfl, hd⟩, b, h, .inl ⟨_, _, rfl, .ty n, e⟩⟩
theorem rOst {to te : TE} {nx : L2.St → Hp → Prop} {rt : VK} {bk ct : L2.St → Hp → Prop} (h : te σ H fun y H1 => to σ H1 fun x H2 => ∃ a C : Addr, x = .ref a ∧ OexC K C ∧ PySem.W.findIn K (.ref C) f = some none ∧
  ((H2 a = some (exo a C none) ∧ ∀ dx, H2 dx = none → dx ≠ a → nx σ (upd (upd H2 dx (exd dx [(f, y)])) a (exo a C (some dx)))) ∨
    ∃ (dx : Addr) (fs : List (Str × V)), H2 a = some (exo a C (some dx)) ∧ H2 dx = some (exd dx fs) ∧ fs.length ≤ 900 ∧ nx σ (upd H2 dx (exd dx ((f, y) :: fs))))) : tOst K f to te ⟨nx, rt, bk, ct⟩ σ H := h
theorem rRevL (h : te σ H fun x H1 => ∃ a xs, x = .ref a ∧ SqL K H1 a xs ∧ newO (.lst xs.reverse) H1 Q) : tRevL K te σ H Q := h
theorem revL_end {xs : List V} {p : Addr} (hp : H p = some (.lst xs)) (h : newO (.lst xs.reverse) H Q) : ∃ a ys, (V.ref p : V) = .ref a ∧ SqL K H a ys ∧ newO (.lst ys.reverse) H Q := ⟨p, xs, rfl, SqL.of hp, h⟩
end
/-- a whole number's text is short -/
theorem num_len {n : Nat} (h : n ≤ 3000) : (Str.ofString (toString ((n : Nat) : Int))).length ≤ 4 := by
  have e := TL.tl_num n
  have k : ∀ m, m < 3001 → (TL.numL m).length ≤ 4 := by decide +kernel
  rw [TL.len_tl, e]
  exact k n (by omega)
theorem str_int {i : Int} {H : Hp} {Q : VK} (h : i.natAbs.log2 < 1920) (k : Q (.str (toString i)) H) : rStrI [.int i] H Q := ⟨i, rfl, h, k⟩
theorem log_small {i : Int} (h : i.natAbs ≤ 3000) : i.natAbs.log2 < 1920 := by
  by_cases h0 : i.natAbs = 0
  · rw [h0]
    decide
  · have : i.natAbs.log2 < 12 := (Nat.log2_lt h0).mpr (by show i.natAbs < 4096; omega)
    omega
/-! ## classes of exceptions: what is asked of the written part -/
section
variable {K : PySem.W.Frag} {S C : Addr} {b : Bool}
theorem exm_self (h1 : PySem.W.subIn K (.ref S) (.type "BaseException") = some true) (h2 : PySem.W.isClsIn K S = true) (h3 : PySem.W.typeIn K (.ref S) = some (.type "type")) (h4 : PySem.W.subIn K (.ref S) (.ref S) = some true) :
    PySem.W.exmOne K (.ref S) (.ref S) = some true := by
  have e1 : (PySem.W.subIn K (.ref S) (.type "BaseException") == some true) = true := by rw [h1] <;> rfl
  have e2 : ((PySem.W.clsIn K S).isSome && PySem.W.typeIn K (.ref S) == some (.type "type")) = true := by
    have h2' : (PySem.W.clsIn K S).isSome = true := h2
    rw [h2', h3] <;> rfl
  show (if (PySem.W.subIn K (.ref S) (.type "BaseException") == some true) = true then (if ((PySem.W.clsIn K S).isSome && PySem.W.typeIn K (.ref S) == some (.type "type")) = true then PySem.W.subIn K (.ref S) (.ref S) else none) else none) = some true
  rw [if_pos e1, if_pos e2]
  exact h4
theorem kit_ref (h2 : PySem.W.isClsIn K S = true) (h3 : PySem.W.typeIn K (.ref S) = some (.type "type")) (h4 : PySem.W.subIn K (.ref C) (.ref S) = some b) (h5 : PySem.W.subIn K (.ref C) (.ref C) = some true) : PySem.W.kitOne K (.ref C) (.ref S) = some b := by
  have e2 : ((PySem.W.clsIn K S).isSome && PySem.W.typeIn K (.ref S) == some (.type "type")) = true := by
    have h2' : (PySem.W.clsIn K S).isSome = true := h2
    rw [h2', h3] <;> rfl
  show (if (Value.ref C == Value.ref S) = true then some true else if ((PySem.W.clsIn K S).isSome && PySem.W.typeIn K (.ref S) == some (.type "type")) = true then PySem.W.subIn K (.ref C) (.ref S) else none) = some b
  by_cases q : (Value.ref C == Value.ref S) = true
  · rw [if_pos q]
    have e : C = S := Value.ref.inj (beq_iff_eq.mp q)
    subst e
    rw [h5] at h4
    exact h4
  · rw [if_neg q, if_pos e2]
    exact h4
theorem kit_tyV (h : PySem.W.subIn K (.ref C) (.type "ValueError") = some b) : PySem.W.kitOne K (.ref C) (.type "ValueError") = some b := by
  show (if (Value.ref C == Value.type "ValueError") = true then some true else if PySem.W.kitMeta "ValueError" = true then PySem.W.subIn K (.ref C) (.type "ValueError") else none) = some b
  rw [if_neg (fun z => nomatch (beq_iff_eq.mp z : Value.ref C = Value.type "ValueError")), if_pos (by decide +kernel)]
  exact h
end
end Z
namespace Z
open PySem PySem.Spec PyProof.Rows L2
/-! ## an own exception as a value -/
/-- x(e, ..), not raised -/
def tMkV (C : Addr) (sp : Sp) (ta : TA) : TE := fun σ H Q => ta σ H fun vs H1 => vs.length ≤ 1000 ∧ ∀ a, H1 a = none → sp (.ref a :: vs) (upd H1 a (exo a C none)) (fun v H2 => v = .non ∧ Q (.ref a) H2) fun _ _ _ => False
section
variable {X : Cx} {k j : Nat} {x : Str} {sp : Sp} {p pos : Pos} {e o : Expr} {es : List Expr} {t : TA} {te : TE} {C : Addr} {n : Str}
theorem pe_xv (c : OexI X.prog X.w X.K X.mg X.base k x C sp) (hr : Room j X.A) (hk : k + 1 ≤ j) (hg : Gl X x) (ha : PA X (e :: es) t)
    (hdb : (x == ("__debug__" : Str)) = false := by decide) (he : starEach (e :: es) X.env = (false, eval e X.env) :: starEach es X.env := by rfl) (hpl : (backTo pos (starEach es X.env)).any (·.1) = false := by rfl) :
    PE X (.Call (.Name x p) (e :: es) [] pos) (tMkV C sp t) := by
  obtain ⟨fI, fd, ps, T, iC, tI, F1, hb, hm⟩ := c.ex
  replace hr := hr.mono hk
  refine ⟨fun pins s σ H Q I h => ?_⟩
  obtain ⟨nm, q, N, bs, bm, sn, sub, ab, col, dd, k0, k1, k2, k3, k5, hC, hbm⟩ := T.cls
  refine wpAny_Call_Name_kw (ld_glob I hg hm ?_ hdb)
  refine PySem.W.callWith_K (h₀ := X.base) I.ok.mod.kin T.kC (thn (ha.run pos pins s σ H _ I h) fun us s1 ⟨vs, H1, I1, r1, hz, q1⟩ => ⟨I1.kIn, ?_⟩) he hpl
  show wpAny _ _ (call (.ref C) us) _ _ _
  obtain ⟨hp, g, dr, tk, os⟩ := s1
  have hsz : hp.objs.size ≤ hp.objs.size + 1 := Nat.le_succ _
  have hn : H1 (hp.objs.size + 1) = none := I1.hok.fresh hsz
  have hq := q1 (hp.objs.size + 1) hn
  have kk : ∀ b o, hp.get? b = some o → ((hp.push (PySem.W.kdv_tup us)).push (PySem.HandSPX.excO C hp.objs.size)).get? b = some o := fun b o e => Heap.get?_push_of_some _ (Heap.get?_push_of_some _ e)
  have hget : ((hp.push (PySem.W.kdv_tup us)).push (PySem.HandSPX.excO C hp.objs.size)).get? (hp.objs.size + 1) = some (PySem.HandSPX.excO C hp.objs.size) := by heap_get
  have I2 := I1.laid (t' := tk) (a := hp.objs.size + 1) (o := exo (hp.objs.size + 1) C none) (h' := (hp.push (PySem.W.kdv_tup us)).push (PySem.HandSPX.excO C hp.objs.size)) kk hsz (exo_ok hget)
  have r2 : Vals (V.ref (hp.objs.size + 1) :: vs) (Value.ref (hp.objs.size + 1) :: us) := .cons rfl r1
  have hl : (Value.ref (hp.objs.size + 1) :: us ++ []).length = ps.length := by
    have e := r2.length
    rw [F1.len _ _ _ _ hq] at e
    rw [List.append_nil]
    exact e.symm
  have hus : us.length ≤ sizeLine := by
    rw [← Paired.length r1, sizeLine_eq]
    omega
  have hbb := hb _ (Value.ref (hp.objs.size + 1) :: us) I2.kIn hl
  rw [List.append_nil] at hbb
  refine wpAny_call (PySem.HandSPX.call_own F.excBase_ValueError (fun Y => PySem.HandSPX.refsVE_contains Y bm hbm) (I1.kIn _ _ hC) (PySem.W.looks_findIn I1.kIn iC) (fun self => PySem.W.bind_fn I1.kIn self tI) hus
    (codeAny_mono (F1.run _ X.stack _ _ ⟨Value.ref (hp.objs.size + 1) :: us, []⟩ (Value.ref (hp.objs.size + 1) :: us) _ _ (fun _ _ _ => False) (hr.make C us []) (I2.env0.make C us []) hbb r2 hq) fun r s' hq' => ?_))
  cases r with
  | error er => exact passL pins σ _ _ er s' I2 hq'
  | ok fl =>
    cases fl with
    | ret u =>
      have hq2 := I2.after hq'
      obtain ⟨v, H2, I3, rv, ev, q2⟩ := hq2
      subst ev
      exact ⟨rv, .ref (hp.objs.size + 1), H2, I3, rfl, q2⟩
    | next => exact False.elim hq'
    | brk => exact False.elim hq'
    | cont => exact False.elim hq'
/-- isinstance of a made exception -/
def rIsiX (K : PySem.W.Frag) : List V → Hp → VK → Prop := fun vs H Q => ∃ (a C dd : Addr) (fs : List (Str × V)) (c : V) (u : Value) (b : Bool), vs = [.ref a, c] ∧ H a = some (exo a C (some dd)) ∧ H dd = some (exd dd fs) ∧ ClsV c u ∧ PySem.W.kitOne K (.ref C) u = some b ∧ ExcK K C ∧ Q (.bl b) H
theorem inst_x {pins : List (Addr × Obj)} {s : Shared} {σ : L2.St} {H : Hp} {a C dd : Addr} {fs : List (Str × V)} (I : Inv X pins σ H s) (ha : H a = some (exo a C (some dd))) (hd : H dd = some (exd dd fs)) :
    ∃ (ox od : Obj) (mA : Str → Option Value), PySem.W.InstAt s.heap a ox C (some od) ∧ (∀ f, RelO (fs.lookup f) (mA f)) ∧ ∀ f, PySem.W.lookIn f od = some (mA f) := by
  obtain ⟨t1, ho⟩ := exo_at I.hok ha
  obtain ⟨mA, hns, hr⟩ := exd_at I.hok hd
  obtain ⟨od, hod, hl⟩ := lookIn_ns hns
  exact ⟨_, od, mA, ⟨ho, rfl, rfl, hod⟩, hr, hl⟩
theorem call_isiX : CallR X (.builtin "isinstance") (rIsiX X.K) := by
  intro pins s σ H xs us Q I r h
  obtain ⟨a, C, dd, fs, c, u, b, rfl, ha, hd, k, e, T, q⟩ := h
  obtain ⟨u1, u2, rfl, r1, r2⟩ := vals2 r
  have e2 := k.eq r2
  subst e2
  cases (show u1 = Value.ref a from r1)
  obtain ⟨ox, od, mA, J, _, _⟩ := inst_x I ha hd
  have Z := PySem.W.kitx_exc (x := a) (ox := ox) (od := some od) T.k0 T.k4 T.k5 T.k6 T.k7 T.k8 T.k9 T.k10
  exact PySem.W.kia_one Z I.kIn J e (fun z => nomatch z) fun tk => ⟨.bl b, H, I.tok tk, rfl, q⟩
/-- o.n of a made exception -/
def tXa (K : PySem.W.Frag) (n : Str) (te : TE) : TE := fun σ H Q => te σ H fun x H1 => ∃ (a C dd : Addr) (fs : List (Str × V)) (v : V), x = .ref a ∧ H1 a = some (exo a C (some dd)) ∧ H1 dd = some (exd dd fs) ∧ XfC K C ∧ PySem.W.findIn K (.ref C) n = some none ∧ fs.lookup n = some v ∧ Q v H1
theorem pe_xa (he : PE X o te) (hb : attributeBase o n X.env (eval o X.env) = eval o X.env := by rfl) : PE X (.Attribute o n pos) (tXa X.K n te) := by
  refine ⟨fun pins s σ H Q I h => ?_⟩
  refine attr_of hb (thn (he.run pins s σ H _ I h) fun u s1 hh => ?_)
  obtain ⟨x, H1, I1, rx, a, C, dd, fs, v, ex, ha, hd, T, hno, l, q⟩ := hh
  subst ex
  obtain rfl : u = Value.ref a := rx
  obtain ⟨ox, od, mA, J, hr, hl⟩ := inst_x I1 ha hd
  obtain ⟨u, hu, ru⟩ := RelO.some_of (v := v) (o := mA n) (by rw [← l]; exact hr n)
  exact HandSPX.exc_get I1.kIn J T.ga T.gg T.exC (PySem.W.findObj_own T.hdC hno rfl (by rw [hl, hu])) (handed_of ru) ⟨v, H1, I1.tok _, ru, q⟩
end
section
variable {σ : L2.St} {H : Hp} {Q : VK} {sp : Sp} {C a dd : Addr} {K : PySem.W.Frag} {fs : List (Str × V)} {n : Str} {v : V} {b : Bool} {ta : TA} {te : TE}
theorem rMkV (h : ta σ H fun vs H1 => vs.length ≤ 1000 ∧ ∀ a, H1 a = none → sp (.ref a :: vs) (upd H1 a (exo a C none)) (fun v H2 => v = .non ∧ Q (.ref a) H2) fun _ _ _ => False) : tMkV C sp ta σ H Q := h
theorem isx_own {c : Addr} (ha : H a = some (exo a C (some dd))) (hd : H dd = some (exd dd fs)) (e : PySem.W.kitOne K (.ref C) (.ref c) = some b) (T : ExcK K C) (h : Q (.bl b) H) : rIsiX K [.ref a, .ref c] H Q := ⟨a, C, dd, fs, _, _, b, rfl, ha, hd, .own c, e, T, h⟩
theorem rXa (h : te σ H fun x H1 => ∃ (a C dd : Addr) (fs : List (Str × V)) (v : V), x = .ref a ∧ H1 a = some (exo a C (some dd)) ∧ H1 dd = some (exd dd fs) ∧ XfC K C ∧ PySem.W.findIn K (.ref C) n = some none ∧ fs.lookup n = some v ∧ Q v H1) : tXa K n te σ H Q := h
theorem xa_end {R : V → Prop} (ha : H a = some (exo a C (some dd))) (hd : H dd = some (exd dd fs)) (T : XfC K C) (hno : PySem.W.findIn K (.ref C) n = some none) (l : fs.lookup n = some v) (h : R v) :
    ∃ (a' C dd : Addr) (fs : List (Str × V)) (v : V), V.ref a = .ref a' ∧ H a' = some (exo a' C (some dd)) ∧ H dd = some (exd dd fs) ∧ XfC K C ∧ PySem.W.findIn K (.ref C) n = some none ∧ fs.lookup n = some v ∧ R v := ⟨a, C, dd, fs, v, rfl, ha, hd, T, hno, l, h⟩
end
/-- an own class among others: no one of them -/
theorem kit_none {K : PySem.W.Frag} {t : Value} : ∀ {cs : List Value}, (∀ c ∈ cs, PySem.W.kitOne K t c = some false) → PySem.W.kitAny K t cs = some false
  | [], _ => rfl
  | c :: cs, h => kitAny_cons (h c (List.mem_cons_self ..)) (fun _ => kit_none fun d hd => h d (List.mem_cons_of_mem _ hd)) (fun q => nomatch q)
theorem xi_none {K : PySem.W.Frag} {H : Hp} {a C dd tp : Addr} {R : Bool → Prop} {fs : List (Str × V)} {cs : List Addr} (hd : H dd = some (.xd fs)) (ht : H tp = some (.tup (cs.map V.ref))) (e : ∀ c ∈ cs, PySem.W.kitOne K (.ref C) (.ref c) = some false) (h : R false) :
    (Value.ref C) = .ref C ∧ (∃ (d' : Addr) (fs : List (Str × V)), some dd = some d' ∧ H d' = some (.xd fs)) ∧
  ∃ b : Bool, R b ∧ ((∃ (c' : V) (u : Value), [V.ref a, .ref tp] = [.ref a, c'] ∧ ClsV c' u ∧ PySem.W.kitOne K (.ref C) u = some b) ∨
    ∃ (tp' : Addr) (cs : List V) (us : List Value), [V.ref a, .ref tp] = [.ref a, .ref tp'] ∧ H tp' = some (.tup cs) ∧ Paired ClsV cs us ∧ PySem.W.kitAny K (.ref C) us = some b) := by
  have hp : ∀ cs : List Addr, Paired ClsV (cs.map V.ref) (cs.map Value.ref) := fun cs => by
    induction cs with
    | nil => exact .nil
    | cons c cs ih => exact .cons (.own c) ih
  refine ⟨rfl, ⟨dd, fs, rfl, hd⟩, false, h, .inr ⟨tp, _, _, rfl, ht, hp cs, kit_none fun c hc => ?_⟩⟩
  obtain ⟨c', hc', rfl⟩ := List.mem_map.mp hc
  exact e c' hc'
/-- another class that the clause names -/
theorem exm_ref {K : PySem.W.Frag} {S C : Addr} {b : Bool} (h1 : PySem.W.subIn K (.ref S) (.type "BaseException") = some true) (h2 : PySem.W.isClsIn K S = true) (h3 : PySem.W.typeIn K (.ref S) = some (.type "type")) (h4 : PySem.W.subIn K (.ref C) (.ref S) = some b) :
    PySem.W.exmOne K (.ref C) (.ref S) = some b := by
  have e1 : (PySem.W.subIn K (.ref S) (.type "BaseException") == some true) = true := by rw [h1] <;> rfl
  have e2 : ((PySem.W.clsIn K S).isSome && PySem.W.typeIn K (.ref S) == some (.type "type")) = true := by
    have h2' : (PySem.W.clsIn K S).isSome = true := h2
    rw [h2', h3] <;> rfl
  show (if (PySem.W.subIn K (.ref S) (.type "BaseException") == some true) = true then (if ((PySem.W.clsIn K S).isSome && PySem.W.typeIn K (.ref S) == some (.type "type")) = true then PySem.W.subIn K (.ref C) (.ref S) else none) else none) = some b
  rw [if_pos e1, if_pos e2]
  exact h4
end Z
namespace Z
open PySem PySem.Spec PyProof.Rows L2
/-! ## str of an edit -/
theorem tl_neg (s t : String) : TL.tl (Str.ofString (s ++ t)) = TL.tl (Str.ofString s) ++ TL.tl (Str.ofString t) := by
  rw [Str.ofString_eq_toList, Str.ofString_eq_toList, Str.ofString_eq_toList]
  show ((s ++ t).toList.map Char.toNat).toArray.toList = (s.toList.map Char.toNat).toArray.toList ++ (t.toList.map Char.toNat).toArray.toList
  simp
theorem num_len' {i : Int} (h : i.natAbs < 1000000000) : (Str.ofString (toString i)).length ≤ 10 := by
  match i, h with
  | .ofNat n, h =>
    rw [TL.len_tl]
    show (TL.tl (Str.ofString (toString ((n : Nat) : Int)))).length ≤ 10
    rw [TL.tl_num]
    have := TL.numL_len (n := n) (k := 9) (by omega) h
    omega
  | .negSucc n, h =>
    rw [TL.len_tl]
    show (TL.tl (Str.ofString ("-" ++ toString (((n + 1 : Nat) : Int))))).length ≤ 10
    rw [tl_neg, TL.tl_num, List.length_append]
    have := TL.numL_len (n := n + 1) (k := 9) (by omega) h
    have e : (TL.tl (Str.ofString "-")).length = 1 := by decide +kernel
    omega
/-- str(t), t a tuple of ints and texts: some bounded text -/
theorem str_tup {prog : Program} {w : World} {A : Around} {E : Value → Shared → Prop} {s : Shared} {a : Addr} {o : Obj} {items : Array Value} {n : Nat} {ts : List Str} {Q : Value → Shared → Prop} (hu : A.units + 4 < cLine) (ha : s.heap.get? a = some o) (hc : o.cls = .type "tuple") (hd : o.data = .seq items n)
    (hT : ∀ (prog : Program) (w : World), ReprAll prog w items.toList ts) (hsz : (tupleText ts).length ≤ sizeLine)
    (h : ∀ (m : Str) (u tk : Tok), m.length ≤ (tupleText ts).length + 5 → Q (.str m u) { s with toks := tk }) : wpAny (model prog w) A (call (.type "str") [.ref a]) Q E s :=
  callType_new F.called_str (by decide) (F.typeCall_str_1 _) (F.newCall_str_1 _) (fun obj => F.args_object_init_2 obj _) F.entry_str_new
    (meets_str_new (S := fun A' R s' => A'.units + 3 < cLine ∧ s'.heap.get? a = some o ∧
        ∀ m u tk, m.length ≤ (tupleText ts).length + 5 → R (.ok (.ret (.str m u))) { s' with toks := tk })
      fun prog' w' A' R s' h => wpAny_strOf_slot rfl (by show A'.units + 1 + 1 < cLine; have := h.1; omega) ⟨o, h.2.1, hc⟩ F.slot_tuple_str F.slot_tuple_repr
        (fmt_tuple_repr h.2.1 hc hd (hT prog' w') hsz fun m u tk hm => ⟨m, u, rfl, h.2.2 m u tk hm⟩))
    ⟨by show A.units + 1 + 3 < cLine; omega, ha, fun m u tk hm => ⟨typeIs_str _ _ _, h m u tk hm⟩⟩
theorem ok_small {x : Str} (h : Ok x) : ∀ c ∈ x.cps.toList, c < 16 ^ 8 := fun c hc => by
  have h1 : c < 1114112 := h c hc
  exact Nat.lt_trans h1 (by decide)
theorem int_small {i : Int} (h : i.natAbs < 1000000000) : i.natAbs.log2 < 1920 := by
  by_cases h0 : i.natAbs = 0
  · rw [h0]
    decide
  · have : i.natAbs.log2 < 30 := (Nat.log2_lt h0).mpr (by show i.natAbs < 1073741824; omega)
    omega
/-- str of an edit: some text, not long -/
def rStrE : List V → Hp → VK → Prop := fun vs H Q => ∃ (v : V) (x : Ed), vs = [v] ∧ EdAt H v x ∧ x.s.natAbs < 1000000000 ∧ x.e.natAbs < 1000000000 ∧ Ok x.n ∧ x.n.length ≤ 100000 ∧ ∀ m : Str, m.length ≤ 2000000 → Q (.str m) H
theorem call_strE {X : Cx} (hu : X.A.units + 64 < cLine) : CallR X (.type "str") rStrE := by
  intro pins s σ H vs us Q I r h
  obtain ⟨v, x, rfl, ⟨p, rfl, hp⟩, h1, h2, hk, hl, q⟩ := h
  obtain ⟨u, rfl, r1⟩ := vals1 r
  cases r1
  obtain ⟨its, rv, ⟨o, ho, hcl, n, hd⟩, _⟩ := I.tuple (SqT.of hp)
  have e1 := StrLaws.reprText_len x.n (ok_small hk)
  have e2 := num_len' h1
  have e3 := num_len' h2
  have hz := sizeLine_eq
  have htx := fmt_text [Str.ofString (toString x.s), Str.ofString (toString x.e), reprText x.n]
  rw [piled_cons, piled_cons, piled_cons, piled_nil] at htx
  have hT : ∀ (prog : Program) (w : World), ReprAll prog w its.toArray.toList [Str.ofString (toString x.s), Str.ofString (toString x.e), reprText x.n] := fun prog w => by
    cases rv with
    | cons a1 rv =>
      cases rv with
      | cons a2 rv =>
        cases rv with
        | cons a3 rv =>
          cases rv
          obtain ⟨t1, rfl⟩ := a1
          obtain ⟨t2, rfl⟩ := a2
          obtain ⟨t3, rfl⟩ := a3
          exact .cons (ReprIs.int t1 (int_small h1)) (.cons (ReprIs.int t2 (int_small h2)) (.cons (ReprIs.str x.n t3 (by omega)) .nil))
  exact str_tup (by omega) ho hcl hd hT (by omega) fun m u tk hm => ⟨.str m, H, I.tok _, ⟨u, rfl⟩, q m (by omega)⟩
/-- str of an int, or of an edit -/
def rStrU : List V → Hp → VK → Prop := fun vs H Q => rStrI vs H Q ∨ rStrE vs H Q
theorem call_strU {X : Cx} (hu : X.A.units + 64 < cLine) : CallR X (.type "str") rStrU := CallR.or call_strI (call_strE hu)
theorem st_int {i : Int} {H : Hp} {Q : VK} (h : i.natAbs.log2 < 1920) (k : Q (.str (toString i)) H) : rStrU [.int i] H Q := .inl ⟨i, rfl, h, k⟩
theorem st_ed {v : V} {x : Ed} {H : Hp} {Q : VK} (h : EdAt H v x) (h1 : x.s.natAbs < 1000000000 ∧ x.e.natAbs < 1000000000) (h2 : Ok x.n ∧ x.n.length ≤ 100000) (k : ∀ m : Str, m.length ≤ 2000000 → Q (.str m) H) : rStrU [v] H Q := .inr ⟨v, x, rfl, h, h1.1, h1.2, h2.1, h2.2, k⟩
end Z
namespace Z
open PySem PySem.Spec L2
/-! ## comprehensions over a text -/
section
variable {n i : Nat} {te tl : TE} {σ : L2.St} {H : Hp} {Q : VK} {g : TG} {tt : TT} {vs : List Nat}
theorem rLcS (h : tl σ H fun x H1 => ∃ z, x = .str z ∧ compJ (Its z) g tt te vs σ H1 Q) : tLc (iStr tl) g tt te vs σ H Q := h
theorem lcs_end {z : Str} {R : It → Prop} (h : R (Its z)) : ∃ z', (V.str z : V) = .str z' ∧ R (Its z') := ⟨z, rfl, h⟩
theorem compS_pure {z : Str} (Pa : List V → Hp → Prop) (h0 : ∀ H2, Same H H2 → Pa [] H2)
    (hs : ∀ acc c H2 D, pIn H D z.cps.size acc H2 → Pa acc H2 → te ((σ.set i none).set i (some (.str ⟨#[c]⟩))) H2 (fun y H3 => pD H D Pa acc.length y H3))
    (hd : ∀ acc H2 D, acc.length = z.cps.size → Pa acc H2 → Same H H2 → H2 D = some (.lst acc) → Frs H D → Q (.ref D) H2) : compJ (Its z) (gName i) tYes te [i] σ H Q := by
  intro D hD
  refine lc_it walk_str (Qd := fun H' => Q (.ref D) H') (fun k H' => ∃ acc, acc.length = k ∧ Pa acc H' ∧ Same H H' ∧ H' D = some (.lst acc)) ⟨[], rfl, h0 _ (Same.upd_new (Same.refl H) hD), Same.upd_new (Same.refl H) hD, upd_same⟩ (fun _ _ _ _ => trivial) ?_ ?_
  · rintro k x H' H'' hk ⟨acc, rfl, pa, s, hDl⟩ ⟨rfl, c, hc, rfl⟩
    exact ⟨wipe1 σ i _, (hs acc c H'' D ⟨hDl, hD, s, hk⟩ pa)⟩
  · rintro H' ⟨acc, e, pa, s, hDl⟩
    exact hd acc H' D e pa s hDl hD
end
/-! ## the tags of a row of places -/
def tag1 (l : List Int) (x : Ed) : List Int := apr l x (List.replicate x.n.length (-1))
def tags (l : List Int) (es : List Ed) : List Int := es.foldl tag1 l
def rowI (n : Nat) : List Int := (List.range n).map fun k : Nat => (k : Int)
theorem tags_snoc (l : List Int) (es : List Ed) (x : Ed) : tags l (es ++ [x]) = tag1 (tags l es) x := by
  unfold tags
  rw [List.foldl_append]
  rfl
theorem rowI_len (n : Nat) : (rowI n).length = n := by
  unfold rowI
  rw [List.length_map, List.length_range]
theorem rowI_snoc (n : Nat) : rowI (n + 1) = rowI n ++ [(n : Int)] := by
  unfold rowI
  rw [List.range_succ, List.map_append]
  rfl
theorem tag1_len {l : List Int} {x : Ed} (h : fit1 l.length x) : ((tag1 l x).length : Int) = nsz l.length x := by
  obtain ⟨h1, h2, h3⟩ := h
  unfold tag1 apr apl nsz
  rw [List.length_append, List.length_append, List.length_take, List.length_drop, List.length_replicate]
  omega
theorem tags_len : ∀ {es : List Ed} {l : List Int}, fits l.length es → ((tags l es).length : Int) = sza l.length es
  | [], _, _ => rfl
  | x :: es, l, h => by
    have e := tag1_len h.1
    show ((tags (tag1 l x) es).length : Int) = sza (nsz l.length x) es
    rw [tags_len (es := es) (l := tag1 l x) (by rw [e]; exact h.2), e]
theorem fits_more : ∀ {es : List Ed} {n m : Int}, n ≤ m → fits n es → fits m es
  | [], _, _, _, _ => trivial
  | x :: es, n, m, h, hf => ⟨⟨hf.1.1, hf.1.2.1, by have := hf.1.2.2; omega⟩, fits_more (by unfold nsz; omega) hf.2⟩
theorem exch_tags {l : List Int} {x y y' x' : Ed} (f : fits l.length [x, y]) (h : exch x y = some (y', x')) : tags l [y', x'] = tags l [x, y] := by
  obtain ⟨e, _, _, e1, e2⟩ := exch_apr (l := l) (cx := List.replicate x.n.length (-1)) (cy := List.replicate y.n.length (-1)) List.length_replicate List.length_replicate f.1 f.2.1 h
  show tag1 (tag1 l y') x' = tag1 (tag1 l x) y
  unfold tag1
  rw [e1, e2, e]
theorem tl_apr {t : Str} {x : Ed} (h : fit1 t.length x) : TL.tl (ap t x) = apr (TL.tl t) x (TL.tl x.n) := tl_ap h
theorem exch_aps {t : Str} {x y y' x' : Ed} (f : fits t.length [x, y]) (h : exch x y = some (y', x')) : fits t.length [y', x'] ∧ aps t [y', x'] = aps t [x, y] := by
  have hl := TL.len_tl t
  have f1 : fit1 (TL.tl t).length x := by rw [← hl]; exact f.1
  have f2 : fit1 (nsz (TL.tl t).length x) y := by rw [← hl]; exact f.2.1
  obtain ⟨e, g1, g2, e1, e2⟩ := exch_apr (l := TL.tl t) (cx := TL.tl x.n) (cy := TL.tl y.n) (TL.len_tl x.n).symm (TL.len_tl y.n).symm f1 f2 h
  rw [← hl] at g1 g2
  have k : fits t.length [y', x'] := ⟨g1, g2, trivial⟩
  refine ⟨k, TL.ext_tl ?_⟩
  show TL.tl (ap (ap t y') x') = TL.tl (ap (ap t x) y)
  rw [tl_apr (by rw [len_ap g1]; exact g2), tl_apr g1, tl_apr (t := ap t x) (by rw [len_ap f.1]; exact f.2.1), tl_apr f.1, e1, e2, e]
/-! ## lists of whole numbers as data -/
theorem ints_dp {K : PySem.W.Frag} {H : Hp} : ∀ l : List Int, DpAll K H (l.map V.int) (l.map PyData.int)
  | [] => .nil
  | i :: l => .cons (.int i) (ints_dp l)
theorem ints_lay : ∀ l : List Int, PyData.canLayAll0 (l.map PyData.int) = true ∧ PyData.depthAll (l.map PyData.int) ≤ 1
  | [] => ⟨rfl, Nat.zero_le _⟩
  | i :: l => by
    obtain ⟨h1, h2⟩ := ints_lay l
    refine ⟨?_, ?_⟩
    · simp only [List.map_cons, PyData.canLayAll0, PyData.canLay0, h1, Bool.and_self]
    · simp only [List.map_cons, PyData.depthAll, PyData.depth]
      omega
theorem ints_shaped (l : List Int) : SeqAt.shaped (.list (l.map PyData.int)) = true := by
  obtain ⟨h1, h2⟩ := ints_lay l
  unfold SeqAt.shaped
  simp [PyData.canLay0, PyData.depth, h1]
  omega
theorem ints_eqv : ∀ l : List Int, PyData.eqvAll (l.map PyData.int) (l.map PyData.int) = true
  | [] => by simp only [List.map_nil, PyData.eqvAll]
  | i :: l => by
    simp only [List.map_cons, PyData.eqvAll, PyData.eqv, ints_eqv l]
    simp
theorem eq_ints {K : PySem.W.Frag} {H : Hp} {p q : Addr} {l : List Int} {Q : VK} (hp : H p = some (.lst (l.map V.int))) (hq : H q = some (.lst (l.map V.int))) (h : Q (.bl true) H) : rEqU K (.ref p) (.ref q) H Q := by
  refine eq_deep (.lst (SqL.of hp) (ints_dp l)) (.lst (SqL.of hq) (ints_dp l)) (ints_shaped l) (ints_shaped l) ?_
  have e : PyData.eqv (.list (l.map PyData.int)) (.list (l.map PyData.int)) = true := by
    simp only [PyData.eqv]
    exact ints_eqv l
  rw [e]
  exact h
end Z
namespace Z
open PySem PySem.Spec L2
/-! ## lists of edits exchanged -/
/-- what comes of an exchange of lists: the two that cannot pass each other, or a value -/
inductive Xr (α : Type) where
  | bad (x y : Ed)
  | ok (a : α)
/-- y moved ahead of a list, from its end -/
def swr : List Ed → Ed → Xr (Ed × List Ed)
  | [], y => .ok (y, [])
  | x :: xs, y => match swr xs y with
    | .bad a b => .bad a b
    | .ok (y', xs') => match exch x y' with
      | none => .bad x y'
      | some (y2, x') => .ok (y2, x' :: xs')
/-- a list moved ahead of a list -/
def swl : List Ed → List Ed → Xr (List Ed × List Ed)
  | bs, [] => .ok ([], bs)
  | bs, y :: ys => match swr bs y with
    | .bad a b => .bad a b
    | .ok (a, bs') => match swl bs' ys with
      | .bad a b => .bad a b
      | .ok (as, b2) => .ok (a :: as, b2)
/-- the same behind what is done already -/
def Xr.ahead (as : List Ed) : Xr (List Ed × List Ed) → Xr (List Ed × List Ed)
  | .bad x y => .bad x y
  | .ok (bs, cs) => .ok (as ++ bs, cs)
theorem Xr.ahead_nil : ∀ r : Xr (List Ed × List Ed), r.ahead [] = r
  | .bad _ _ => rfl
  | .ok (_, _) => rfl
theorem swr_bad : ∀ {xs zs : List Ed} {y a b : Ed}, swr zs y = .bad a b → swr (xs ++ zs) y = .bad a b
  | [], _, _, _, _, h => h
  | x :: xs, zs, y, a, b, h => by
    show (match swr (xs ++ zs) y with | .bad a b => Xr.bad a b | .ok (y', xs') => match exch x y' with | none => Xr.bad x y' | some (y2, x') => Xr.ok (y2, x' :: xs')) = _
    rw [swr_bad h]
theorem swr_cons {x y y1 y2 x' : Ed} {xs xs' : List Ed} (h : swr xs y = .ok (y1, xs')) (e : exch x y1 = some (y2, x')) : swr (x :: xs) y = .ok (y2, x' :: xs') := by
  show (match swr xs y with | .bad a b => Xr.bad a b | .ok (y', xs') => match exch x y' with | none => Xr.bad x y' | some (y2, x') => Xr.ok (y2, x' :: xs')) = _
  rw [h]
  show (match exch x y1 with | none => Xr.bad x y1 | some (y2, x') => Xr.ok (y2, x' :: xs')) = _
  rw [e]
theorem swr_stop {x y y1 : Ed} {xs xs' : List Ed} (h : swr xs y = .ok (y1, xs')) (e : exch x y1 = none) : swr (x :: xs) y = .bad x y1 := by
  show (match swr xs y with | .bad a b => Xr.bad a b | .ok (y', xs') => match exch x y' with | none => Xr.bad x y' | some (y2, x') => Xr.ok (y2, x' :: xs')) = _
  rw [h]
  show (match exch x y1 with | none => Xr.bad x y1 | some (y2, x') => Xr.ok (y2, x' :: xs')) = _
  rw [e]
theorem swr_inv {x y y2 : Ed} {xs w : List Ed} (h : swr (x :: xs) y = .ok (y2, w)) : ∃ y1 xs' x', swr xs y = .ok (y1, xs') ∧ exch x y1 = some (y2, x') ∧ w = x' :: xs' := by
  cases e : swr xs y with
  | bad a b =>
    have : swr (x :: xs) y = .bad a b := by
      show (match swr xs y with | .bad a b => Xr.bad a b | .ok (y', xs') => match exch x y' with | none => Xr.bad x y' | some (y2, x') => Xr.ok (y2, x' :: xs')) = _
      rw [e]
    rw [this] at h
    cases h
  | ok p =>
    obtain ⟨y1, xs'⟩ := p
    cases e2 : exch x y1 with
    | none => rw [swr_stop e e2] at h; cases h
    | some q =>
      obtain ⟨y3, x'⟩ := q
      rw [swr_cons e e2] at h
      cases h
      exact ⟨y1, xs', x', rfl, e2, rfl⟩
theorem swl_ok {bs ys bs' : List Ed} {y a : Ed} (h : swr bs y = .ok (a, bs')) : swl bs (y :: ys) = (swl bs' ys).ahead [a] := by
  show (match swr bs y with | .bad a b => Xr.bad a b | .ok (a, bs') => match swl bs' ys with | .bad a b => Xr.bad a b | .ok (as, b2) => Xr.ok (a :: as, b2)) = _
  rw [h]
  show (match swl bs' ys with | .bad a b => Xr.bad a b | .ok (as, b2) => Xr.ok (a :: as, b2)) = _
  cases swl bs' ys with
  | bad => rfl
  | ok p => rfl
theorem swl_stop {bs ys : List Ed} {y a b : Ed} (h : swr bs y = .bad a b) : swl bs (y :: ys) = .bad a b := by
  show (match swr bs y with | .bad a b => Xr.bad a b | .ok (a, bs') => match swl bs' ys with | .bad a b => Xr.bad a b | .ok (as, b2) => Xr.ok (a :: as, b2)) = _
  rw [h]
theorem Xr.ahead_ahead (as bs : List Ed) : ∀ r : Xr (List Ed × List Ed), (r.ahead bs).ahead as = r.ahead (as ++ bs)
  | .bad _ _ => rfl
  | .ok (c, d) => by
    show Xr.ok (as ++ (bs ++ c), d) = Xr.ok (as ++ bs ++ c, d)
    rw [List.append_assoc]
theorem swl_inv {bs ys as b2 : List Ed} {y : Ed} (h : swl bs (y :: ys) = .ok (as, b2)) : ∃ a bs' as', swr bs y = .ok (a, bs') ∧ swl bs' ys = .ok (as', b2) ∧ as = a :: as' := by
  cases e : swr bs y with
  | bad a b => rw [swl_stop e] at h; cases h
  | ok p =>
    obtain ⟨a, bs'⟩ := p
    rw [swl_ok e] at h
    cases e2 : swl bs' ys with
    | bad => rw [e2] at h; cases h
    | ok q =>
      obtain ⟨as', b3⟩ := q
      rw [e2] at h
      cases h
      exact ⟨a, bs', as', rfl, e2, rfl⟩
/-! ### what an exchange keeps -/
theorem exch_fits {sz : Int} {x y y' x' : Ed} (h0 : 0 ≤ sz) (f1 : fit1 sz x) (f2 : fit1 (nsz sz x) y) (h : exch x y = some (y', x')) : fit1 sz y' ∧ fit1 (nsz sz y') x' ∧ y'.n = y.n ∧ x'.n = x.n ∧ nsz (nsz sz y') x' = nsz (nsz sz x) y := by
  have hl : (((List.replicate sz.toNat (0 : Int)).length : Nat) : Int) = sz := by rw [List.length_replicate]; omega
  obtain ⟨_, g1, g2, e1, e2⟩ := exch_apr (l := List.replicate sz.toNat (0 : Int)) (cx := List.replicate x.n.length (0 : Int)) (cy := List.replicate y.n.length (0 : Int)) List.length_replicate List.length_replicate (by rw [hl]; exact f1) (by rw [hl]; exact f2) h
  rw [hl] at g1 g2
  refine ⟨g1, g2, e1, e2, ?_⟩
  unfold nsz
  rw [e1, e2]
  unfold exch at h
  split at h
  · cases h; dsimp only; omega
  · split at h
    · cases h; dsimp only; omega
    · cases h
theorem swr_fits : ∀ {xs : List Ed} {sz : Int} {y a : Ed} {bs : List Ed}, 0 ≤ sz → fits sz (xs ++ [y]) → swr xs y = .ok (a, bs) → fits sz (a :: bs) ∧ sza sz (a :: bs) = sza sz (xs ++ [y]) ∧ a.n = y.n ∧ bs.map Ed.n = xs.map Ed.n
  | [], sz, y, a, bs, h0, hf, h => by
    cases h
    exact ⟨hf, rfl, rfl, rfl⟩
  | x :: xs, sz, y, a, bs, h0, hf, h => by
    obtain ⟨y1, xs', x', e1, e2, rfl⟩ := swr_inv h
    have hn : 0 ≤ nsz sz x := by have := hf.1; unfold nsz; omega
    obtain ⟨g1, g2, g3, g4⟩ := swr_fits hn hf.2 e1
    obtain ⟨k1, k2, k3, k4, k5⟩ := exch_fits h0 hf.1 g1.1 e2
    refine ⟨⟨k1, k2, ?_⟩, ?_, k3.trans g3, ?_⟩
    · show fits (nsz (nsz sz a) x') xs'
      rw [k5]
      exact g1.2
    · show sza (nsz (nsz sz a) x') xs' = sza (nsz sz x) (xs ++ [y])
      rw [k5, ← g2]
      rfl
    · rw [List.map_cons, List.map_cons, k4, g4]
theorem swl_fits : ∀ {ys bs : List Ed} {sz : Int} {as b2 : List Ed}, 0 ≤ sz → fits sz (bs ++ ys) → swl bs ys = .ok (as, b2) → fits sz (as ++ b2) ∧ as.map Ed.n = ys.map Ed.n ∧ b2.map Ed.n = bs.map Ed.n
  | [], bs, sz, as, b2, h0, hf, h => by
    cases h
    rw [List.append_nil] at hf
    exact ⟨hf, rfl, rfl⟩
  | y :: ys, bs, sz, as, b2, h0, hf, h => by
    obtain ⟨a, bs', as', e1, e2, rfl⟩ := swl_inv h
    have e3 : bs ++ y :: ys = (bs ++ [y]) ++ ys := by simp
    rw [e3, fits_app] at hf
    obtain ⟨g1, g2, g3, g4⟩ := swr_fits h0 hf.1 e1
    have hn : 0 ≤ nsz sz a := by have := g1.1; unfold nsz; omega
    have hf2 : fits (nsz sz a) (bs' ++ ys) := by
      rw [fits_app]
      refine ⟨g1.2, ?_⟩
      have : sza (nsz sz a) bs' = sza sz (bs ++ [y]) := g2
      rw [this]
      exact hf.2
    obtain ⟨k1, k2, k3⟩ := swl_fits hn hf2 e2
    exact ⟨⟨g1.1, k1⟩, by rw [List.map_cons, List.map_cons, g3, k2], k3.trans g4⟩
/-! ### rows of things under lists of edits -/
def apw {α : Type} (l : List α) (ps : List (Ed × List α)) : List α := ps.foldl (fun l p => apr l p.1 p.2) l
theorem apw_app {α : Type} (l : List α) (ps qs : List (Ed × List α)) : apw l (ps ++ qs) = apw (apw l ps) qs := by
  unfold apw
  rw [List.foldl_append]
/-- the contents have the edits' lengths -/
inductive Cts {α : Type} : List Ed → List (List α) → Prop where
  | nil : Cts [] []
  | cons {x : Ed} {c : List α} {xs : List Ed} {cs : List (List α)} (h : c.length = x.n.length) (t : Cts xs cs) : Cts (x :: xs) (c :: cs)
theorem len_apr {α : Type} {l : List α} {x : Ed} {c : List α} (hc : c.length = x.n.length) (h : fit1 l.length x) : ((apr l x c).length : Int) = nsz l.length x := by
  obtain ⟨h1, h2, h3⟩ := h
  unfold apr apl nsz
  rw [List.length_append, List.length_append, List.length_take, List.length_drop, hc]
  omega
theorem len_apw {α : Type} : ∀ {xs : List Ed} {cs : List (List α)} {l : List α}, Cts xs cs → fits l.length xs → ((apw l (xs.zip cs)).length : Int) = sza l.length xs
  | _, _, l, .nil, _ => rfl
  | x :: xs, c :: cs, l, .cons h t, hf => by
    have e := len_apr h hf.1
    show ((apw (apr l x c) (xs.zip cs)).length : Int) = sza (nsz l.length x) xs
    rw [len_apw t (by rw [e]; exact hf.2), e]
theorem Cts.same {α : Type} : ∀ {xs ys : List Ed} {cs : List (List α)}, Cts xs cs → ys.map Ed.n = xs.map Ed.n → Cts ys cs
  | [], [], _, .nil, _ => .nil
  | [], _ :: _, _, .nil, e => by simp at e
  | _ :: _, [], _, .cons _ _, e => by simp at e
  | x :: xs, y :: ys, _, .cons h t, e => by
    rw [List.map_cons, List.map_cons] at e
    injection e with e1 e2
    exact .cons (by rw [e1]; exact h) (Cts.same t e2)
theorem swr_apw {α : Type} : ∀ {xs : List Ed} {cs : List (List α)} {l : List α} {y a : Ed} {c : List α} {bs : List Ed}, Cts xs cs → c.length = y.n.length → fits l.length (xs ++ [y]) → swr xs y = .ok (a, bs) → apr (apw l (xs.zip cs)) y c = apw (apr l a c) (bs.zip cs)
  | _, _, l, y, a, c, bs, .nil, hc, hf, h => by
    cases h
    rfl
  | x :: xs, cx :: cs, l, y, a, c, bs, .cons hx t, hc, hf, h => by
    obtain ⟨y1, xs', x', e1, e2, rfl⟩ := swr_inv h
    have hl := len_apr hx hf.1
    have hf2 : fits (apr l x cx).length (xs ++ [y]) := by rw [hl]; exact hf.2
    have ih := swr_apw t hc hf2 e1
    have hn : 0 ≤ nsz l.length x := by have := hf.1; unfold nsz; omega
    obtain ⟨g1, g2, g3, g4⟩ := swr_fits hn hf.2 e1
    obtain ⟨k, _, _, _, _⟩ := exch_apr (l := l) hx (cy := c) (by rw [g3]; exact hc) hf.1 g1.1 e2
    show apr (apw (apr l x cx) (xs.zip cs)) y c = apw (apr (apr l a c) x' cx) (xs'.zip cs)
    rw [ih, k]
theorem swl_apw {α : Type} : ∀ {ys bs : List Ed} {cy cb : List (List α)} {l : List α} {as b2 : List Ed}, Cts ys cy → Cts bs cb → fits l.length (bs ++ ys) → swl bs ys = .ok (as, b2) → apw (apw l (bs.zip cb)) (ys.zip cy) = apw (apw l (as.zip cy)) (b2.zip cb)
  | _, bs, _, cb, l, as, b2, .nil, hb, hf, h => by
    cases h
    rfl
  | y :: ys, bs, c :: cy, cb, l, as, b2, .cons hc t, hb, hf, h => by
    obtain ⟨a, bs', as', e1, e2, rfl⟩ := swl_inv h
    have e3 : bs ++ y :: ys = (bs ++ [y]) ++ ys := by simp
    rw [e3, fits_app] at hf
    have h0 : (0 : Int) ≤ (l.length : Int) := by omega
    obtain ⟨g1, g2, g3, g4⟩ := swr_fits h0 hf.1 e1
    have hl := len_apr (l := l) (x := a) (c := c) (by rw [g3]; exact hc) g1.1
    have hf2 : fits (apr l a c).length (bs' ++ ys) := by
      rw [hl, fits_app]
      refine ⟨g1.2, ?_⟩
      have : sza (nsz l.length a) bs' = sza l.length (bs ++ [y]) := g2
      rw [this]
      exact hf.2
    have ih := swl_apw t (hb.same g4) hf2 e2
    show apw (apr (apw l (bs.zip cb)) y c) (ys.zip cy) = apw (apw (apr l a c) (as'.zip cy)) (b2.zip cb)
    rw [swr_apw hb hc hf.1 e1, ih]
/-! ### labels -/
def lab (base k n : Nat) : List Int := (List.range n).map fun j => ((base + 1000 * k + j : Nat) : Int)
theorem lab_len (base k n : Nat) : (lab base k n).length = n := by
  unfold lab
  rw [List.length_map, List.length_range]
theorem lab_snoc (base k n : Nat) : lab base k (n + 1) = lab base k n ++ [((base + 1000 * k + n : Nat) : Int)] := by
  unfold lab
  rw [List.range_succ, List.map_append]
  rfl
/-- the contents, from the k-th on -/
def labs (base : Nat) : Nat → List Ed → List (List Int)
  | _, [] => []
  | k, x :: xs => lab base k x.n.length :: labs base (k + 1) xs
theorem labs_cts (base : Nat) : ∀ (k : Nat) (xs : List Ed), Cts xs (labs base k xs)
  | _, [] => .nil
  | k, x :: xs => .cons (lab_len ..) (labs_cts base (k + 1) xs)
theorem labs_same (base : Nat) : ∀ (k : Nat) {xs ys : List Ed}, ys.map Ed.n = xs.map Ed.n → labs base k ys = labs base k xs
  | _, [], [], _ => rfl
  | _, [], _ :: _, e => by simp at e
  | _, _ :: _, [], e => by simp at e
  | k, x :: xs, y :: ys, e => by
    rw [List.map_cons, List.map_cons] at e
    injection e with e1 e2
    show lab base k y.n.length :: labs base (k + 1) ys = lab base k x.n.length :: labs base (k + 1) xs
    rw [e1, labs_same base (k + 1) e2]
/-- a row numbered -/
def numd (base : Nat) (l : List Int) (es : List Ed) : List Int := apw l (es.zip (labs base 0 es))
theorem labs_snoc (base : Nat) : ∀ (k : Nat) (xs : List Ed) (x : Ed), labs base k (xs ++ [x]) = labs base k xs ++ [lab base (k + xs.length) x.n.length]
  | k, [], x => rfl
  | k, y :: xs, x => by
    show lab base k y.n.length :: labs base (k + 1) (xs ++ [x]) = lab base k y.n.length :: (labs base (k + 1) xs ++ [lab base (k + (xs.length + 1)) x.n.length])
    rw [labs_snoc base (k + 1) xs x]
    have : k + 1 + xs.length = k + (xs.length + 1) := by omega
    rw [this]
theorem labs_len (base : Nat) : ∀ (k : Nat) (xs : List Ed), (labs base k xs).length = xs.length
  | _, [] => rfl
  | k, x :: xs => by
    show (labs base (k + 1) xs).length + 1 = xs.length + 1
    rw [labs_len base (k + 1) xs]
theorem numd_snoc (base : Nat) (l : List Int) (es : List Ed) (x : Ed) : numd base l (es ++ [x]) = apr (numd base l es) x (lab base es.length x.n.length) := by
  unfold numd
  rw [labs_snoc, List.zip_append (labs_len base 0 es).symm, apw_app, Nat.zero_add]
  rfl
theorem len_numd {base : Nat} {l : List Int} {es : List Ed} (h : fits l.length es) : ((numd base l es).length : Int) = sza l.length es := len_apw (labs_cts base 0 es) h
/-- the law of the numbered rows -/
theorem swl_numd {l : List Int} {bs ys as b2 : List Ed} {b c : Nat} (hf : fits l.length (bs ++ ys)) (h : swl bs ys = .ok (as, b2)) : numd b (numd c l as) b2 = numd c (numd b l bs) ys := by
  have h0 : (0 : Int) ≤ (l.length : Int) := by omega
  obtain ⟨_, k2, k3⟩ := swl_fits h0 hf h
  unfold numd
  rw [swl_apw (labs_cts c 0 ys) (labs_cts b 0 bs) hf h, labs_same c 0 k2, labs_same b 0 k3]
/-! ### lists of edits moved to the right -/
def mvd (b : Int) (x : Ed) : Ed := ⟨x.s + b, x.e + b, x.n⟩
theorem fits_mvd {b : Int} (hb : 0 ≤ b) : ∀ {es : List Ed} {n : Int}, fits n es → fits (n + b) (es.map (mvd b)) ∧ sza (n + b) (es.map (mvd b)) = sza n es + b
  | [], n, _ => ⟨trivial, rfl⟩
  | x :: es, n, h => by
    have e : nsz (n + b) (mvd b x) = nsz n x + b := by unfold nsz mvd; dsimp only; omega
    obtain ⟨g1, g2⟩ := fits_mvd hb h.2
    have h1 := h.1
    refine ⟨⟨⟨?_, ?_, ?_⟩, ?_⟩, ?_⟩
    · show 0 ≤ x.s + b; omega
    · show x.s + b ≤ x.e + b; omega
    · show x.e + b ≤ n + b; omega
    · show fits (nsz (n + b) (mvd b x)) (es.map (mvd b))
      rw [e]
      exact g1
    · show sza (nsz (n + b) (mvd b x)) (es.map (mvd b)) = sza (nsz n x) es + b
      rw [e]
      exact g2
theorem sza_more (d : Int) : ∀ (es : List Ed) (n : Int), sza (n + d) es = sza n es + d
  | [], n => rfl
  | x :: es, n => by
    show sza (nsz (n + d) x) es = sza (nsz n x) es + d
    rw [show nsz (n + d) x = nsz n x + d by unfold nsz; omega]
    exact sza_more d es _
theorem fits_mem : ∀ {es : List Ed} {sz : Int}, fits sz es → (∀ x ∈ es, x.n.length ≤ 2000) → ∀ x ∈ es, 0 ≤ x.s ∧ x.s ≤ x.e ∧ x.e ≤ sz + 2000 * es.length
  | [], _, _, _, x, hx => nomatch hx
  | y :: es, sz, h, hn, x, hx => by
    have h1 := h.1
    have h2 := hn y (List.mem_cons_self ..)
    rw [List.length_cons]
    rcases List.mem_cons.mp hx with e | hx
    · rw [e]; omega
    · have := fits_mem h.2 (fun z hz => hn z (List.mem_cons_of_mem _ hz)) x hx
      unfold nsz at this
      omega
theorem exch_n {x y y' x' : Ed} (h : exch x y = some (y', x')) : y'.n = y.n ∧ x'.n = x.n := by
  unfold exch at h
  split at h
  · cases h; exact ⟨rfl, rfl⟩
  · split at h
    · cases h; exact ⟨rfl, rfl⟩
    · cases h
theorem swr_names2 : ∀ {xs : List Ed} {y a : Ed} {bs : List Ed}, swr xs y = .ok (a, bs) → bs.map Ed.n = xs.map Ed.n
  | [], _, _, _, h => by cases h; rfl
  | x :: xs, y, a, bs, h => by
    obtain ⟨y1, xs', x', e1, e2, rfl⟩ := swr_inv h
    rw [List.map_cons, List.map_cons, swr_names2 e1, (exch_n e2).2]
theorem swr_names : ∀ {xs : List Ed} {y a : Ed} {bs : List Ed}, swr xs y = .ok (a, bs) → a.n = y.n
  | [], _, _, _, h => by cases h; rfl
  | x :: xs, y, a, bs, h => by
    obtain ⟨y1, xs', x', e1, e2, rfl⟩ := swr_inv h
    rw [(exch_n e2).1, swr_names e1]
theorem swr_bad_n : ∀ {xs : List Ed} {y a b : Ed}, swr xs y = .bad a b → (∃ x ∈ xs, a.n = x.n) ∧ b.n = y.n
  | [], _, _, _, h => by cases h
  | x :: xs, y, a, b, h => by
    cases e : swr xs y with
    | bad a' b' =>
      have : swr (x :: xs) y = .bad a' b' := swr_bad (xs := [x]) e
      rw [this] at h
      cases h
      obtain ⟨⟨z, hz, e1⟩, e2⟩ := swr_bad_n e
      exact ⟨⟨z, List.mem_cons_of_mem _ hz, e1⟩, e2⟩
    | ok p =>
      obtain ⟨y1, xs'⟩ := p
      have hn : y1.n = y.n := swr_names e
      cases e2 : exch x y1 with
      | none =>
        rw [swr_stop e e2] at h
        cases h
        exact ⟨⟨_, List.mem_cons_self .., rfl⟩, hn⟩
      | some q =>
        obtain ⟨y2, x'⟩ := q
        rw [swr_cons e e2] at h
        cases h
theorem swl_bad_n : ∀ {ys bs : List Ed} {a b : Ed}, swl bs ys = .bad a b → (∃ x ∈ bs, a.n = x.n) ∧ ∃ y ∈ ys, b.n = y.n
  | [], _, _, _, h => by cases h
  | y :: ys, bs, a, b, h => by
    cases e : swr bs y with
    | bad a' b' =>
      rw [swl_stop e] at h
      cases h
      obtain ⟨h1, h2⟩ := swr_bad_n e
      exact ⟨h1, _, List.mem_cons_self .., h2⟩
    | ok p =>
      obtain ⟨c, bs'⟩ := p
      rw [swl_ok e] at h
      cases e2 : swl bs' ys with
      | bad a' b' =>
        rw [e2] at h
        cases h
        obtain ⟨⟨x, hx, h1⟩, y2, hy, h2⟩ := swl_bad_n e2
        have hm : x.n ∈ bs.map Ed.n := by rw [← swr_names2 e]; exact List.mem_map_of_mem hx
        obtain ⟨x2, hx2, h3⟩ := List.mem_map.mp hm
        exact ⟨⟨x2, hx2, by rw [h3]; exact h1⟩, y2, List.mem_cons_of_mem _ hy, h2⟩
      | ok q => rw [e2] at h; cases h
end Z
namespace Z
open PySem PySem.Spec L2
/-! ## a loop downwards, stores within a tuple's target -/
section
variable {g : TG} {tb : TS} {nx : L2.St → Hp → Prop} {rt : VK} {bk ct : L2.St → Hp → Prop} {σ : L2.St} {H : Hp} {ta tb' : TE} {tas : TA} {v : V} {R : L2.St → Hp → Prop}
theorem rForR3 (h : tas σ H fun as H1 => ∃ (i j c : Int) (n : Nat), as = [.int i, .int j, .int c] ∧ RgC i j c n ∧ loopJ (Itc i c n) g tb nx rt σ H1) : tFor (iRng3 tas) g tb ⟨nx, rt, bk, ct⟩ σ H := h
theorem rRgD {i j : Int} {R : Int → Int → Nat → Prop} (b : -(2 ^ 62) ≤ i ∧ i < 2 ^ 62 ∧ -(2 ^ 62) ≤ j ∧ j < 2 ^ 62) (h : R i (-1) (i - j).toNat) : ∃ (i' j' c : Int) (n : Nat), [V.int i, V.int j, V.int (-1)] = [.int i', .int j', .int c] ∧ RgC i' j' c n ∧ R i' c n :=
  ⟨i, j, -1, _, rfl, RgC.neg b.1 b.2.1 b.2.2.1 b.2.2.2, h⟩
theorem loopC_by {lo c : Int} {n : Nat} (Pv : Nat → L2.St → Hp → Prop) (h0 : Pv 0 σ H)
    (hs : ∀ (i : Nat) σ H, i < n → Pv i σ H → g (.int (lo + (i : Int) * c)) σ H fun σ2 H2 => tb ⟨Pv (i + 1), rt, nx, Pv (i + 1)⟩ σ2 H2) (hd : ∀ σ H, Pv n σ H → nx σ H) : loopJ (Itc lo c n) g tb nx rt σ H :=
  for_rangeC (D := ⟨nx, rt, fun _ _ => False, fun _ _ => False⟩) Pv h0 hs hd
theorem gS {r : TSet} (h : ta σ H fun o H2 => tb' σ H2 fun k H3 => r o k v H3 fun H4 => R σ H4) : gSub ta tb' r v σ H R := h
end
theorem Paired.set {α β : Type} {F : α → β → Prop} : ∀ {xs : List α} {ys : List β} {x : α} {y : β} (k : Nat), Paired F xs ys → F x y → Paired F (xs.set k x) (ys.set k y)
  | _, _, _, _, _, .nil, _ => .nil
  | _, _, _, _, 0, .cons _ t, r => .cons r t
  | _, _, _, _, k + 1, .cons h t, r => .cons h (Paired.set k t r)
/-- the item ahead of the rest is replaced -/
theorem take_set {α : Type} {xs ws : List α} {k : Nat} {x y : α} (h : xs[k]? = some x) : (xs.take (k + 1) ++ ws).set k y = xs.take k ++ y :: ws := by
  obtain ⟨h1, e⟩ := List.getElem?_eq_some_iff.mp h
  rw [take_snoc h, List.append_assoc, List.set_append_right _ _ (by rw [List.length_take]; omega)]
  have : k - (xs.take k).length = 0 := by rw [List.length_take]; omega
  rw [this]
  rfl
theorem ixN_pos {n : Nat} {i : Int} {k : Nat} (e : i = (k : Int)) (h : k < n) : ixN n i = some k := by
  subst e
  unfold ixN
  rw [if_pos (by omega), if_pos (by omega)]
  rfl
/-- a list, one of its own made before -/
theorem Same.put {H H1 H2 : Hp} {l : Addr} (s0 : Same H H1) (n : H l = none) (s : SL l H1 H2) : Same H H2 := SL.same s0 s n
end Z
namespace Z
open PySem PySem.Spec L2
local macro_rules | `(tactic| walk_at "ne") => `(tactic| first
  | with_reducible assumption
  | with_reducible exact Ne.symm (by assumption)
  | exact Frs.ne (by with_reducible assumption) (by walk_at "hp")
  | exact Frs.ne' (by with_reducible assumption) (by walk_at "hp"))
local macro_rules | `(tactic| walk_at "hp") => `(tactic| first
  | with_reducible assumption
  | (with_reducible refine Same.at (by assumption) ?_; walk_at "hp")
  | (with_reducible refine SL.tup (by assumption) ?_; walk_at "hp")
  | (with_reducible refine SL.at (by assumption) (by walk_at "ne") ?_; walk_at "hp"))
local macro_rules | `(tactic| walk_at "sz") => `(tactic| first
  | with_reducible assumption
  | exact Nat.le_of_ble_eq_true rfl
  | (refine sz_le ?_; omega)
  | (refine sz_lt ?_; omega)
  | decide +kernel)
local macro_rules | `(tactic| walk_at "at") => `(tactic| first
  | with_reducible assumption
  | with_reducible exact at0
  | with_reducible exact at1
  | with_reducible exact at2
  | with_reducible exact ixN0)
local macro_rules | `(tactic| walk_at "nn") => `(tactic| first
  | omega
  | decide
  | exact ⟨by decide, by decide⟩
  | exact ⟨by omega, by omega⟩
  | exact ⟨by omega, by omega, by omega, by omega⟩)
local macro_rules | `(tactic| walk_at "rdv") => `(tactic| first
  | (with_reducible refine add_int ?_)
  | (with_reducible refine sub_int ?_)
  | (with_reducible refine neg_int ?_)
  | ((with_reducible refine ix_tpl (xs := ?xs) (v := ?v) ?h1 ?h2 ?_); (case h1 => walk_at "hp"); (case h2 => walk_at "at"))
  | ((with_reducible refine ix_lst (xs := ?xs) (v := ?v) ?h1 ?h2 ?_); (case h1 => walk_at "hp"); (case h2 => walk_at "at"))
  | (with_reducible refine eq_int ?_)
  | (with_reducible refine ne_int ?_)
  | (with_reducible refine lt_int ?_)
  | (with_reducible refine le_int ?_)
  | (with_reducible refine gt_int ?_)
  | (with_reducible refine ge_int ?_)
  | (with_reducible refine eq_str ?_)
  | (with_reducible refine ne_str ?_)
  | (with_reducible refine eq_bl ?_)
  | (with_reducible refine ne_bl ?_)
  | ((with_reducible refine mod_int ?hc ?_); (case hc => walk_at "nn"))
  | ((with_reducible refine div_int ?hc ?_); (case hc => walk_at "nn"))
  | ((with_reducible refine mul_intR ?hc ?_); (case hc => exact ⟨by decide, by decide⟩))
  | ((with_reducible refine mul_intR ?hc ?_); (case hc => exact ⟨by omega, by omega⟩))
  | ((with_reducible refine mul_intL ?hc ?_); (case hc => exact ⟨by omega, by omega⟩))
  | ((with_reducible refine pow_int ?hc ?_); (case hc => exact ⟨by decide, by decide, by decide⟩))
  | ((with_reducible refine add_str ?hc ?_); (case hc => walk_at "sz"))
  | ((with_reducible refine add_lst (xs := ?xs) (ys := ?ys) ?h1 ?h2 ?hc ?_); (case h1 => walk_at "hp"); (case h2 => walk_at "hp"); (case hc => walk_at "sz"))
  | ((with_reducible refine sl_strU ?hc ?_); (case hc => walk_at "sz"))
  | ((with_reducible refine sl_lst (xs := ?xs) ?h1 ?_); (case h1 => walk_at "hp"))
  | (with_reducible refine is_bl ?_)
  | (with_reducible refine isnt_bl ?_)
  | (with_reducible refine is_non ?_)
  | (with_reducible refine isnt_non ?_))
local macro_rules | `(tactic| walk_at "rdc") => `(tactic| first
  | ((with_reducible refine len_lst (xs := ?xs) ?h1 ?_); (case h1 => walk_at "hp"))
  | ((with_reducible refine len_tup (xs := ?xs) ?h1 ?_); (case h1 => walk_at "hp"))
  | ((with_reducible refine len_str ?hc ?_); (case hc => walk_at "sz"))
  | (with_reducible refine int_int ?_)
  | (with_reducible refine max_int ?_)
  | (with_reducible refine min_int ?_)
  | (with_reducible refine abs_int ?_)
  | (with_reducible refine isi_ii ?_)
  | (with_reducible refine isi_ib ?_)
  | (with_reducible refine isi_ss ?_)
  | (with_reducible refine isi_bb ?_)
  | ((with_reducible refine isi_tt (xs := ?xs) ?h1 ?_); (case h1 => walk_at "hp"))
  | ((with_reducible refine isi_ll (xs := ?xs) ?h1 ?_); (case h1 => walk_at "hp"))
  | ((with_reducible refine list_lst (xs := ?xs) ?h1 ?_); (case h1 => walk_at "hp"))
  | ((with_reducible refine list_tup (xs := ?xs) ?h1 ?_); (case h1 => walk_at "hp"))
  | ((with_reducible refine tuple_lst (xs := ?xs) ?h1 ?_); (case h1 => walk_at "hp"))
  | ((with_reducible refine tuple_tup (xs := ?xs) ?h1 ?_); (case h1 => walk_at "hp"))
  | ((with_reducible refine append_lst (xs := ?xs) ?h1 ?hc ?_); (case h1 => walk_at "hp"); (case hc => walk_at "sz"))
  | ((with_reducible refine clear_lst (xs := ?xs) ?h1 ?_); (case h1 => walk_at "hp"))
  | ((with_reducible refine set_lst (xs := ?xs) (k := ?k) ?h1 ?h2 ?_); (case h1 => walk_at "hp"); (case h2 => walk_at "at")))
local macro_rules | `(tactic| walk_at "rd1") => `(tactic| first
  | ((with_reducible refine rVar (v := ?v) ?h ?_); (case h => exact rfl))
  | (with_reducible refine rC ?_)
  | (with_reducible refine rCons ?_)
  | (with_reducible refine rNil ?_)
  | (with_reducible refine rOp ?_)
  | (with_reducible refine rSeq ?_)
  | (with_reducible refine rAsgN ?_)
  | (with_reducible refine rAsgT ?_)
  | (with_reducible refine rAsgS ?_)
  | (with_reducible refine rTest ?_)
  | (with_reducible refine rBl ?_)
  | (with_reducible refine rBl' ?_)
  | (with_reducible refine rInt ?_)
  | (with_reducible refine rInt' ?_)
  | (with_reducible refine rCall ?_)
  | (with_reducible refine rCB ?_)
  | (with_reducible refine rRet ?_)
  | (with_reducible refine rDrop ?_)
  | (with_reducible refine rIfS ?_)
  | (with_reducible refine rTup ?_)
  | (with_reducible refine rLst ?_)
  | (with_reducible refine ⟨Nat.le_of_ble_eq_true rfl, ?_⟩)
  | (with_reducible refine rSl ?_)
  | (with_reducible refine rPart ?_)
  | (with_reducible refine rNoPart ?_)
  | (with_reducible refine rBM ?_)
  | (with_reducible refine rBM0 ?_)
  | ((with_reducible refine tyL (xs := ?xs) ?h1 ?_); (case h1 => walk_at "hp"))
  | (with_reducible refine rM1 ?_)
  | (with_reducible refine rM0 ?_)
  | (with_reducible refine rStr ?_)
  | (with_reducible refine rTru ?_)
  | (with_reducible refine tru_bl ?_)
  | (with_reducible refine tru_int ?_)
  | ((with_reducible refine tru_lst (xs := ?xs) ?h1 ?_); (case h1 => walk_at "hp"))
  | ((with_reducible refine tru_tup (xs := ?xs) ?h1 ?_); (case h1 => walk_at "hp"))
  | ((with_reducible refine tru_str ?hc ?_); (case hc => walk_at "sz"))
  | (with_reducible refine rAnd ?_)
  | (with_reducible refine rOr ?_)
  | (with_reducible refine rNot ?_)
  | (with_reducible refine rAndV ?_)
  | (with_reducible refine rOrV ?_)
  | (with_reducible refine rNotV ?_)
  | (with_reducible refine rIfE ?_)
  | (with_reducible refine rChain ?_)
  | (with_reducible refine rChain3 ?_)
  | (with_reducible refine ifT ?_)
  | (with_reducible refine ifF ?_)
  | (with_reducible refine ifNF ?_)
  | (with_reducible refine ifNT ?_)
  | (with_reducible refine rNext ?_)
  | (with_reducible refine rBrk ?_)
  | (with_reducible refine rCnt ?_)
  | (with_reducible refine rRetN ?_)
  | (with_reducible refine rForR1 ?_)
  | (with_reducible refine rForR2 ?_)
  | (with_reducible refine rForL ?_)
  | ((with_reducible refine rRg1 ?hb ?_); (case hb => walk_at "nn"))
  | ((with_reducible refine rRg2 ?hb ?_); (case hb => walk_at "nn"))
  | ((with_reducible refine rRf (xs := ?xs) ?h1 ?_); (case h1 => walk_at "hp"))
  | (with_reducible refine rLcR1 ?_)
  | (with_reducible refine rLcR2 ?_)
  | (with_reducible refine rLcL ?_)
  | (with_reducible refine gN ?_)
  | (with_reducible refine gNl ?_)
  | (with_reducible refine gC ?_)
  | ((with_reducible refine gT (xs := ?xs) ?h1 ?h2 ?_); (case h1 => walk_at "hp"); (case h2 => exact rfl))
  | (with_reducible refine rUn ?_)
  | walk_at "rdv"
  | walk_at "rdc")
local macro_rules | `(tactic| walk_at "rd") => `(tactic| repeat walk_at "rd1")

def top (i : Nat) : Stmt := PySem.Challenge.pw_mendedtree_k61_swap_lists.main.body.getD i (.Pass ⟨0, 0, 0, 0⟩)
abbrev s_EditError___init__ : Stmt := (inClass (top 2) 0)
abbrev s_Entangled___init__ : Stmt := (inClass (top 3) 0)
abbrev s_swap : Stmt := top 5
abbrev s_swap_lists : Stmt := top 6
abbrev s_law_reel : Stmt := top 8
abbrev s_law_draw : Stmt := top 9
abbrev s_law_pick : Stmt := top 10
abbrev s_law_word : Stmt := top 11
abbrev s_law_number : Stmt := top 12
abbrev s_law_signs : Stmt := top 13
abbrev s_law_stepped : Stmt := top 14
abbrev s_law_new : Stmt := top 15
abbrev s_law_edit_row : Stmt := top 16
abbrev s_law_splice : Stmt := top 17
abbrev s_law_same_edit : Stmt := top 18
abbrev s_law_same_edits : Stmt := top 19
abbrev s_law_exchanged : Stmt := top 20
abbrev s_law_due : Stmt := top 21
abbrev s_law_told : Stmt := top 22
abbrev s_law_numbered : Stmt := top 23
abbrev s_law_lists_ok : Stmt := top 24
abbrev s_law_same_row : Stmt := top 25
abbrev s_law_asked : Stmt := top 26
abbrev s_law_moved : Stmt := top 27
abbrev s_law : Stmt := top 28
theorem sc_swap : FnScope ["first", "second", "a", "b", "s", "c", "d", "t", "shift"] ["first", "second"] (C8.fnScope s_swap) := C8.fnScope_by (by decide +kernel)
theorem sc_swap_lists : FnScope ["first", "second", "behind", "ahead", "edit", "moved", "index"] ["first", "second"] (C8.fnScope s_swap_lists) := C8.fnScope_by (by decide +kernel)
theorem sc_law_reel : FnScope ["script", "reel", "k", "cell", "rest", "turn", "mixed"] ["script"] (C8.fnScope s_law_reel) := C8.fnScope_by (by decide +kernel)
theorem sc_law_draw : FnScope ["reel", "size", "count", "at"] ["reel", "size"] (C8.fnScope s_law_draw) := C8.fnScope_by (by decide +kernel)
theorem sc_law_pick : FnScope ["reel", "row"] ["reel", "row"] (C8.fnScope s_law_pick) := C8.fnScope_by (by decide +kernel)
theorem sc_law_word : FnScope ["reel", "letters", "least", "most", "k"] ["reel", "letters", "least", "most"] (C8.fnScope s_law_word) := C8.fnScope_by (by decide +kernel)
theorem sc_law_number : FnScope ["value"] ["value"] (C8.fnScope s_law_number) := C8.fnScope_by (by decide +kernel)
theorem sc_law_signs : FnScope ["signs"] [] (C8.fnScope s_law_signs) := C8.fnScope_by (by decide +kernel)
theorem sc_law_stepped : FnScope ["reel", "size", "letters", "first", "step", "k"] ["reel", "size"] (C8.fnScope s_law_stepped) := C8.fnScope_by (by decide +kernel)
theorem sc_law_new : FnScope ["reel", "size"] ["reel"] (C8.fnScope s_law_new) := C8.fnScope_by (by decide +kernel)
theorem sc_law_edit_row : FnScope ["reel", "text", "count", "edits", "now", "near", "turn", "form", "start", "end", "new"] ["reel", "text", "count"] (C8.fnScope s_law_edit_row) := C8.fnScope_by (by decide +kernel)
theorem sc_law_splice : FnScope ["text", "edits", "now", "edit"] ["text", "edits"] (C8.fnScope s_law_splice) := C8.fnScope_by (by decide +kernel)
theorem sc_law_same_edit : FnScope ["told", "due"] ["told", "due"] (C8.fnScope s_law_same_edit) := C8.fnScope_by (by decide +kernel)
theorem sc_law_same_edits : FnScope ["told", "due", "k"] ["told", "due"] (C8.fnScope s_law_same_edits) := C8.fnScope_by (by decide +kernel)
theorem sc_law_exchanged : FnScope ["first", "second", "by"] ["first", "second"] (C8.fnScope s_law_exchanged) := C8.fnScope_by (by decide +kernel)
theorem sc_law_due : FnScope ["first", "second", "behind", "ahead", "edit", "moved", "k", "at", "pair"] ["first", "second"] (C8.fnScope s_law_due) := C8.fnScope_by (by decide +kernel)
theorem sc_law_told : FnScope ["first", "second", "told", "e"] ["first", "second"] (C8.fnScope s_law_told) := C8.fnScope_by (by decide +kernel)
theorem sc_law_numbered : FnScope ["row", "edits", "base", "now", "k", "put", "j"] ["row", "edits", "base"] (C8.fnScope s_law_numbered) := C8.fnScope_by (by decide +kernel)
theorem sc_law_lists_ok : FnScope ["told", "due"] ["told", "due"] (C8.fnScope s_law_lists_ok) := C8.fnScope_by (by decide +kernel)
theorem sc_law_same_row : FnScope ["size", "first", "second", "due", "row", "old_way", "k"] ["size", "first", "second", "due"] (C8.fnScope s_law_same_row) := C8.fnScope_by (by decide +kernel)
theorem sc_law_asked : FnScope ["size", "first", "second", "due", "handed", "told", "changed"] ["size", "first", "second"] (C8.fnScope s_law_asked) := C8.fnScope_by (by decide +kernel)
theorem sc_law_moved : FnScope ["edits", "by", "edit"] ["edits", "by"] (C8.fnScope s_law_moved) := C8.fnScope_by (by decide +kernel)
theorem sc_law : FnScope ["script", "reel", "form", "counts", "text", "cut", "first", "second"] ["script"] (C8.fnScope s_law) := C8.fnScope_by (by decide +kernel)
structure Txt (mg : Str → Option Value) : Prop where
  n_ValueError : mg "ValueError" = none
  n_abs : mg "abs" = none
  n_bool : mg "bool" = none
  n_int : mg "int" = none
  n_isinstance : mg "isinstance" = none
  n_len : mg "len" = none
  n_list : mg "list" = none
  n_max : mg "max" = none
  n_min : mg "min" = none
  n_range : mg "range" = none
  n_str : mg "str" = none
  n_sum : mg "sum" = none
  n_tuple : mg "tuple" = none
end Z
namespace Z
open PySem PySem.Spec L2
local macro_rules | `(tactic| walk_at "ne") => `(tactic| first
  | with_reducible assumption
  | with_reducible exact Ne.symm (by assumption)
  | exact Frs.ne (by with_reducible assumption) (by walk_at "hp")
  | exact Frs.ne' (by with_reducible assumption) (by walk_at "hp"))
local macro_rules | `(tactic| walk_at "hp") => `(tactic| first
  | with_reducible assumption
  | (with_reducible refine Same.at (by assumption) ?_; walk_at "hp")
  | (with_reducible refine SL.tup (by assumption) ?_; walk_at "hp")
  | (with_reducible refine SL.at (by assumption) (by walk_at "ne") ?_; walk_at "hp"))
local macro_rules | `(tactic| walk_at "sz") => `(tactic| first
  | with_reducible assumption
  | exact Nat.le_of_ble_eq_true rfl
  | (refine sz_le ?_; omega)
  | (refine sz_lt ?_; omega)
  | decide +kernel)
local macro_rules | `(tactic| walk_at "at") => `(tactic| first
  | with_reducible assumption
  | with_reducible exact at0
  | with_reducible exact at1
  | with_reducible exact at2
  | with_reducible exact ixN0)
local macro_rules | `(tactic| walk_at "nn") => `(tactic| first
  | omega
  | decide
  | exact ⟨by decide, by decide⟩
  | exact ⟨by omega, by omega⟩
  | exact ⟨by omega, by omega, by omega, by omega⟩)
local macro_rules | `(tactic| walk_at "rdv") => `(tactic| first
  | (with_reducible refine add_int ?_)
  | (with_reducible refine sub_int ?_)
  | (with_reducible refine neg_int ?_)
  | ((with_reducible refine ix_tpl (xs := ?xs) (v := ?v) ?h1 ?h2 ?_); (case h1 => walk_at "hp"); (case h2 => walk_at "at"))
  | ((with_reducible refine ix_lst (xs := ?xs) (v := ?v) ?h1 ?h2 ?_); (case h1 => walk_at "hp"); (case h2 => walk_at "at"))
  | (with_reducible refine eq_int ?_)
  | (with_reducible refine ne_int ?_)
  | (with_reducible refine lt_int ?_)
  | (with_reducible refine le_int ?_)
  | (with_reducible refine gt_int ?_)
  | (with_reducible refine ge_int ?_)
  | (with_reducible refine eq_str ?_)
  | (with_reducible refine ne_str ?_)
  | (with_reducible refine eq_bl ?_)
  | (with_reducible refine ne_bl ?_)
  | ((with_reducible refine mod_int ?hc ?_); (case hc => walk_at "nn"))
  | ((with_reducible refine div_int ?hc ?_); (case hc => walk_at "nn"))
  | ((with_reducible refine mul_intR ?hc ?_); (case hc => exact ⟨by decide, by decide⟩))
  | ((with_reducible refine mul_intR ?hc ?_); (case hc => exact ⟨by omega, by omega⟩))
  | ((with_reducible refine mul_intL ?hc ?_); (case hc => exact ⟨by omega, by omega⟩))
  | ((with_reducible refine pow_int ?hc ?_); (case hc => exact ⟨by decide, by decide, by decide⟩))
  | ((with_reducible refine add_str ?hc ?_); (case hc => walk_at "sz"))
  | ((with_reducible refine add_lst (xs := ?xs) (ys := ?ys) ?h1 ?h2 ?hc ?_); (case h1 => walk_at "hp"); (case h2 => walk_at "hp"); (case hc => walk_at "sz"))
  | ((with_reducible refine sl_strU ?hc ?_); (case hc => walk_at "sz"))
  | ((with_reducible refine sl_lst (xs := ?xs) ?h1 ?_); (case h1 => walk_at "hp"))
  | (with_reducible refine is_bl ?_)
  | (with_reducible refine isnt_bl ?_)
  | (with_reducible refine is_non ?_)
  | (with_reducible refine isnt_non ?_))
local macro_rules | `(tactic| walk_at "rdc") => `(tactic| first
  | ((with_reducible refine len_lst (xs := ?xs) ?h1 ?_); (case h1 => walk_at "hp"))
  | ((with_reducible refine len_tup (xs := ?xs) ?h1 ?_); (case h1 => walk_at "hp"))
  | ((with_reducible refine len_str ?hc ?_); (case hc => walk_at "sz"))
  | (with_reducible refine int_int ?_)
  | (with_reducible refine max_int ?_)
  | (with_reducible refine min_int ?_)
  | (with_reducible refine abs_int ?_)
  | (with_reducible refine isi_ii ?_)
  | (with_reducible refine isi_ib ?_)
  | (with_reducible refine isi_ss ?_)
  | (with_reducible refine isi_bb ?_)
  | ((with_reducible refine isi_tt (xs := ?xs) ?h1 ?_); (case h1 => walk_at "hp"))
  | ((with_reducible refine isi_ll (xs := ?xs) ?h1 ?_); (case h1 => walk_at "hp"))
  | ((with_reducible refine list_lst (xs := ?xs) ?h1 ?_); (case h1 => walk_at "hp"))
  | ((with_reducible refine list_tup (xs := ?xs) ?h1 ?_); (case h1 => walk_at "hp"))
  | ((with_reducible refine tuple_lst (xs := ?xs) ?h1 ?_); (case h1 => walk_at "hp"))
  | ((with_reducible refine tuple_tup (xs := ?xs) ?h1 ?_); (case h1 => walk_at "hp"))
  | ((with_reducible refine append_lst (xs := ?xs) ?h1 ?hc ?_); (case h1 => walk_at "hp"); (case hc => walk_at "sz"))
  | ((with_reducible refine clear_lst (xs := ?xs) ?h1 ?_); (case h1 => walk_at "hp"))
  | ((with_reducible refine set_lst (xs := ?xs) (k := ?k) ?h1 ?h2 ?_); (case h1 => walk_at "hp"); (case h2 => walk_at "at")))
local macro_rules | `(tactic| walk_at "rd1") => `(tactic| first
  | ((with_reducible refine rVar (v := ?v) ?h ?_); (case h => exact rfl))
  | (with_reducible refine rC ?_)
  | (with_reducible refine rCons ?_)
  | (with_reducible refine rNil ?_)
  | (with_reducible refine rOp ?_)
  | (with_reducible refine rSeq ?_)
  | (with_reducible refine rAsgN ?_)
  | (with_reducible refine rAsgT ?_)
  | (with_reducible refine rAsgS ?_)
  | (with_reducible refine rTest ?_)
  | (with_reducible refine rBl ?_)
  | (with_reducible refine rBl' ?_)
  | (with_reducible refine rInt ?_)
  | (with_reducible refine rInt' ?_)
  | (with_reducible refine rCall ?_)
  | (with_reducible refine rCB ?_)
  | (with_reducible refine rRet ?_)
  | (with_reducible refine rDrop ?_)
  | (with_reducible refine rIfS ?_)
  | (with_reducible refine rTup ?_)
  | (with_reducible refine rLst ?_)
  | (with_reducible refine ⟨Nat.le_of_ble_eq_true rfl, ?_⟩)
  | (with_reducible refine rSl ?_)
  | (with_reducible refine rPart ?_)
  | (with_reducible refine rNoPart ?_)
  | (with_reducible refine rBM ?_)
  | (with_reducible refine rBM0 ?_)
  | ((with_reducible refine tyL (xs := ?xs) ?h1 ?_); (case h1 => walk_at "hp"))
  | (with_reducible refine rM1 ?_)
  | (with_reducible refine rM0 ?_)
  | (with_reducible refine rStr ?_)
  | (with_reducible refine rTru ?_)
  | (with_reducible refine tru_bl ?_)
  | (with_reducible refine tru_int ?_)
  | ((with_reducible refine tru_lst (xs := ?xs) ?h1 ?_); (case h1 => walk_at "hp"))
  | ((with_reducible refine tru_tup (xs := ?xs) ?h1 ?_); (case h1 => walk_at "hp"))
  | ((with_reducible refine tru_str ?hc ?_); (case hc => walk_at "sz"))
  | (with_reducible refine rAnd ?_)
  | (with_reducible refine rOr ?_)
  | (with_reducible refine rNot ?_)
  | (with_reducible refine rAndV ?_)
  | (with_reducible refine rOrV ?_)
  | (with_reducible refine rNotV ?_)
  | (with_reducible refine rIfE ?_)
  | (with_reducible refine rChain ?_)
  | (with_reducible refine rChain3 ?_)
  | (with_reducible refine ifT ?_)
  | (with_reducible refine ifF ?_)
  | (with_reducible refine ifNF ?_)
  | (with_reducible refine ifNT ?_)
  | (with_reducible refine rNext ?_)
  | (with_reducible refine rBrk ?_)
  | (with_reducible refine rCnt ?_)
  | (with_reducible refine rRetN ?_)
  | (with_reducible refine rForR1 ?_)
  | (with_reducible refine rForR2 ?_)
  | (with_reducible refine rForL ?_)
  | ((with_reducible refine rRg1 ?hb ?_); (case hb => walk_at "nn"))
  | ((with_reducible refine rRg2 ?hb ?_); (case hb => walk_at "nn"))
  | ((with_reducible refine rRf (xs := ?xs) ?h1 ?_); (case h1 => walk_at "hp"))
  | (with_reducible refine rLcR1 ?_)
  | (with_reducible refine rLcR2 ?_)
  | (with_reducible refine rLcL ?_)
  | (with_reducible refine gN ?_)
  | (with_reducible refine gNl ?_)
  | (with_reducible refine gC ?_)
  | ((with_reducible refine gT (xs := ?xs) ?h1 ?h2 ?_); (case h1 => walk_at "hp"); (case h2 => exact rfl))
  | (with_reducible refine rUn ?_)
  | walk_at "rdv"
  | walk_at "rdc")
local macro_rules | `(tactic| walk_at "rd") => `(tactic| repeat walk_at "rd1")

/-! ## promises of the draws -/
def sp_law_draw : Sp := fun vs H Q _ => ∃ (r : Addr) (n : Int), vs = [.ref r, .int n] ∧ Reel H r ∧ 0 < n ∧ ∀ (i : Int) (H' : Hp), 0 ≤ i → i < n → SL r H H' → Reel H' r → Q (.int i) H'
theorem use_draw {r : Addr} {n : Int} {H : Hp} {Q : VK} {E : XK} (hR : Reel H r) (hn : 0 < n) (h : ∀ (i : Int) (H' : Hp), 0 ≤ i → i < n → SL r H H' → Reel H' r → Q (.int i) H') : sp_law_draw [.ref r, .int n] H Q E := ⟨r, n, rfl, hR, hn, h⟩
def sp_law_pick : Sp := fun vs H Q _ => ∃ (r : Addr) (row : V), vs = [.ref r, row] ∧ Reel H r ∧
  ((∃ p xs, row = .ref p ∧ H p = some (.lst xs) ∧ p ≠ r ∧ 0 < xs.length ∧ ∀ v H', v ∈ xs → SL r H H' → Reel H' r → Q v H') ∨
   (∃ z : Str, row = .str z ∧ 0 < z.length ∧ z.length ≤ 16777216 ∧ ∀ c H', c ∈ TL.tl z → SL r H H' → Reel H' r → Q (.str ⟨#[c]⟩) H'))
inductive AllI (lo hi : Int) : List V → Prop where
  | nil : AllI lo hi []
  | cons {i : Int} {xs : List V} (h1 : lo ≤ i ∧ i ≤ hi) (h : AllI lo hi xs) : AllI lo hi (.int i :: xs)
theorem AllI.mem {lo hi : Int} {v : V} : ∀ {xs : List V}, AllI lo hi xs → v ∈ xs → ∃ i, v = .int i ∧ lo ≤ i ∧ i ≤ hi
  | _, .cons h1 h, hm => by
    rcases List.mem_cons.mp hm with e | hm
    · exact ⟨_, e, h1⟩
    · exact AllI.mem h hm
inductive AllS (P : Str → Prop) : List V → Prop where
  | nil : AllS P []
  | cons {z : Str} {xs : List V} (h1 : P z) (h : AllS P xs) : AllS P (.str z :: xs)
theorem AllS.mem {P : Str → Prop} {v : V} : ∀ {xs : List V}, AllS P xs → v ∈ xs → ∃ z, v = .str z ∧ P z
  | _, .cons h1 h, hm => by
    rcases List.mem_cons.mp hm with e | hm
    · exact ⟨_, e, h1⟩
    · exact AllS.mem h hm
theorem use_pickI {r p : Addr} {xs : List V} {lo hi : Int} {H : Hp} {Q : VK} {E : XK} (hR : Reel H r) (hp : H p = some (.lst xs)) (hn : p ≠ r) (h0 : 0 < xs.length) (ha : AllI lo hi xs)
    (h : ∀ (i : Int) (H' : Hp), lo ≤ i → i ≤ hi → SL r H H' → Reel H' r → Q (.int i) H') : sp_law_pick [.ref r, .ref p] H Q E :=
  ⟨r, _, rfl, hR, .inl ⟨p, xs, rfl, hp, hn, h0, fun v H' hm s hr => by
    obtain ⟨i, rfl, h1, h2⟩ := ha.mem hm
    exact h i H' h1 h2 s hr⟩⟩
theorem use_pickS {r p : Addr} {xs : List V} {P : Str → Prop} {H : Hp} {Q : VK} {E : XK} (hR : Reel H r) (hp : H p = some (.lst xs)) (hn : p ≠ r) (h0 : 0 < xs.length) (ha : AllS P xs)
    (h : ∀ (z : Str) (H' : Hp), P z → SL r H H' → Reel H' r → Q (.str z) H') : sp_law_pick [.ref r, .ref p] H Q E :=
  ⟨r, _, rfl, hR, .inl ⟨p, xs, rfl, hp, hn, h0, fun v H' hm s hr => by
    obtain ⟨i, rfl, h1⟩ := ha.mem hm
    exact h i H' h1 s hr⟩⟩
theorem use_pickC {r : Addr} {z : Str} {H : Hp} {Q : VK} {E : XK} (hR : Reel H r) (h0 : 0 < z.length) (h1 : z.length ≤ 16777216)
    (h : ∀ (c : Nat) (H' : Hp), c ∈ TL.tl z → SL r H H' → Reel H' r → Q (.str ⟨#[c]⟩) H') : sp_law_pick [.ref r, .str z] H Q E := ⟨r, _, rfl, hR, .inr ⟨z, rfl, h0, h1, h⟩⟩
def sp_law_word : Sp := fun vs H Q _ => ∃ (r : Addr) (z : Str) (l m : Int), vs = [.ref r, .str z, .int l, .int m] ∧ Reel H r ∧ 0 < z.length ∧ z.length ≤ 1000 ∧ 0 ≤ l ∧ l ≤ m ∧ m ≤ 100000 ∧
  ∀ (x : Str) (H' : Hp), l ≤ x.length → x.length ≤ m → (∀ c ∈ TL.tl x, c ∈ TL.tl z) → SL r H H' → Reel H' r → Q (.str x) H'
theorem use_word {r : Addr} {z : Str} {l m : Int} {H : Hp} {Q : VK} {E : XK} (hR : Reel H r) (hz : 0 < z.length ∧ z.length ≤ 1000) (hl : 0 ≤ l ∧ l ≤ m ∧ m ≤ 100000)
    (h : ∀ (x : Str) (H' : Hp), l ≤ x.length → x.length ≤ m → (∀ c ∈ TL.tl x, c ∈ TL.tl z) → SL r H H' → Reel H' r → Q (.str x) H') : sp_law_word [.ref r, .str z, .int l, .int m] H Q E := ⟨r, z, l, m, rfl, hR, hz.1, hz.2, hl.1, hl.2.1, hl.2.2, h⟩
section
variable {P : Program} {w : World} {K : PySem.W.Frag} {mg : Str → Option Value} {base : Heap}
theorem reel_at {p z : Int} {ns : List Int} (h0 : 0 ≤ z) (h1 : z < ns.length) : ∃ j, atI (V.int p :: ns.map V.int) (1 + z) = some (V.int j) := by
  obtain ⟨v, h, _, hm⟩ := at_in (xs := V.int p :: ns.map V.int) (z := 1 + z) (by omega) (by rw [List.length_cons, List.length_map]; omega)
  rcases List.mem_cons.mp hm with e | hm
  · exact ⟨p, by rw [h, e]⟩
  · obtain ⟨j, _, e⟩ := List.mem_map.mp hm
    exact ⟨j, by rw [h, e]⟩
theorem cal_law_draw {f : Addr} {fd : FuncData} (T : Txt mg) (FD : C8.Def K mg "_law_draw" s_law_draw f fd) (b : Binds K fd ["reel", "size"] []) : C8.Cal P w K mg base 1 "_law_draw" sp_law_draw [] := by
  refine C8.cal0 FD b .nil sc_law_draw (fun vs H Q E h => ?_) (fun cdv A outer s H vs Q E hr h => ?_)
  · obtain ⟨r, n, rfl, _⟩ := h; rfl
  · obtain ⟨r, n, rfl, ⟨p, ns, hR, l1, l2⟩, hn, k⟩ := h
    refine ⟨_, (pss_cons (ps_set (i := 2) sc_law_draw.nd rfl (.inl rfl) (pe_op op_subU (pe_callB (call_lenK K) (by rfl) T.n_len PySem.boot_len (pa_cons (pv 0) pa_nil)) pe_int))
  (pss_cons (ps_set (i := 3) sc_law_draw.nd rfl (.inl rfl) (pe_ix (ix_K K) (pv 0) pe_int (fun _ _ => rfl)))
  (pss_cons (ps_asg (pe_op (op_addK K) (pv 3) pe_int) (pg_sub (pv 0) pe_int set_list))
  (pss_one (ps_ret (pe_op op_modU (pe_callTy call_intU (by rfl) T.n_int (by decide +kernel) (pa_cons (pe_op (op_addK K) (pe_ix (ix_K K) (pv 0) (pe_op (op_addK K) pe_int (pe_op op_modU (pe_callTy call_intU (by rfl) T.n_int (by decide +kernel) (pa_cons (pv 3) pa_nil)) (pv 2))) (fun _ _ => rfl)) (pe_op op_mulU (pe_op op_divU (pv 3) (pv 2)) pe_int)) pa_nil)) (pv 1))))))), ?_⟩
    show (_ : TS) _ [some (.ref r), some (.int n), none, none] H
    have hc : (((V.int p :: ns.map V.int).length : Int) - 1) = (ns.length : Int) := by rw [List.length_cons, List.length_map]; omega
    walk_at "rd"
    refine putO_gen hR fun H1 s1 h1 => ?_
    replace h1 : H1 r = some (.lst (V.int (p + 1) :: ns.map V.int)) := h1
    rw [hc]
    have c0 := Int.emod_nonneg p (show (ns.length : Int) ≠ 0 by omega)
    have c1 := Int.emod_lt_of_pos p (show (0 : Int) < (ns.length : Int) by omega)
    obtain ⟨j, hj⟩ := reel_at (p := p + 1) c0 c1
    walk_at "rd"
    exact k _ _ (Int.emod_nonneg _ (by omega)) (Int.emod_lt_of_pos _ hn) s1 ⟨_, _, h1, l1, l2⟩
theorem cal_law_pick {f : Addr} {fd : FuncData} (T : Txt mg) (FD : C8.Def K mg "_law_pick" s_law_pick f fd) (b : Binds K fd ["reel", "row"] [])
    (c_law_draw : C8.Cal P w K mg base 1 "_law_draw" sp_law_draw []) : C8.Cal P w K mg base 2 "_law_pick" sp_law_pick [] := by
  refine C8.cal0 FD b .nil sc_law_pick (fun vs H Q E h => ?_) (fun cdv A outer s H vs Q E hr h => ?_)
  · obtain ⟨r, n, rfl, _⟩ := h; rfl
  · obtain ⟨r, row, rfl, hR, h⟩ := h
    refine ⟨_, (pss_one (ps_ret (pe_ix (ix_K K) (pv 1) (C8.pe_c c_law_draw hr (by decide) (by rfl) (pa_cons (pv 0) (pa_cons (pe_callB (call_lenK K) (by rfl) T.n_len PySem.boot_len (pa_cons (pv 1) pa_nil)) pa_nil))) (fun _ _ => rfl)))), ?_⟩
    show (_ : TS) _ [some (.ref r), some row] H
    rcases h with ⟨p, xs, rfl, hp, hn, h0, k⟩ | ⟨z, rfl, h0, h1, k⟩
    · walk_at "rd"
      refine use_draw hR (by omega) fun i H1 i0 i1 s1 r1 => ?_
      obtain ⟨v, hv, _, hm⟩ := at_in i0 i1
      walk_at "rd"
      exact k v H1 hm s1 r1
    · walk_at "rd"
      refine use_draw hR (by omega) fun i H1 i0 i1 s1 r1 => ?_
      obtain ⟨c, hv, _, hm⟩ := at_in (xs := z.cps.toList) i0 (by rw [← TL.len_tl]; exact i1)
      refine ix_str (sz_le h1) hv ?_
      exact k c H1 hm s1 r1
theorem cal_law_word {f : Addr} {fd : FuncData} (T : Txt mg) (FD : C8.Def K mg "_law_word" s_law_word f fd) (b : Binds K fd ["reel", "letters", "least", "most"] [])
    (c_law_pick : C8.Cal P w K mg base 2 "_law_pick" sp_law_pick [])
    (c_law_draw : C8.Cal P w K mg base 1 "_law_draw" sp_law_draw []) : C8.Cal P w K mg base 3 "_law_word" sp_law_word [] := by
  refine C8.cal0 FD b .nil sc_law_word (fun vs H Q E h => ?_) (fun cdv A outer s H vs Q E hr h => ?_)
  · obtain ⟨r, z, l, m, rfl, _⟩ := h; rfl
  · obtain ⟨r, z, l, m, rfl, hR, z0, z1, l0, l1, l2, k⟩ := h
    refine ⟨_, (pss_one (ps_ret (pe_m1 F.slot_str_join F.type_str_join (mt_joinK K) pe_str (pe_lc (own := [("k", 4)]) rfl sc_law_word.nd (pi_range1 rfl T.n_range (pa_cons (pe_op (op_addK K) (pv 2) (C8.pe_c c_law_draw hr (by decide) (by rfl) (pa_cons (pv 0) (pa_cons (pe_op (op_addK K) (pe_op op_subU (pv 3) (pv 2)) pe_int) pa_nil)))) pa_nil)) (blkOk_by (own := [("k", 4)]) (N := ["reel", "letters", "least", "most", "k"]) (sc := C8.fnScope s_law_word) (by decide +kernel)) (fun _ _ _ _ _ => (pg_name (i := 4) sc_law_word.nd rfl (.inl rfl))) (fun _ _ _ _ _ => pts_nil) (fun _ _ _ _ _ => (C8.pe_c c_law_pick hr (by decide) (by rfl) (pa_cons (pv 0) (pa_cons (pv 1) pa_nil)))))))), ?_⟩
    show (_ : TS) _ [some (.ref r), some (.str z), some (.int l), some (.int m), none] H
    walk_at "rd"
    refine use_draw hR (by omega) fun i H1 i0 i1 s1 r1 => ?_
    walk_at "rd"
    refine compR_draw (r := r) r1 (fun acc => ∃ ys : List Str, acc = ys.map V.str ∧ ∀ y ∈ ys, ∃ c ∈ TL.tl z, y = ⟨#[c]⟩) ⟨[], rfl, fun _ h => nomatch h⟩ ?_ ?_
    · rintro acc H2 D c ⟨ys, rfl, hy⟩
      walk_at "rd"
      refine use_pickC c.reel z0 (by omega) fun ch H3 hc s3 r3 => ?_
      refine cD_of c (by omega) s3 r3 ⟨ys ++ [⟨#[ch]⟩], by simp, fun y hm => ?_⟩
      rcases List.mem_append.mp hm with hm | hm
      · exact hy y hm
      · exact ⟨ch, hc, List.mem_singleton.mp hm⟩
    · rintro acc H2 D hl ⟨ys, rfl, hy⟩ s2 r2 hD _
      rw [List.length_map] at hl
      have hlen : ∀ ys : List Str, (∀ y ∈ ys, ∃ c ∈ TL.tl z, y = ⟨#[c]⟩) → (ys.map (·.length)).sum = ys.length ∧ ((ys.map TL.tl).flatten).length = ys.length ∧ ∀ c ∈ (ys.map TL.tl).flatten, c ∈ TL.tl z := by
        intro ys
        induction ys with
        | nil => intro _; exact ⟨rfl, rfl, fun _ h => nomatch h⟩
        | cons y ys ih =>
          intro h
          obtain ⟨e1, e2, e3⟩ := ih fun q hq => h q (List.mem_cons_of_mem _ hq)
          obtain ⟨c, hc, rfl⟩ := h y (List.mem_cons_self ..)
          refine ⟨?_, ?_, ?_⟩
          · rw [List.map_cons, List.sum_cons, e1]; show 1 + ys.length = ys.length + 1; omega
          · rw [List.map_cons, List.flatten_cons, List.length_append, e2]; show 1 + ys.length = ys.length + 1; omega
          · intro q hq
            rw [List.map_cons, List.flatten_cons] at hq
            rcases List.mem_append.mp hq with hq | hq
            · have : q = c := by simpa using hq
              rw [this]; exact hc
            · exact e3 q hq
      obtain ⟨e1, e2, e3⟩ := hlen ys hy
      have e : TL.tl (Txt.join (Str.ofString "") ys) = (ys.map TL.tl).flatten := tl_join0 ys
      refine join_lst hD (by rw [e1]; show ys.length + ys.length * 0 ≤ _; omega) ?_
      refine k _ H2 ?_ ?_ ?_ (s1.trans s2) r2
      · rw [TL.len_tl, e, e2]; omega
      · rw [TL.len_tl, e, e2]; omega
      · rw [e]; exact e3
end
end Z
namespace Z
open PySem PySem.Spec L2
local macro_rules | `(tactic| walk_at "ne") => `(tactic| first
  | with_reducible assumption
  | with_reducible exact Ne.symm (by assumption)
  | exact Frs.ne (by with_reducible assumption) (by walk_at "hp")
  | exact Frs.ne' (by with_reducible assumption) (by walk_at "hp"))
local macro_rules | `(tactic| walk_at "hp") => `(tactic| first
  | with_reducible assumption
  | (with_reducible refine Same.at (by assumption) ?_; walk_at "hp")
  | (with_reducible refine SL.tup (by assumption) ?_; walk_at "hp")
  | (with_reducible refine SL.at (by assumption) (by walk_at "ne") ?_; walk_at "hp"))
local macro_rules | `(tactic| walk_at "sz") => `(tactic| first
  | with_reducible assumption
  | exact Nat.le_of_ble_eq_true rfl
  | (refine sz_le ?_; omega)
  | (refine sz_lt ?_; omega)
  | decide +kernel)
local macro_rules | `(tactic| walk_at "at") => `(tactic| first
  | with_reducible assumption
  | with_reducible exact at0
  | with_reducible exact at1
  | with_reducible exact at2
  | with_reducible exact ixN0)
local macro_rules | `(tactic| walk_at "nn") => `(tactic| first
  | omega
  | decide
  | exact ⟨by decide, by decide⟩
  | exact ⟨by omega, by omega⟩
  | exact ⟨by omega, by omega, by omega, by omega⟩)
local macro_rules | `(tactic| walk_at "rdv") => `(tactic| first
  | (with_reducible refine add_int ?_)
  | (with_reducible refine sub_int ?_)
  | (with_reducible refine neg_int ?_)
  | ((with_reducible refine ix_tpl (xs := ?xs) (v := ?v) ?h1 ?h2 ?_); (case h1 => walk_at "hp"); (case h2 => walk_at "at"))
  | ((with_reducible refine ix_lst (xs := ?xs) (v := ?v) ?h1 ?h2 ?_); (case h1 => walk_at "hp"); (case h2 => walk_at "at"))
  | (with_reducible refine eq_int ?_)
  | (with_reducible refine ne_int ?_)
  | (with_reducible refine lt_int ?_)
  | (with_reducible refine le_int ?_)
  | (with_reducible refine gt_int ?_)
  | (with_reducible refine ge_int ?_)
  | (with_reducible refine eq_str ?_)
  | (with_reducible refine ne_str ?_)
  | (with_reducible refine eq_bl ?_)
  | (with_reducible refine ne_bl ?_)
  | ((with_reducible refine mod_int ?hc ?_); (case hc => walk_at "nn"))
  | ((with_reducible refine div_int ?hc ?_); (case hc => walk_at "nn"))
  | ((with_reducible refine mul_intR ?hc ?_); (case hc => exact ⟨by decide, by decide⟩))
  | ((with_reducible refine mul_intR ?hc ?_); (case hc => exact ⟨by omega, by omega⟩))
  | ((with_reducible refine mul_intL ?hc ?_); (case hc => exact ⟨by omega, by omega⟩))
  | ((with_reducible refine pow_int ?hc ?_); (case hc => exact ⟨by decide, by decide, by decide⟩))
  | ((with_reducible refine add_str ?hc ?_); (case hc => walk_at "sz"))
  | ((with_reducible refine add_lst (xs := ?xs) (ys := ?ys) ?h1 ?h2 ?hc ?_); (case h1 => walk_at "hp"); (case h2 => walk_at "hp"); (case hc => walk_at "sz"))
  | ((with_reducible refine sl_strU ?hc ?_); (case hc => walk_at "sz"))
  | ((with_reducible refine sl_lst (xs := ?xs) ?h1 ?_); (case h1 => walk_at "hp"))
  | (with_reducible refine is_bl ?_)
  | (with_reducible refine isnt_bl ?_)
  | (with_reducible refine is_non ?_)
  | (with_reducible refine isnt_non ?_))
local macro_rules | `(tactic| walk_at "rdc") => `(tactic| first
  | ((with_reducible refine len_lst (xs := ?xs) ?h1 ?_); (case h1 => walk_at "hp"))
  | ((with_reducible refine len_tup (xs := ?xs) ?h1 ?_); (case h1 => walk_at "hp"))
  | ((with_reducible refine len_str ?hc ?_); (case hc => walk_at "sz"))
  | (with_reducible refine int_int ?_)
  | (with_reducible refine max_int ?_)
  | (with_reducible refine min_int ?_)
  | (with_reducible refine abs_int ?_)
  | (with_reducible refine isi_ii ?_)
  | (with_reducible refine isi_ib ?_)
  | (with_reducible refine isi_ss ?_)
  | (with_reducible refine isi_bb ?_)
  | ((with_reducible refine isi_tt (xs := ?xs) ?h1 ?_); (case h1 => walk_at "hp"))
  | ((with_reducible refine isi_ll (xs := ?xs) ?h1 ?_); (case h1 => walk_at "hp"))
  | ((with_reducible refine list_lst (xs := ?xs) ?h1 ?_); (case h1 => walk_at "hp"))
  | ((with_reducible refine list_tup (xs := ?xs) ?h1 ?_); (case h1 => walk_at "hp"))
  | ((with_reducible refine tuple_lst (xs := ?xs) ?h1 ?_); (case h1 => walk_at "hp"))
  | ((with_reducible refine tuple_tup (xs := ?xs) ?h1 ?_); (case h1 => walk_at "hp"))
  | ((with_reducible refine append_lst (xs := ?xs) ?h1 ?hc ?_); (case h1 => walk_at "hp"); (case hc => walk_at "sz"))
  | ((with_reducible refine clear_lst (xs := ?xs) ?h1 ?_); (case h1 => walk_at "hp"))
  | ((with_reducible refine set_lst (xs := ?xs) (k := ?k) ?h1 ?h2 ?_); (case h1 => walk_at "hp"); (case h2 => walk_at "at")))
local macro_rules | `(tactic| walk_at "rd1") => `(tactic| first
  | ((with_reducible refine rVar (v := ?v) ?h ?_); (case h => exact rfl))
  | (with_reducible refine rC ?_)
  | (with_reducible refine rCons ?_)
  | (with_reducible refine rNil ?_)
  | (with_reducible refine rOp ?_)
  | (with_reducible refine rSeq ?_)
  | (with_reducible refine rAsgN ?_)
  | (with_reducible refine rAsgT ?_)
  | (with_reducible refine rAsgS ?_)
  | (with_reducible refine rTest ?_)
  | (with_reducible refine rBl ?_)
  | (with_reducible refine rBl' ?_)
  | (with_reducible refine rInt ?_)
  | (with_reducible refine rInt' ?_)
  | (with_reducible refine rCall ?_)
  | (with_reducible refine rCB ?_)
  | (with_reducible refine rRet ?_)
  | (with_reducible refine rDrop ?_)
  | (with_reducible refine rIfS ?_)
  | (with_reducible refine rTup ?_)
  | (with_reducible refine rLst ?_)
  | (with_reducible refine ⟨Nat.le_of_ble_eq_true rfl, ?_⟩)
  | (with_reducible refine rSl ?_)
  | (with_reducible refine rPart ?_)
  | (with_reducible refine rNoPart ?_)
  | (with_reducible refine rBM ?_)
  | (with_reducible refine rBM0 ?_)
  | ((with_reducible refine tyL (xs := ?xs) ?h1 ?_); (case h1 => walk_at "hp"))
  | (with_reducible refine rM1 ?_)
  | (with_reducible refine rM0 ?_)
  | (with_reducible refine rStr ?_)
  | (with_reducible refine rTru ?_)
  | (with_reducible refine tru_bl ?_)
  | (with_reducible refine tru_int ?_)
  | ((with_reducible refine tru_lst (xs := ?xs) ?h1 ?_); (case h1 => walk_at "hp"))
  | ((with_reducible refine tru_tup (xs := ?xs) ?h1 ?_); (case h1 => walk_at "hp"))
  | ((with_reducible refine tru_str ?hc ?_); (case hc => walk_at "sz"))
  | (with_reducible refine rAnd ?_)
  | (with_reducible refine rOr ?_)
  | (with_reducible refine rNot ?_)
  | (with_reducible refine rAndV ?_)
  | (with_reducible refine rOrV ?_)
  | (with_reducible refine rNotV ?_)
  | (with_reducible refine rIfE ?_)
  | (with_reducible refine rChain ?_)
  | (with_reducible refine rChain3 ?_)
  | (with_reducible refine ifT ?_)
  | (with_reducible refine ifF ?_)
  | (with_reducible refine ifNF ?_)
  | (with_reducible refine ifNT ?_)
  | (with_reducible refine rNext ?_)
  | (with_reducible refine rBrk ?_)
  | (with_reducible refine rCnt ?_)
  | (with_reducible refine rRetN ?_)
  | (with_reducible refine rForR1 ?_)
  | (with_reducible refine rForR2 ?_)
  | (with_reducible refine rForL ?_)
  | ((with_reducible refine rRg1 ?hb ?_); (case hb => walk_at "nn"))
  | ((with_reducible refine rRg2 ?hb ?_); (case hb => walk_at "nn"))
  | ((with_reducible refine rRf (xs := ?xs) ?h1 ?_); (case h1 => walk_at "hp"))
  | (with_reducible refine rLcR1 ?_)
  | (with_reducible refine rLcR2 ?_)
  | (with_reducible refine rLcL ?_)
  | (with_reducible refine gN ?_)
  | (with_reducible refine gNl ?_)
  | (with_reducible refine gC ?_)
  | ((with_reducible refine gT (xs := ?xs) ?h1 ?h2 ?_); (case h1 => walk_at "hp"); (case h2 => exact rfl))
  | (with_reducible refine rUn ?_)
  | walk_at "rdv"
  | walk_at "rdc")
local macro_rules | `(tactic| walk_at "rd") => `(tactic| repeat walk_at "rd1")

def sp_law_signs : Sp := fun vs H Q _ => vs = [] ∧ ∀ z : Str, 0 < z.length ∧ z.length ≤ 200 ∧ Ok z → Q (.str z) H
theorem use_signs {H : Hp} {Q : VK} {E : XK} (h : ∀ z : Str, 0 < z.length ∧ z.length ≤ 200 ∧ Ok z → Q (.str z) H) : sp_law_signs [] H Q E := ⟨rfl, h⟩
def sp_law_stepped : Sp := fun vs H Q _ => ∃ (r : Addr) (n : Int), vs = [.ref r, .int n] ∧ Reel H r ∧ 0 ≤ n ∧ n ≤ 5000 ∧ ∀ (x : Str) (H' : Hp), (x.length : Int) = n → Ok x → SL r H H' → Reel H' r → Q (.str x) H'
theorem use_stepped {r : Addr} {n : Int} {H : Hp} {Q : VK} {E : XK} (hR : Reel H r) (hn : 0 ≤ n ∧ n ≤ 5000) (h : ∀ (x : Str) (H' : Hp), (x.length : Int) = n → Ok x → SL r H H' → Reel H' r → Q (.str x) H') : sp_law_stepped [.ref r, .int n] H Q E := ⟨r, n, rfl, hR, hn.1, hn.2, h⟩
/-- a drawn text of a bounded length -/
def spTxt (m : Nat) : Sp := fun vs H Q _ => ∃ (r : Addr), vs = [.ref r] ∧ Reel H r ∧ ∀ (x : Str) (H' : Hp), x.length ≤ m → Ok x → SL r H H' → Reel H' r → Q (.str x) H'
abbrev sp_law_text : Sp := spTxt 2000
abbrev sp_law_new : Sp := spTxt 300
theorem use_txt {m : Nat} {r : Addr} {H : Hp} {Q : VK} {E : XK} (hR : Reel H r) (h : ∀ (x : Str) (H' : Hp), x.length ≤ m → Ok x → SL r H H' → Reel H' r → Q (.str x) H') : spTxt m [.ref r] H Q E := ⟨r, rfl, hR, h⟩
theorem ones : ∀ ys : List Str, (∀ y ∈ ys, y.length = 1 ∧ Ok y) → (ys.map (·.length)).sum = ys.length ∧ ((ys.map TL.tl).flatten).length = ys.length := by
  intro ys
  induction ys with
  | nil => intro _; exact ⟨rfl, rfl⟩
  | cons y ys ih =>
    intro h
    obtain ⟨e1, e2⟩ := ih fun q hq => h q (List.mem_cons_of_mem _ hq)
    have e := (h y (List.mem_cons_self ..)).1
    refine ⟨?_, ?_⟩
    · rw [List.map_cons, List.sum_cons, e1, e]; show 1 + ys.length = ys.length + 1; omega
    · rw [List.map_cons, List.flatten_cons, List.length_append, e2, ← TL.len_tl, e]; show 1 + ys.length = ys.length + 1; omega
section
variable {P : Program} {w : World} {K : PySem.W.Frag} {mg : Str → Option Value} {base : Heap}
theorem cal_law_signs {f : Addr} {fd : FuncData} (T : Txt mg) (FD : C8.Def K mg "_law_signs" s_law_signs f fd) (b : Binds K fd [] []) : C8.Cal P w K mg base 1 "_law_signs" sp_law_signs [] := by
  refine C8.cal0 FD b .nil sc_law_signs (fun vs H Q E h => ?_) (fun cdv A outer s H vs Q E hr h => ?_)
  · obtain ⟨rfl, _⟩ := h; rfl
  · obtain ⟨rfl, k⟩ := h
    refine ⟨_, (pss_cons (ps_set (i := 0) sc_law_signs.nd rfl (.inl rfl) pe_str)
  (pss_one (ps_ret (pe_op (op_addK K) (pv 0) pe_str)))), ?_⟩
    show (_ : TS) _ [none] H
    walk_at "rd"
    exact k _ (by decide +kernel)
theorem cal_law_stepped {f : Addr} {fd : FuncData} (T : Txt mg) (FD : C8.Def K mg "_law_stepped" s_law_stepped f fd) (b : Binds K fd ["reel", "size"] [])
    (c_law_pick : C8.Cal P w K mg base 2 "_law_pick" sp_law_pick [])
    (c_law_draw : C8.Cal P w K mg base 1 "_law_draw" sp_law_draw [])
    (c_law_signs : C8.Cal P w K mg base 1 "_law_signs" sp_law_signs []) : C8.Cal P w K mg base 3 "_law_stepped" sp_law_stepped [] := by
  refine C8.cal0 FD b .nil sc_law_stepped (fun vs H Q E h => ?_) (fun cdv A outer s H vs Q E hr h => ?_)
  · obtain ⟨r, n, rfl, _⟩ := h; rfl
  · obtain ⟨r, n, rfl, hR, hn, hn2, k⟩ := h
    refine ⟨_, (pss_cons (ps_set (i := 2) sc_law_stepped.nd rfl (.inr rfl) (C8.pe_c c_law_pick hr (by decide) (by rfl) (pa_cons (pv 0) (pa_cons (pe_lst (pa_cons (pe_c0 c_law_signs hr (by decide) (by rfl)) (pa_cons (pe_c0 c_law_signs hr (by decide) (by rfl)) (pa_cons pe_str (pa_cons pe_str pa_nil))))) pa_nil))))
  (pss_cons (ps_set (i := 3) sc_law_stepped.nd rfl (.inr rfl) (C8.pe_c c_law_draw hr (by decide) (by rfl) (pa_cons (pv 0) (pa_cons pe_int pa_nil))))
  (pss_cons (ps_set (i := 4) sc_law_stepped.nd rfl (.inr rfl) (C8.pe_c c_law_pick hr (by decide) (by rfl) (pa_cons (pv 0) (pa_cons (pe_lst (pa_cons pe_int (pa_cons pe_int (pa_cons pe_int (pa_cons pe_int pa_nil))))) pa_nil))))
  (pss_one (ps_ret (pe_m1 F.slot_str_join F.type_str_join (mt_joinK K) pe_str (pe_lc (own := [("k", 5)]) rfl sc_law_stepped.nd (pi_range1 rfl T.n_range (pa_cons (pv 1) pa_nil)) (blkOk_by (own := [("k", 5)]) (N := ["reel", "size", "letters", "first", "step", "k"]) (sc := C8.fnScope s_law_stepped) (by decide +kernel)) (fun _ _ _ _ _ => (pg_name (i := 5) sc_law_stepped.nd rfl (.inl rfl))) (fun _ _ _ _ _ => pts_nil) (fun _ _ _ _ _ => (pe_ix (ix_K K) (pv 2) (pe_op op_modU (pe_callTy call_intU (by rfl) T.n_int (by decide +kernel) (pa_cons (pe_op (op_addK K) (pv 3) (pe_op op_mulU (pv 5) (pv 4))) pa_nil)) (pe_callB (call_lenK K) (by rfl) T.n_len PySem.boot_len (pa_cons (pv 2) pa_nil))) (fun _ _ => rfl)))))))))), ?_⟩
    show (_ : TS) _ [some (.ref r), some (.int n), none, none, none, none] H
    walk_at "rd"
    refine use_signs fun z1 hz1 => ?_
    walk_at "rd"
    refine use_signs fun z2 hz2 => ?_
    walk_at "rd"
    refine newO_gen fun p H1 f1 s1 h1 => ?_
    walk_at "rd"
    refine use_pickS (P := fun z => 0 < z.length ∧ z.length ≤ 200 ∧ Ok z) (hR.same s1) h1 (hR.ne f1).symm (Nat.zero_lt_succ _) (.cons hz1 (.cons hz2 (.cons (by decide +kernel) (.cons (by decide +kernel) .nil)))) fun lt H2 hlt s2 r2 => ?_
    walk_at "rd"
    refine use_draw r2 (by omega) fun fi H3 i0 i1 s3 r3 => ?_
    walk_at "rd"
    refine newO_gen fun p4 H4 f4 s4 h4 => ?_
    walk_at "rd"
    refine use_pickI (lo := 0) (hi := 95) (r3.same s4) h4 (r3.ne f4).symm (Nat.zero_lt_succ _) (by repeat (first | exact AllI.nil | refine AllI.cons (by omega) ?_)) fun st H5 t0 t1 s5 r5 => ?_
    walk_at "rd"
    refine compR_pure (fun acc _ => ∃ ys : List Str, acc = ys.map V.str ∧ ∀ y ∈ ys, y.length = 1 ∧ Ok y) (fun _ _ => ⟨[], rfl, fun _ h => nomatch h⟩) ?_ ?_
    · rintro acc H6 D c ⟨ys, rfl, hy⟩
      have hc := c.lt
      walk_at "rd"
      have c0 := Int.emod_nonneg (fi + (0 + ((ys.map V.str).length : Int)) * st) (show (lt.length : Int) ≠ 0 by omega)
      have c1 := Int.emod_lt_of_pos (fi + (0 + ((ys.map V.str).length : Int)) * st) (show (0 : Int) < (lt.length : Int) by omega)
      obtain ⟨ch, hv, _, hmc⟩ := at_in (xs := lt.cps.toList) c0 (by rw [← TL.len_tl]; exact c1)
      refine ix_str (sz_le (by omega)) hv ?_
      refine pD_of c (by omega) (Same.refl _) fun _ _ => ⟨ys ++ [⟨#[ch]⟩], by simp, fun y hm => ?_⟩
      rcases List.mem_append.mp hm with hm | hm
      · exact hy y hm
      · rw [List.mem_singleton.mp hm]
        exact ⟨rfl, fun c hc => by rw [List.mem_singleton.mp (show c ∈ [ch] from hc)]; exact hlt.2.2 ch hmc⟩
    · rintro acc H6 D hl ⟨ys, rfl, hy⟩ s6 hD _
      rw [List.length_map] at hl
      obtain ⟨e1, e2⟩ := ones ys hy
      have e : TL.tl (Txt.join (Str.ofString "") ys) = (ys.map TL.tl).flatten := tl_join0 ys
      refine join_lst hD (by rw [e1]; show ys.length + ys.length * 0 ≤ _; omega) ?_
      refine k _ H6 (by rw [TL.len_tl, e, e2]; omega) (Ok.join fun y hy' => (hy y hy').2) ?_ (r5.same s6)
      exact ((((hR.sl0 s1).trans s2).trans s3).trans ((r3.sl0 s4).trans s5)).more s6
theorem cal_law_new {f : Addr} {fd : FuncData} (T : Txt mg) (FD : C8.Def K mg "_law_new" s_law_new f fd) (b : Binds K fd ["reel"] [])
    (c_law_pick : C8.Cal P w K mg base 2 "_law_pick" sp_law_pick [])
    (c_law_word : C8.Cal P w K mg base 3 "_law_word" sp_law_word [])
    (c_law_draw : C8.Cal P w K mg base 1 "_law_draw" sp_law_draw [])
    (c_law_stepped : C8.Cal P w K mg base 3 "_law_stepped" sp_law_stepped [])
    (c_law_signs : C8.Cal P w K mg base 1 "_law_signs" sp_law_signs []) : C8.Cal P w K mg base 4 "_law_new" sp_law_new [] := by
  refine C8.cal0 FD b .nil sc_law_new (fun vs H Q E h => ?_) (fun cdv A outer s H vs Q E hr h => ?_)
  · obtain ⟨r, rfl, _⟩ := h; rfl
  · obtain ⟨r, rfl, hR, k⟩ := h
    refine ⟨_, (pss_cons (ps_if (pt_cmpR (op_eqK K (hu64 hr)) (C8.pe_c c_law_draw hr (by decide) (by rfl) (pa_cons (pv 0) (pa_cons pe_int pa_nil))) pe_int (nomark _)) (pss_one (ps_ret (C8.pe_c c_law_stepped hr (by decide) (by rfl) (pa_cons (pv 0) (pa_cons (C8.pe_c c_law_pick hr (by decide) (by rfl) (pa_cons (pv 0) (pa_cons (pe_lst (pa_cons pe_int (pa_cons pe_int (pa_cons pe_int (pa_cons pe_int (pa_cons pe_int (pa_cons pe_int (pa_cons pe_int (pa_cons pe_int (pa_cons pe_int pa_nil)))))))))) pa_nil))) pa_nil))))) pss_nil)
  (pss_cons (ps_set (i := 1) sc_law_new.nd rfl (.inl rfl) (C8.pe_c c_law_pick hr (by decide) (by rfl) (pa_cons (pv 0) (pa_cons (pe_lst (pa_cons pe_int (pa_cons pe_int (pa_cons pe_int (pa_cons pe_int (pa_cons pe_int (pa_cons pe_int (pa_cons pe_int (pa_cons pe_int pa_nil))))))))) pa_nil))))
  (pss_one (ps_ret (C8.pe_c c_law_word hr (by decide) (by rfl) (pa_cons (pv 0) (pa_cons (C8.pe_c c_law_pick hr (by decide) (by rfl) (pa_cons (pv 0) (pa_cons (pe_lst (pa_cons (pe_c0 c_law_signs hr (by decide) (by rfl)) (pa_cons (pe_c0 c_law_signs hr (by decide) (by rfl)) (pa_cons pe_str (pa_cons pe_str pa_nil))))) pa_nil))) (pa_cons (pv 1) (pa_cons (pv 1) pa_nil))))))))), ?_⟩
    show (_ : TS) _ [some (.ref r), none] H
    walk_at "rd"
    refine use_draw hR (by omega) fun i1 H1 _ _ s1 r1 => ?_
    walk_at "rd"
    refine ifD (fun c => ?_) (fun c => ?_)
    · walk_at "rd"
      refine newO_gen fun p2 H2 f2 s2 h2 => ?_
      walk_at "rd"
      refine use_pickI (lo := 0) (hi := 300) (r1.same s2) h2 (r1.ne f2).symm (Nat.zero_lt_succ _) (by repeat (first | exact AllI.nil | refine AllI.cons (by omega) ?_)) fun st H3 t0 t1 s3 r3 => ?_
      walk_at "rd"
      refine use_stepped r3 (by omega) fun x H4 hx ok4 s4 r4 => ?_
      exact k x H4 (by omega) ok4 (((s1.more s2).trans s3).trans s4) r4
    · walk_at "rd"
      refine newO_gen fun p2 H2 f2 s2 h2 => ?_
      walk_at "rd"
      refine use_pickI (lo := 0) (hi := 5) (r1.same s2) h2 (r1.ne f2).symm (Nat.zero_lt_succ _) (by repeat (first | exact AllI.nil | refine AllI.cons (by omega) ?_)) fun st H3 t0 t1 s3 r3 => ?_
      walk_at "rd"
      refine use_signs fun z1 hz1 => ?_
      walk_at "rd"
      refine use_signs fun z2 hz2 => ?_
      walk_at "rd"
      refine newO_gen fun p4 H4 f4 s4 h4 => ?_
      walk_at "rd"
      refine use_pickS (P := fun z => 0 < z.length ∧ z.length ≤ 200 ∧ Ok z) (r3.same s4) h4 (r3.ne f4).symm (Nat.zero_lt_succ _) (.cons hz1 (.cons hz2 (.cons (by decide +kernel) (.cons (by decide +kernel) .nil)))) fun lt H5 hlt s5 r5 => ?_
      walk_at "rd"
      refine use_word r5 ⟨hlt.1, by omega⟩ (by omega) fun x H6 l1 l2 lc s6 r6 => ?_
      exact k x H6 (by omega) (fun c hc => hlt.2.2 c (lc c hc)) ((((s1.more s2).trans s3).more s4).trans (s5.trans s6)) r6
end
end Z
namespace Z
open PySem PySem.Spec L2
local macro_rules | `(tactic| walk_at "ne") => `(tactic| first
  | with_reducible assumption
  | with_reducible exact Ne.symm (by assumption)
  | exact Frs.ne (by with_reducible assumption) (by walk_at "hp")
  | exact Frs.ne' (by with_reducible assumption) (by walk_at "hp"))
local macro_rules | `(tactic| walk_at "hp") => `(tactic| first
  | with_reducible assumption
  | (with_reducible refine Same.at (by assumption) ?_; walk_at "hp")
  | (with_reducible refine SL.tup (by assumption) ?_; walk_at "hp")
  | (with_reducible refine SL.at (by assumption) (by walk_at "ne") ?_; walk_at "hp"))
local macro_rules | `(tactic| walk_at "sz") => `(tactic| first
  | with_reducible assumption
  | exact Nat.le_of_ble_eq_true rfl
  | (refine sz_le ?_; omega)
  | (refine sz_lt ?_; omega)
  | decide +kernel)
local macro_rules | `(tactic| walk_at "at") => `(tactic| first
  | with_reducible assumption
  | with_reducible exact at0
  | with_reducible exact at1
  | with_reducible exact at2
  | with_reducible exact ixN0)
local macro_rules | `(tactic| walk_at "nn") => `(tactic| first
  | omega
  | decide
  | exact ⟨by decide, by decide⟩
  | exact ⟨by omega, by omega⟩
  | exact ⟨by omega, by omega, by omega, by omega⟩)
local macro_rules | `(tactic| walk_at "rdv") => `(tactic| first
  | (with_reducible refine add_int ?_)
  | (with_reducible refine sub_int ?_)
  | (with_reducible refine neg_int ?_)
  | ((with_reducible refine ix_tpl (xs := ?xs) (v := ?v) ?h1 ?h2 ?_); (case h1 => walk_at "hp"); (case h2 => walk_at "at"))
  | ((with_reducible refine ix_lst (xs := ?xs) (v := ?v) ?h1 ?h2 ?_); (case h1 => walk_at "hp"); (case h2 => walk_at "at"))
  | (with_reducible refine eq_int ?_)
  | (with_reducible refine ne_int ?_)
  | (with_reducible refine lt_int ?_)
  | (with_reducible refine le_int ?_)
  | (with_reducible refine gt_int ?_)
  | (with_reducible refine ge_int ?_)
  | (with_reducible refine eq_str ?_)
  | (with_reducible refine ne_str ?_)
  | (with_reducible refine eq_bl ?_)
  | (with_reducible refine ne_bl ?_)
  | ((with_reducible refine mod_int ?hc ?_); (case hc => walk_at "nn"))
  | ((with_reducible refine div_int ?hc ?_); (case hc => walk_at "nn"))
  | ((with_reducible refine mul_intR ?hc ?_); (case hc => exact ⟨by decide, by decide⟩))
  | ((with_reducible refine mul_intR ?hc ?_); (case hc => exact ⟨by omega, by omega⟩))
  | ((with_reducible refine mul_intL ?hc ?_); (case hc => exact ⟨by omega, by omega⟩))
  | ((with_reducible refine pow_int ?hc ?_); (case hc => exact ⟨by decide, by decide, by decide⟩))
  | ((with_reducible refine add_str ?hc ?_); (case hc => walk_at "sz"))
  | ((with_reducible refine add_lst (xs := ?xs) (ys := ?ys) ?h1 ?h2 ?hc ?_); (case h1 => walk_at "hp"); (case h2 => walk_at "hp"); (case hc => walk_at "sz"))
  | ((with_reducible refine sl_strU ?hc ?_); (case hc => walk_at "sz"))
  | ((with_reducible refine sl_lst (xs := ?xs) ?h1 ?_); (case h1 => walk_at "hp"))
  | (with_reducible refine is_bl ?_)
  | (with_reducible refine isnt_bl ?_)
  | (with_reducible refine is_non ?_)
  | (with_reducible refine isnt_non ?_))
local macro_rules | `(tactic| walk_at "rdc") => `(tactic| first
  | ((with_reducible refine len_lst (xs := ?xs) ?h1 ?_); (case h1 => walk_at "hp"))
  | ((with_reducible refine len_tup (xs := ?xs) ?h1 ?_); (case h1 => walk_at "hp"))
  | ((with_reducible refine len_str ?hc ?_); (case hc => walk_at "sz"))
  | (with_reducible refine int_int ?_)
  | (with_reducible refine max_int ?_)
  | (with_reducible refine min_int ?_)
  | (with_reducible refine abs_int ?_)
  | (with_reducible refine isi_ii ?_)
  | (with_reducible refine isi_ib ?_)
  | (with_reducible refine isi_ss ?_)
  | (with_reducible refine isi_bb ?_)
  | ((with_reducible refine isi_tt (xs := ?xs) ?h1 ?_); (case h1 => walk_at "hp"))
  | ((with_reducible refine isi_ll (xs := ?xs) ?h1 ?_); (case h1 => walk_at "hp"))
  | ((with_reducible refine list_lst (xs := ?xs) ?h1 ?_); (case h1 => walk_at "hp"))
  | ((with_reducible refine list_tup (xs := ?xs) ?h1 ?_); (case h1 => walk_at "hp"))
  | ((with_reducible refine tuple_lst (xs := ?xs) ?h1 ?_); (case h1 => walk_at "hp"))
  | ((with_reducible refine tuple_tup (xs := ?xs) ?h1 ?_); (case h1 => walk_at "hp"))
  | ((with_reducible refine append_lst (xs := ?xs) ?h1 ?hc ?_); (case h1 => walk_at "hp"); (case hc => walk_at "sz"))
  | ((with_reducible refine clear_lst (xs := ?xs) ?h1 ?_); (case h1 => walk_at "hp"))
  | ((with_reducible refine set_lst (xs := ?xs) (k := ?k) ?h1 ?h2 ?_); (case h1 => walk_at "hp"); (case h2 => walk_at "at")))
local macro_rules | `(tactic| walk_at "rd1") => `(tactic| first
  | ((with_reducible refine rVar (v := ?v) ?h ?_); (case h => exact rfl))
  | (with_reducible refine rC ?_)
  | (with_reducible refine rCons ?_)
  | (with_reducible refine rNil ?_)
  | (with_reducible refine rOp ?_)
  | (with_reducible refine rSeq ?_)
  | (with_reducible refine rAsgN ?_)
  | (with_reducible refine rAsgT ?_)
  | (with_reducible refine rAsgS ?_)
  | (with_reducible refine rTest ?_)
  | (with_reducible refine rBl ?_)
  | (with_reducible refine rBl' ?_)
  | (with_reducible refine rInt ?_)
  | (with_reducible refine rInt' ?_)
  | (with_reducible refine rCall ?_)
  | (with_reducible refine rCB ?_)
  | (with_reducible refine rRet ?_)
  | (with_reducible refine rDrop ?_)
  | (with_reducible refine rIfS ?_)
  | (with_reducible refine rTup ?_)
  | (with_reducible refine rLst ?_)
  | (with_reducible refine ⟨Nat.le_of_ble_eq_true rfl, ?_⟩)
  | (with_reducible refine rSl ?_)
  | (with_reducible refine rPart ?_)
  | (with_reducible refine rNoPart ?_)
  | (with_reducible refine rBM ?_)
  | (with_reducible refine rBM0 ?_)
  | ((with_reducible refine tyL (xs := ?xs) ?h1 ?_); (case h1 => walk_at "hp"))
  | (with_reducible refine rM1 ?_)
  | (with_reducible refine rM0 ?_)
  | (with_reducible refine rStr ?_)
  | (with_reducible refine rTru ?_)
  | (with_reducible refine tru_bl ?_)
  | (with_reducible refine tru_int ?_)
  | ((with_reducible refine tru_lst (xs := ?xs) ?h1 ?_); (case h1 => walk_at "hp"))
  | ((with_reducible refine tru_tup (xs := ?xs) ?h1 ?_); (case h1 => walk_at "hp"))
  | ((with_reducible refine tru_str ?hc ?_); (case hc => walk_at "sz"))
  | (with_reducible refine rAnd ?_)
  | (with_reducible refine rOr ?_)
  | (with_reducible refine rNot ?_)
  | (with_reducible refine rAndV ?_)
  | (with_reducible refine rOrV ?_)
  | (with_reducible refine rNotV ?_)
  | (with_reducible refine rIfE ?_)
  | (with_reducible refine rChain ?_)
  | (with_reducible refine rChain3 ?_)
  | (with_reducible refine ifT ?_)
  | (with_reducible refine ifF ?_)
  | (with_reducible refine ifNF ?_)
  | (with_reducible refine ifNT ?_)
  | (with_reducible refine rNext ?_)
  | (with_reducible refine rBrk ?_)
  | (with_reducible refine rCnt ?_)
  | (with_reducible refine rRetN ?_)
  | (with_reducible refine rForR1 ?_)
  | (with_reducible refine rForR2 ?_)
  | (with_reducible refine rForL ?_)
  | ((with_reducible refine rRg1 ?hb ?_); (case hb => walk_at "nn"))
  | ((with_reducible refine rRg2 ?hb ?_); (case hb => walk_at "nn"))
  | ((with_reducible refine rRf (xs := ?xs) ?h1 ?_); (case h1 => walk_at "hp"))
  | (with_reducible refine rLcR1 ?_)
  | (with_reducible refine rLcR2 ?_)
  | (with_reducible refine rLcL ?_)
  | (with_reducible refine gN ?_)
  | (with_reducible refine gNl ?_)
  | (with_reducible refine gC ?_)
  | ((with_reducible refine gT (xs := ?xs) ?h1 ?h2 ?_); (case h1 => walk_at "hp"); (case h2 => exact rfl))
  | (with_reducible refine rUn ?_)
  | walk_at "rdv"
  | walk_at "rdc")
local macro_rules | `(tactic| walk_at "rd") => `(tactic| repeat walk_at "rd1")

/-- a list of edits, as it comes of a def -/
def sp_law_edit_row : Sp := fun vs H Q _ => ∃ (r : Addr) (t : Str) (n : Int), vs = [.ref r, .str t, .int n] ∧ Reel H r ∧ t.length ≤ 5000 ∧ Ok t ∧ 0 ≤ n ∧ n ≤ 300 ∧
  ∀ (p : Addr) (us : List V) (es : List Ed) (H' : Hp), SL r H H' → Reel H' r → Frs H p → H' p = some (.lst us) → Edits H' us es → es.length = n.toNat → (∀ x ∈ es, Nm x) → fits t.length es → sza t.length es ≤ 5000 → Q (.ref p) H'
theorem use_edit_row {r : Addr} {t : Str} {n : Int} {H : Hp} {Q : VK} {E : XK} (hR : Reel H r) (ht : t.length ≤ 5000 ∧ Ok t) (hn : 0 ≤ n ∧ n ≤ 300)
    (h : ∀ (p : Addr) (us : List V) (es : List Ed) (H' : Hp), SL r H H' → Reel H' r → Frs H p → H' p = some (.lst us) → Edits H' us es → es.length = n.toNat → (∀ x ∈ es, Nm x) → fits t.length es → sza t.length es ≤ 5000 → Q (.ref p) H') :
    sp_law_edit_row [.ref r, .str t, .int n] H Q E := ⟨r, t, n, rfl, hR, ht.1, ht.2, hn.1, hn.2, h⟩
section
variable {P : Program} {w : World} {K : PySem.W.Frag} {mg : Str → Option Value} {base : Heap}
theorem cal_law_edit_row {f : Addr} {fd : FuncData} (T : Txt mg) (FD : C8.Def K mg "_law_edit_row" s_law_edit_row f fd) (b : Binds K fd ["reel", "text", "count"] [])
    (c_law_draw : C8.Cal P w K mg base 1 "_law_draw" sp_law_draw [])
    (c_law_new : C8.Cal P w K mg base 4 "_law_new" sp_law_new [])
    (c_law_pick : C8.Cal P w K mg base 2 "_law_pick" sp_law_pick []) : C8.Cal P w K mg base 5 "_law_edit_row" sp_law_edit_row [] := by
  refine C8.cal0 FD b .nil sc_law_edit_row (fun vs H Q E h => ?_) (fun cdv A outer s H vs Q E hr h => ?_)
  · obtain ⟨r, t, n, rfl, _⟩ := h; rfl
  · obtain ⟨r, t, n, rfl, hR, ht, htk, hn0, hn1, k⟩ := h
    refine ⟨_, (pss_cons (ps_set (i := 3) sc_law_edit_row.nd rfl (.inl rfl) (pe_lst pa_nil))
  (pss_cons (ps_set (i := 4) sc_law_edit_row.nd rfl (.inl rfl) (pv 1))
  (pss_cons (ps_set (i := 5) sc_law_edit_row.nd rfl (.inl rfl) pe_int)
  (pss_cons (ps_for PassesOwn.never rfl (pi_range1 rfl T.n_range (pa_cons (pv 2) pa_nil)) (pg_name (i := 6) sc_law_edit_row.nd rfl (.inl rfl)) (pss_cons (ps_set (i := 7) sc_law_edit_row.nd rfl (.inl rfl) (C8.pe_c c_law_draw hr (by decide) (by rfl) (pa_cons (pv 0) (pa_cons pe_int pa_nil))))
  (pss_cons (ps_set (i := 8) sc_law_edit_row.nd rfl (.inl rfl) (C8.pe_c c_law_draw hr (by decide) (by rfl) (pa_cons (pv 0) (pa_cons (pe_op (op_addK K) (pe_callB (call_lenK K) (by rfl) T.n_len PySem.boot_len (pa_cons (pv 4) pa_nil)) pe_int) pa_nil))))
  (C8.pss_cut (ps_if (pt_cmpR op_ltU (pv 7) pe_int (nomark _)) (pss_one (ps_set (i := 8) sc_law_edit_row.nd rfl (.inl rfl) (pe_callB (call_min2U rfl) (by rfl) T.n_min (by decide +kernel) (pa_cons (pe_callB (call_lenK K) (by rfl) T.n_len PySem.boot_len (pa_cons (pv 4) pa_nil)) (pa_cons (pe_callB (call_max2U rfl) (by rfl) T.n_max (by decide +kernel) (pa_cons pe_int (pa_cons (pe_op op_subU (pe_op (op_addK K) (pv 5) (C8.pe_c c_law_draw hr (by decide) (by rfl) (pa_cons (pv 0) (pa_cons pe_int pa_nil)))) pe_int) pa_nil))) pa_nil))))) (pss_one (ps_if (pt_cmpR (op_eqK K (hu64 hr)) (pv 7) pe_int (nomark _)) (pss_one (ps_set (i := 8) sc_law_edit_row.nd rfl (.inl rfl) (pe_callB (call_max2U rfl) (by rfl) T.n_max (by decide +kernel) (pa_cons pe_int (pa_cons (pe_op op_subU (pe_callB (call_lenK K) (by rfl) T.n_len PySem.boot_len (pa_cons (pv 4) pa_nil)) (C8.pe_c c_law_draw hr (by decide) (by rfl) (pa_cons (pv 0) (pa_cons pe_int pa_nil)))) pa_nil))))) pss_nil)))
  (pss_cons (ps_set (i := 9) sc_law_edit_row.nd rfl (.inl rfl) (pe_callB (call_min2U rfl) (by rfl) T.n_min (by decide +kernel) (pa_cons (pe_callB (call_lenK K) (by rfl) T.n_len PySem.boot_len (pa_cons (pv 4) pa_nil)) (pa_cons (pe_op (op_addK K) (pv 8) (C8.pe_c c_law_pick hr (by decide) (by rfl) (pa_cons (pv 0) (pa_cons (pe_lst (pa_cons pe_int (pa_cons pe_int (pa_cons pe_int (pa_cons pe_int (pa_cons pe_int (pa_cons pe_int (pa_cons pe_int (pa_cons pe_int (pa_cons (pe_op op_divU (pe_callB (call_lenK K) (by rfl) T.n_len PySem.boot_len (pa_cons (pv 4) pa_nil)) pe_int) pa_nil)))))))))) pa_nil)))) pa_nil))))
  (pss_cons (ps_set (i := 10) sc_law_edit_row.nd rfl (.inl rfl) (C8.pe_c c_law_new hr (by decide) (by rfl) (pa_cons (pv 0) pa_nil)))
  (C8.pss_cut (ps_if (PW.pt (pw_and (pt_cmpR (op_eqK K (hu64 hr)) (pv 7) pe_int (nomark _)) (pw_and1 (pt_truK K (pv 3) (by intro _; rfl))))) (pss_cons (ps_set (i := 8) sc_law_edit_row.nd rfl (.inl rfl) (pe_ix (ix_K K) (pe_ix (ix_K K) (pv 3) (pe_un un_neg pe_int) (fun _ _ => rfl)) pe_int (fun _ _ => rfl)))
  (pss_cons (ps_set (i := 9) sc_law_edit_row.nd rfl (.inl rfl) (pe_op (op_addK K) (pv 8) (pe_callB (call_lenK K) (by rfl) T.n_len PySem.boot_len (pa_cons (pe_ix (ix_K K) (pe_ix (ix_K K) (pv 3) (pe_un un_neg pe_int) (fun _ _ => rfl)) pe_int (fun _ _ => rfl)) pa_nil))))
  (pss_one (ps_set (i := 10) sc_law_edit_row.nd rfl (.inl rfl) pe_str)))) (pss_one (ps_if (pt_cmpR (op_eqK K (hu64 hr)) (pv 7) pe_int (nomark _)) (pss_one (ps_set (i := 10) sc_law_edit_row.nd rfl (.inl rfl) (pe_slice (sl_K K) (pv 4) (po_some (pv 8)) (po_some (pv 9))))) (pss_one (ps_if (pt_cmpR (op_eqK K (hu64 hr)) (pv 7) pe_int (nomark _)) (pss_cons (ps_set (i := 8) sc_law_edit_row.nd rfl (.inl rfl) pe_int)
  (pss_one (ps_set (i := 9) sc_law_edit_row.nd rfl (.inl rfl) (C8.pe_c c_law_pick hr (by decide) (by rfl) (pa_cons (pv 0) (pa_cons (pe_lst (pa_cons pe_int (pa_cons (pe_callB (call_min2U rfl) (by rfl) T.n_min (by decide +kernel) (pa_cons pe_int (pa_cons (pe_callB (call_lenK K) (by rfl) T.n_len PySem.boot_len (pa_cons (pv 4) pa_nil)) pa_nil))) (pa_cons (pe_callB (call_lenK K) (by rfl) T.n_len PySem.boot_len (pa_cons (pv 4) pa_nil)) pa_nil)))) pa_nil)))))) pss_nil)))))
  (C8.pss_cut (ps_if (pt_cmpR op_gtU (pe_op (op_addK K) (pe_callB (call_lenK K) (by rfl) T.n_len PySem.boot_len (pa_cons (pv 4) pa_nil)) (pe_callB (call_lenK K) (by rfl) T.n_len PySem.boot_len (pa_cons (pv 10) pa_nil))) pe_int (nomark _)) (pss_one (ps_set (i := 10) sc_law_edit_row.nd rfl (.inl rfl) pe_str)) pss_nil)
  (pss_cons (ps_expr (pe_bm F.plainAttrs_list F.slot_list_append F.type_list_append mt_append (pv 3) (pa_cons (pe_tup (pa_cons (pv 8) (pa_cons (pv 9) (pa_cons (pv 10) pa_nil)))) pa_nil)))
  (pss_cons (ps_set (i := 5) sc_law_edit_row.nd rfl (.inl rfl) (pe_op (op_addK K) (pv 8) (C8.pe_c c_law_draw hr (by decide) (by rfl) (pa_cons (pv 0) (pa_cons (pe_op (op_addK K) (pe_callB (call_lenK K) (by rfl) T.n_len PySem.boot_len (pa_cons (pv 10) pa_nil)) pe_int) pa_nil)))))
  (pss_one (ps_set (i := 4) sc_law_edit_row.nd rfl (.inl rfl) (pe_op (op_addK K) (pe_op (op_addK K) (pe_slice (sl_K K) (pv 4) po_none (po_some (pv 8))) (pv 10)) (pe_slice (sl_K K) (pv 4) (po_some (pv 9)) po_none))))))))))))))
  (pss_one (ps_ret (pv 3))))))), ?_⟩
    show (_ : TS) _ [some (.ref r), some (.str t), some (.int n), none, none, none, none, none, none, none, none] H
    walk_at "rd"
    refine newO_gen fun e H0 f0 s0 h0 => ?_
    have her : e ≠ r := (hR.ne f0).symm
    walk_at "rd"
    refine loopR_by (fun i σ' H' => ∃ (us : List V) (es : List Ed) (now : Str) (near : Int) (o6 o7 o8 o9 o10 : Option V), σ' = [some (.ref r), some (.str t), some (.int n), some (.ref e), some (.str now), some (.int near), o6, o7, o8, o9, o10] ∧
      SL r H H' ∧ Reel H' r ∧ H' e = some (.lst us) ∧ Edits H' us es ∧ es.length = i ∧ (∀ x ∈ es, Nm x) ∧ fits t.length es ∧ (now.length : Int) = sza t.length es ∧ now.length ≤ 5000 ∧ Ok now ∧
      ∀ es' x, es = es' ++ [x] → 0 ≤ x.s ∧ x.s + (x.n.length : Int) ≤ (now.length : Int)) ?_ ?_ ?_
    · exact ⟨[], [], t, 0, none, none, none, none, none, rfl, hR.sl0 s0, hR.same s0, h0, .nil, rfl, fun _ h => (nomatch h), trivial, rfl, ht, htk, fun es' x h => by simp at h⟩
    · rintro i σ' Hi hi ⟨us, es, now, near, o6, o7, o8, o9, o10, rfl, si, ri, hei, edi, hl, hnew, hfit, hsz, hnow, hnok, hlast⟩
      have hul := Paired.len edi
      walk_at "rd"
      refine use_draw ri (by omega) fun fm H1 a1 b1 s1 r1 => ?_
      walk_at "rd"
      refine use_draw r1 (by omega) fun st0 H2 a2 b2 s2 r2 => ?_
      walk_at "rd"
      refine rCut (fun σ' H' => ∃ st : Int, σ' = [some (.ref r), some (.str t), some (.int n), some (.ref e), some (.str now), some (.int near), some (.int (0 + (i : Int))), some (.int fm), some (.int st), o9, o10] ∧ 0 ≤ st ∧ st ≤ (now.length : Int) ∧ SL r H2 H' ∧ Reel H' r) ?_ ?_
      · walk_at "rd"
        refine ifD (fun c => ?_) (fun c => ?_)
        · walk_at "rd"
          refine use_draw r2 (by omega) fun d H3 a3 b3 s3 r3 => ?_
          walk_at "rd"
          refine ⟨_, rfl, ?_, ?_, s3, r3⟩
          · (repeat' split) <;> omega
          · (repeat' split) <;> omega
        · walk_at "rd"
          refine ifD (fun c => ?_) (fun c => ?_)
          · walk_at "rd"
            refine use_draw r2 (by omega) fun d H3 a3 b3 s3 r3 => ?_
            walk_at "rd"
            refine ⟨_, rfl, ?_, ?_, s3, r3⟩
            · (repeat' split) <;> omega
            · (repeat' split) <;> omega
          · walk_at "rd"
            exact ⟨_, rfl, a2, by omega, r2.refl, r2⟩
      rintro σ' H3 ⟨st, rfl, st0, st1, s3, r3⟩
      walk_at "rd"
      refine newO_gen fun p4 H4 f4 s4 h4 => ?_
      walk_at "rd"
      refine use_pickI (lo := 0) (hi := 5000) (r3.same s4) h4 (r3.ne f4).symm (Nat.zero_lt_succ _) (by repeat (first | exact AllI.nil | refine AllI.cons (by omega) ?_)) fun pk H5 a5 b5 s5 r5 => ?_
      walk_at "rd"
      generalize hen0 : (if st + pk < (now.length : Int) then st + pk else (now.length : Int)) = en0
      have hen1 : st ≤ en0 := by rw [← hen0]; split <;> omega
      have hen2 : en0 ≤ (now.length : Int) := by rw [← hen0]; split <;> omega
      refine use_txt r5 fun nw0 H6 hnw0 hok0 s6 r6 => ?_
      have s26 := (s1.trans s2).trans (((s3.more s4).trans s5).trans s6)
      have he6 : H6 e = some (.lst us) := s26.keep e _ her hei
      have ed6 : Edits H6 us es := edi.ts (TpS.sl s26)
      walk_at "rd"
      refine rCut (fun σ' H' => ∃ (st en : Int) (nw : Str), σ' = [some (.ref r), some (.str t), some (.int n), some (.ref e), some (.str now), some (.int near), some (.int (0 + (i : Int))), some (.int fm), some (.int st), some (.int en), some (.str nw)] ∧ 0 ≤ st ∧ st ≤ en ∧ en ≤ (now.length : Int) ∧ nw.length ≤ 5000 ∧ Ok nw ∧ SL r H6 H' ∧ Reel H' r) ?_ ?_
      · walk_at "rd"
        refine ifD (fun c => ?_) (fun c => ?_)
        · walk_at "rd"
          refine ifB (fun c2 => ?_) (fun c2 => ?_)
          · obtain ⟨us', v, rfl⟩ : ∃ us' v, us = us' ++ [v] := by
              rcases List.eq_nil_or_concat us with h | ⟨us', v, h⟩
              · rw [h] at c2; simp at c2
              · exact ⟨us', v, by rw [h, List.concat_eq_append]⟩
            obtain ⟨es', x, rfl, _, px, rfl, hpx⟩ := Paired.last ed6
            have hx := hlast es' x rfl
            have hxn := (hnew x (by simp)).1
            have hat : atI (us' ++ [V.ref px]) (-1) = some (V.ref px) := atI_last _ _
            walk_at "rd"
            exact ⟨_, _, _, rfl, hx.1, by omega, hx.2, by decide +kernel, by decide +kernel, r6.refl, r6⟩
          · walk_at "rd"
            refine ifD (fun d => by exfalso; omega) (fun d => ?_)
            walk_at "rd"
            refine ifD (fun d => by exfalso; omega) (fun d => ?_)
            walk_at "rd"
            exact ⟨_, _, _, rfl, st0, hen1, hen2, by omega, hok0, r6.refl, r6⟩
        · walk_at "rd"
          refine ifD (fun d => ?_) (fun d => ?_)
          · walk_at "rd"
            exact ⟨_, _, _, rfl, st0, hen1, hen2, Nat.le_trans (cutS_length _ _ _) hnow, hnok.cut _ _, r6.refl, r6⟩
          · walk_at "rd"
            refine ifD (fun d => ?_) (fun d => ?_)
            · walk_at "rd"
              refine newO_gen fun pA HA fA sA hA => ?_
              walk_at "rd"
              refine use_pickI (lo := 0) (hi := now.length) (r6.same sA) hA (r6.ne fA).symm (Nat.zero_lt_succ _) (.cons (by omega) (.cons (by split <;> omega) (.cons (by omega) .nil))) fun pk2 HB aB bB sB rB => ?_
              walk_at "rd"
              exact ⟨_, _, _, rfl, Int.le_refl _, aB, bB, by omega, hok0, (r6.sl0 sA).trans sB, rB⟩
            · walk_at "rd"
              exact ⟨_, _, _, rfl, st0, hen1, hen2, by omega, hok0, r6.refl, r6⟩
      rintro σ' H7 ⟨st, en, nw, rfl, e0, e1, e2, e3, e4, s7, r7⟩
      have he7 : H7 e = some (.lst us) := s7.keep e _ her he6
      walk_at "rd"
      refine rCut (fun σ' H' => ∃ (nw : Str), σ' = [some (.ref r), some (.str t), some (.int n), some (.ref e), some (.str now), some (.int near), some (.int (0 + (i : Int))), some (.int fm), some (.int st), some (.int en), some (.str nw)] ∧ nw.length ≤ 2000 ∧ now.length + nw.length ≤ 5000 ∧ Ok nw ∧ H' = H7) ?_ ?_
      · walk_at "rd"
        refine ifD (fun c => ?_) (fun c => ?_)
        · walk_at "rd"
          exact ⟨_, rfl, by decide +kernel, by show now.length + 0 ≤ _; omega, by decide +kernel, rfl⟩
        · walk_at "rd"
          exact ⟨_, rfl, by omega, by omega, e4, rfl⟩
      rintro σ' H7 ⟨nw, rfl, g1, g2, g3, rfl⟩
      walk_at "rd"
      refine newO_gen fun p8 H8 f8 s8 h8 => ?_
      walk_at "rd"
      have he8 : H8 e = some (.lst us) := s8 _ _ he7
      have hre : r ≠ e := her.symm
      refine putO_gen he8 fun H9 s9 h9 => ?_
      have r9 : Reel H9 r := (r7.same s8).sl s9 hre
      walk_at "rd"
      refine use_draw r9 (by omega) fun nr H10 a10 b10 s10 r10 => ?_
      have q1 := cutS_length now none (some st)
      have q2 := cutS_length now (some en) none
      have q3 := len_app (cutS now none (some st)) nw
      walk_at "rd"
      have hf : fit1 now.length ⟨st, en, nw⟩ := ⟨e0, e1, e2⟩
      have hla := len_ap (t := now) hf
      have hst : SL r H9 H10 := s10
      have sA : SL r H H8 := ((si.trans s26).trans s7).more s8
      have sB : SL r H H10 := (SL.two sA s9 f0).trans s10
      refine ⟨us ++ [V.ref p8], es ++ [⟨st, en, nw⟩], ap now ⟨st, en, nw⟩, st + nr, _, _, _, _, _, rfl, sB, r10, s10.keep e _ her h9, ?_, ?_, ?_, fits_snoc hfit (by rw [← hsz]; exact hf), ?_, ?_, hnok.ap g3, ?_⟩
      · have t1 : TpS H6 H10 := (TpS.sl s7).trans ((TpS.same s8).trans ((TpS.sl s9).trans (TpS.sl s10)))
        exact Paired.snoc (ed6.ts t1) ⟨p8, rfl, s10.tup (s9.tup h8)⟩
      · rw [List.length_append, hl]; rfl
      · intro x hx
        rcases List.mem_append.mp hx with hx | hx
        · exact hnew x hx
        · rw [List.mem_singleton.mp hx]; exact ⟨g1, g3⟩
      · rw [hla, sza_snoc, hsz]
      · have : ((ap now ⟨st, en, nw⟩).length : Int) ≤ 5000 := by rw [hla]; show (now.length : Int) - (en - st) + (nw.length : Int) ≤ 5000; omega
        omega
      · intro es2 x h
        obtain ⟨_, h2⟩ := List.append_inj' h rfl
        have e3 : x = ⟨st, en, nw⟩ := by simpa using h2.symm
        rw [e3, hla]
        show 0 ≤ st ∧ st + (nw.length : Int) ≤ (now.length : Int) - (en - st) + (nw.length : Int)
        omega
    · rintro σ' H' ⟨us, es, now, near, o6, o7, o8, o9, o10, rfl, si, ri, hei, edi, hl, hnew, hfit, hsz, hnow, hnok, hlast⟩
      walk_at "rd"
      exact k e us es H' si ri f0 hei edi (by omega) hnew hfit (by omega)
end
end Z
namespace Z
open PySem PySem.Spec L2
local macro_rules | `(tactic| walk_at "ne") => `(tactic| first
  | with_reducible assumption
  | with_reducible exact Ne.symm (by assumption)
  | exact Frs.ne (by with_reducible assumption) (by walk_at "hp")
  | exact Frs.ne' (by with_reducible assumption) (by walk_at "hp"))
local macro_rules | `(tactic| walk_at "hp") => `(tactic| first
  | with_reducible assumption
  | (with_reducible refine Same.at (by assumption) ?_; walk_at "hp")
  | (with_reducible refine SL.tup (by assumption) ?_; walk_at "hp")
  | (with_reducible refine SL.at (by assumption) (by walk_at "ne") ?_; walk_at "hp"))
local macro_rules | `(tactic| walk_at "sz") => `(tactic| first
  | with_reducible assumption
  | exact Nat.le_of_ble_eq_true rfl
  | (refine sz_le ?_; omega)
  | (refine sz_lt ?_; omega)
  | decide +kernel)
local macro_rules | `(tactic| walk_at "at") => `(tactic| first
  | with_reducible assumption
  | with_reducible exact at0
  | with_reducible exact at1
  | with_reducible exact at2
  | with_reducible exact ixN0)
local macro_rules | `(tactic| walk_at "nn") => `(tactic| first
  | omega
  | decide
  | exact ⟨by decide, by decide⟩
  | exact ⟨by omega, by omega⟩
  | exact ⟨by omega, by omega, by omega, by omega⟩)
local macro_rules | `(tactic| walk_at "rdv") => `(tactic| first
  | (with_reducible refine add_int ?_)
  | (with_reducible refine sub_int ?_)
  | (with_reducible refine neg_int ?_)
  | ((with_reducible refine ix_tpl (xs := ?xs) (v := ?v) ?h1 ?h2 ?_); (case h1 => walk_at "hp"); (case h2 => walk_at "at"))
  | ((with_reducible refine ix_lst (xs := ?xs) (v := ?v) ?h1 ?h2 ?_); (case h1 => walk_at "hp"); (case h2 => walk_at "at"))
  | (with_reducible refine eq_int ?_)
  | (with_reducible refine ne_int ?_)
  | (with_reducible refine lt_int ?_)
  | (with_reducible refine le_int ?_)
  | (with_reducible refine gt_int ?_)
  | (with_reducible refine ge_int ?_)
  | (with_reducible refine eq_str ?_)
  | (with_reducible refine ne_str ?_)
  | (with_reducible refine eq_bl ?_)
  | (with_reducible refine ne_bl ?_)
  | ((with_reducible refine mod_int ?hc ?_); (case hc => walk_at "nn"))
  | ((with_reducible refine div_int ?hc ?_); (case hc => walk_at "nn"))
  | ((with_reducible refine mul_intR ?hc ?_); (case hc => exact ⟨by decide, by decide⟩))
  | ((with_reducible refine mul_intR ?hc ?_); (case hc => exact ⟨by omega, by omega⟩))
  | ((with_reducible refine mul_intL ?hc ?_); (case hc => exact ⟨by omega, by omega⟩))
  | ((with_reducible refine pow_int ?hc ?_); (case hc => exact ⟨by decide, by decide, by decide⟩))
  | ((with_reducible refine add_str ?hc ?_); (case hc => walk_at "sz"))
  | ((with_reducible refine add_lst (xs := ?xs) (ys := ?ys) ?h1 ?h2 ?hc ?_); (case h1 => walk_at "hp"); (case h2 => walk_at "hp"); (case hc => walk_at "sz"))
  | ((with_reducible refine sl_strU ?hc ?_); (case hc => walk_at "sz"))
  | ((with_reducible refine sl_lst (xs := ?xs) ?h1 ?_); (case h1 => walk_at "hp"))
  | (with_reducible refine is_bl ?_)
  | (with_reducible refine isnt_bl ?_)
  | (with_reducible refine is_non ?_)
  | (with_reducible refine isnt_non ?_))
local macro_rules | `(tactic| walk_at "rdc") => `(tactic| first
  | ((with_reducible refine len_lst (xs := ?xs) ?h1 ?_); (case h1 => walk_at "hp"))
  | ((with_reducible refine len_tup (xs := ?xs) ?h1 ?_); (case h1 => walk_at "hp"))
  | ((with_reducible refine len_str ?hc ?_); (case hc => walk_at "sz"))
  | (with_reducible refine int_int ?_)
  | (with_reducible refine max_int ?_)
  | (with_reducible refine min_int ?_)
  | (with_reducible refine abs_int ?_)
  | (with_reducible refine isi_ii ?_)
  | (with_reducible refine isi_ib ?_)
  | (with_reducible refine isi_ss ?_)
  | (with_reducible refine isi_bb ?_)
  | ((with_reducible refine isi_tt (xs := ?xs) ?h1 ?_); (case h1 => walk_at "hp"))
  | ((with_reducible refine isi_ll (xs := ?xs) ?h1 ?_); (case h1 => walk_at "hp"))
  | ((with_reducible refine list_lst (xs := ?xs) ?h1 ?_); (case h1 => walk_at "hp"))
  | ((with_reducible refine list_tup (xs := ?xs) ?h1 ?_); (case h1 => walk_at "hp"))
  | ((with_reducible refine tuple_lst (xs := ?xs) ?h1 ?_); (case h1 => walk_at "hp"))
  | ((with_reducible refine tuple_tup (xs := ?xs) ?h1 ?_); (case h1 => walk_at "hp"))
  | ((with_reducible refine append_lst (xs := ?xs) ?h1 ?hc ?_); (case h1 => walk_at "hp"); (case hc => walk_at "sz"))
  | ((with_reducible refine clear_lst (xs := ?xs) ?h1 ?_); (case h1 => walk_at "hp"))
  | ((with_reducible refine set_lst (xs := ?xs) (k := ?k) ?h1 ?h2 ?_); (case h1 => walk_at "hp"); (case h2 => walk_at "at")))
local macro_rules | `(tactic| walk_at "rd1") => `(tactic| first
  | ((with_reducible refine rVar (v := ?v) ?h ?_); (case h => exact rfl))
  | (with_reducible refine rC ?_)
  | (with_reducible refine rCons ?_)
  | (with_reducible refine rNil ?_)
  | (with_reducible refine rOp ?_)
  | (with_reducible refine rSeq ?_)
  | (with_reducible refine rAsgN ?_)
  | (with_reducible refine rAsgT ?_)
  | (with_reducible refine rAsgS ?_)
  | (with_reducible refine rTest ?_)
  | (with_reducible refine rBl ?_)
  | (with_reducible refine rBl' ?_)
  | (with_reducible refine rInt ?_)
  | (with_reducible refine rInt' ?_)
  | (with_reducible refine rCall ?_)
  | (with_reducible refine rCB ?_)
  | (with_reducible refine rRet ?_)
  | (with_reducible refine rDrop ?_)
  | (with_reducible refine rIfS ?_)
  | (with_reducible refine rTup ?_)
  | (with_reducible refine rLst ?_)
  | (with_reducible refine ⟨Nat.le_of_ble_eq_true rfl, ?_⟩)
  | (with_reducible refine rSl ?_)
  | (with_reducible refine rPart ?_)
  | (with_reducible refine rNoPart ?_)
  | (with_reducible refine rBM ?_)
  | (with_reducible refine rBM0 ?_)
  | ((with_reducible refine tyL (xs := ?xs) ?h1 ?_); (case h1 => walk_at "hp"))
  | (with_reducible refine rM1 ?_)
  | (with_reducible refine rM0 ?_)
  | (with_reducible refine rStr ?_)
  | (with_reducible refine rTru ?_)
  | (with_reducible refine tru_bl ?_)
  | (with_reducible refine tru_int ?_)
  | ((with_reducible refine tru_lst (xs := ?xs) ?h1 ?_); (case h1 => walk_at "hp"))
  | ((with_reducible refine tru_tup (xs := ?xs) ?h1 ?_); (case h1 => walk_at "hp"))
  | ((with_reducible refine tru_str ?hc ?_); (case hc => walk_at "sz"))
  | (with_reducible refine rAnd ?_)
  | (with_reducible refine rOr ?_)
  | (with_reducible refine rNot ?_)
  | (with_reducible refine rAndV ?_)
  | (with_reducible refine rOrV ?_)
  | (with_reducible refine rNotV ?_)
  | (with_reducible refine rIfE ?_)
  | (with_reducible refine rChain ?_)
  | (with_reducible refine rChain3 ?_)
  | (with_reducible refine ifT ?_)
  | (with_reducible refine ifF ?_)
  | (with_reducible refine ifNF ?_)
  | (with_reducible refine ifNT ?_)
  | (with_reducible refine rNext ?_)
  | (with_reducible refine rBrk ?_)
  | (with_reducible refine rCnt ?_)
  | (with_reducible refine rRetN ?_)
  | (with_reducible refine rForR1 ?_)
  | (with_reducible refine rForR2 ?_)
  | (with_reducible refine rForL ?_)
  | ((with_reducible refine rRg1 ?hb ?_); (case hb => walk_at "nn"))
  | ((with_reducible refine rRg2 ?hb ?_); (case hb => walk_at "nn"))
  | ((with_reducible refine rRf (xs := ?xs) ?h1 ?_); (case h1 => walk_at "hp"))
  | (with_reducible refine rLcR1 ?_)
  | (with_reducible refine rLcR2 ?_)
  | (with_reducible refine rLcL ?_)
  | (with_reducible refine gN ?_)
  | (with_reducible refine gNl ?_)
  | (with_reducible refine gC ?_)
  | ((with_reducible refine gT (xs := ?xs) ?h1 ?h2 ?_); (case h1 => walk_at "hp"); (case h2 => exact rfl))
  | (with_reducible refine rUn ?_)
  | walk_at "rdv"
  | walk_at "rdc")
local macro_rules | `(tactic| walk_at "rd") => `(tactic| repeat walk_at "rd1")

def sp_law_number : Sp := fun vs H Q _ => ∃ i : Int, vs = [.int i] ∧ Q (.bl true) H
theorem use_number {i : Int} {H : Hp} {Q : VK} {E : XK} (h : Q (.bl true) H) : sp_law_number [.int i] H Q E := ⟨i, rfl, h⟩
def sp_law_unfit : Sp := fun vs H Q _ => ∃ (r : Addr) (n : Int), vs = [.ref r, .int n] ∧ Reel H r ∧ 0 ≤ n ∧
  ∀ (p : Addr) (a b : Int) (x : Str) (H' : Hp), x.length ≤ 2 → Ok x → SL r H H' → Reel H' r → H' p = some (.tup [.int a, .int b, .str x]) → Q (.ref p) H'
theorem use_unfit {r : Addr} {n : Int} {H : Hp} {Q : VK} {E : XK} (hR : Reel H r) (hn : 0 ≤ n)
    (h : ∀ (p : Addr) (a b : Int) (x : Str) (H' : Hp), x.length ≤ 2 → Ok x → SL r H H' → Reel H' r → H' p = some (.tup [.int a, .int b, .str x]) → Q (.ref p) H') : sp_law_unfit [.ref r, .int n] H Q E := ⟨r, n, rfl, hR, hn, h⟩
def sp_law_planted : Sp := fun vs H Q _ => ∃ (r p : Addr) (t : Str) (us : List V) (es : List Ed) (m : Int), vs = [.ref r, .str t, .ref p, .int m] ∧ Reel H r ∧ p ≠ r ∧ t.length ≤ 5000 ∧ H p = some (.lst us) ∧ Edits H us es ∧ fits t.length es ∧ es.length ≤ 300 ∧ (∀ x ∈ es, Nm x) ∧ 0 ≤ m ∧ m ≤ 10 ∧
  ∀ (q : Addr) (us' : List V) (es' : List Ed) (H' : Hp), SL r H H' → Reel H' r → Frs H q → H' q = some (.lst us') → Edits H' us' es' → Small es' → Q (.ref q) H'
section
variable {P : Program} {w : World} {K : PySem.W.Frag} {mg : Str → Option Value} {base : Heap}
theorem cal_law_number {f : Addr} {fd : FuncData} (T : Txt mg) (FD : C8.Def K mg "_law_number" s_law_number f fd) (b : Binds K fd ["value"] []) : C8.Cal P w K mg base 1 "_law_number" sp_law_number [] := by
  refine C8.cal0 FD b .nil sc_law_number (fun vs H Q E h => ?_) (fun cdv A outer s H vs Q E hr h => ?_)
  · obtain ⟨i, rfl, _⟩ := h; rfl
  · obtain ⟨i, rfl, k⟩ := h
    refine ⟨_, (pss_one (ps_ret (pe_and (pe_callB (call_isiK' K) (by rfl) T.n_isinstance (by decide +kernel) (pa_cons (pv 0) (pa_cons (pe_bltn (v := .ty "int") (by rfl) T.n_int (by decide +kernel) rfl) pa_nil))) (pe_one (pe_not (pe_callB (call_isiK' K) (by rfl) T.n_isinstance (by decide +kernel) (pa_cons (pv 0) (pa_cons (pe_bltn (v := .ty "bool") (by rfl) T.n_bool (by decide +kernel) rfl) pa_nil)))))))), ?_⟩
    show (_ : TS) _ [some (.int i)] H
    walk_at "rd"
    exact k
end
end Z
namespace Z
open PySem PySem.Spec L2
local macro_rules | `(tactic| walk_at "ne") => `(tactic| first
  | with_reducible assumption
  | with_reducible exact Ne.symm (by assumption)
  | exact Frs.ne (by with_reducible assumption) (by walk_at "hp")
  | exact Frs.ne' (by with_reducible assumption) (by walk_at "hp"))
local macro_rules | `(tactic| walk_at "hp") => `(tactic| first
  | with_reducible assumption
  | (with_reducible refine Same.at (by assumption) ?_; walk_at "hp")
  | (with_reducible refine SL.tup (by assumption) ?_; walk_at "hp")
  | (with_reducible refine SL.at (by assumption) (by walk_at "ne") ?_; walk_at "hp"))
local macro_rules | `(tactic| walk_at "sz") => `(tactic| first
  | with_reducible assumption
  | exact Nat.le_of_ble_eq_true rfl
  | (refine sz_le ?_; omega)
  | (refine sz_lt ?_; omega)
  | decide +kernel)
local macro_rules | `(tactic| walk_at "at") => `(tactic| first
  | with_reducible assumption
  | with_reducible exact at0
  | with_reducible exact at1
  | with_reducible exact at2
  | with_reducible exact ixN0)
local macro_rules | `(tactic| walk_at "nn") => `(tactic| first
  | omega
  | decide
  | exact ⟨by decide, by decide⟩
  | exact ⟨by omega, by omega⟩
  | exact ⟨by omega, by omega, by omega, by omega⟩)
local macro_rules | `(tactic| walk_at "rdv") => `(tactic| first
  | (with_reducible refine add_int ?_)
  | (with_reducible refine sub_int ?_)
  | (with_reducible refine neg_int ?_)
  | ((with_reducible refine ix_tpl (xs := ?xs) (v := ?v) ?h1 ?h2 ?_); (case h1 => walk_at "hp"); (case h2 => walk_at "at"))
  | ((with_reducible refine ix_lst (xs := ?xs) (v := ?v) ?h1 ?h2 ?_); (case h1 => walk_at "hp"); (case h2 => walk_at "at"))
  | (with_reducible refine eq_int ?_)
  | (with_reducible refine ne_int ?_)
  | (with_reducible refine lt_int ?_)
  | (with_reducible refine le_int ?_)
  | (with_reducible refine gt_int ?_)
  | (with_reducible refine ge_int ?_)
  | (with_reducible refine eq_str ?_)
  | (with_reducible refine ne_str ?_)
  | (with_reducible refine eq_bl ?_)
  | (with_reducible refine ne_bl ?_)
  | ((with_reducible refine mod_int ?hc ?_); (case hc => walk_at "nn"))
  | ((with_reducible refine div_int ?hc ?_); (case hc => walk_at "nn"))
  | ((with_reducible refine mul_intR ?hc ?_); (case hc => exact ⟨by decide, by decide⟩))
  | ((with_reducible refine mul_intR ?hc ?_); (case hc => exact ⟨by omega, by omega⟩))
  | ((with_reducible refine mul_intL ?hc ?_); (case hc => exact ⟨by omega, by omega⟩))
  | ((with_reducible refine pow_int ?hc ?_); (case hc => exact ⟨by decide, by decide, by decide⟩))
  | ((with_reducible refine add_str ?hc ?_); (case hc => walk_at "sz"))
  | ((with_reducible refine add_lst (xs := ?xs) (ys := ?ys) ?h1 ?h2 ?hc ?_); (case h1 => walk_at "hp"); (case h2 => walk_at "hp"); (case hc => walk_at "sz"))
  | ((with_reducible refine sl_strU ?hc ?_); (case hc => walk_at "sz"))
  | ((with_reducible refine sl_lst (xs := ?xs) ?h1 ?_); (case h1 => walk_at "hp"))
  | (with_reducible refine is_bl ?_)
  | (with_reducible refine isnt_bl ?_)
  | (with_reducible refine is_non ?_)
  | (with_reducible refine isnt_non ?_))
local macro_rules | `(tactic| walk_at "rdc") => `(tactic| first
  | ((with_reducible refine len_lst (xs := ?xs) ?h1 ?_); (case h1 => walk_at "hp"))
  | ((with_reducible refine len_tup (xs := ?xs) ?h1 ?_); (case h1 => walk_at "hp"))
  | ((with_reducible refine len_str ?hc ?_); (case hc => walk_at "sz"))
  | (with_reducible refine int_int ?_)
  | (with_reducible refine max_int ?_)
  | (with_reducible refine min_int ?_)
  | (with_reducible refine abs_int ?_)
  | (with_reducible refine isi_ii ?_)
  | (with_reducible refine isi_ib ?_)
  | (with_reducible refine isi_ss ?_)
  | (with_reducible refine isi_bb ?_)
  | ((with_reducible refine isi_tt (xs := ?xs) ?h1 ?_); (case h1 => walk_at "hp"))
  | ((with_reducible refine isi_ll (xs := ?xs) ?h1 ?_); (case h1 => walk_at "hp"))
  | ((with_reducible refine list_lst (xs := ?xs) ?h1 ?_); (case h1 => walk_at "hp"))
  | ((with_reducible refine list_tup (xs := ?xs) ?h1 ?_); (case h1 => walk_at "hp"))
  | ((with_reducible refine tuple_lst (xs := ?xs) ?h1 ?_); (case h1 => walk_at "hp"))
  | ((with_reducible refine tuple_tup (xs := ?xs) ?h1 ?_); (case h1 => walk_at "hp"))
  | ((with_reducible refine append_lst (xs := ?xs) ?h1 ?hc ?_); (case h1 => walk_at "hp"); (case hc => walk_at "sz"))
  | ((with_reducible refine clear_lst (xs := ?xs) ?h1 ?_); (case h1 => walk_at "hp"))
  | ((with_reducible refine set_lst (xs := ?xs) (k := ?k) ?h1 ?h2 ?_); (case h1 => walk_at "hp"); (case h2 => walk_at "at")))
local macro_rules | `(tactic| walk_at "rd1") => `(tactic| first
  | ((with_reducible refine rVar (v := ?v) ?h ?_); (case h => exact rfl))
  | (with_reducible refine rC ?_)
  | (with_reducible refine rCons ?_)
  | (with_reducible refine rNil ?_)
  | (with_reducible refine rOp ?_)
  | (with_reducible refine rSeq ?_)
  | (with_reducible refine rAsgN ?_)
  | (with_reducible refine rAsgT ?_)
  | (with_reducible refine rAsgS ?_)
  | (with_reducible refine rTest ?_)
  | (with_reducible refine rBl ?_)
  | (with_reducible refine rBl' ?_)
  | (with_reducible refine rInt ?_)
  | (with_reducible refine rInt' ?_)
  | (with_reducible refine rCall ?_)
  | (with_reducible refine rCB ?_)
  | (with_reducible refine rRet ?_)
  | (with_reducible refine rDrop ?_)
  | (with_reducible refine rIfS ?_)
  | (with_reducible refine rTup ?_)
  | (with_reducible refine rLst ?_)
  | (with_reducible refine ⟨Nat.le_of_ble_eq_true rfl, ?_⟩)
  | (with_reducible refine rSl ?_)
  | (with_reducible refine rPart ?_)
  | (with_reducible refine rNoPart ?_)
  | (with_reducible refine rBM ?_)
  | (with_reducible refine rBM0 ?_)
  | ((with_reducible refine tyL (xs := ?xs) ?h1 ?_); (case h1 => walk_at "hp"))
  | (with_reducible refine rM1 ?_)
  | (with_reducible refine rM0 ?_)
  | (with_reducible refine rStr ?_)
  | (with_reducible refine rTru ?_)
  | (with_reducible refine tru_bl ?_)
  | (with_reducible refine tru_int ?_)
  | ((with_reducible refine tru_lst (xs := ?xs) ?h1 ?_); (case h1 => walk_at "hp"))
  | ((with_reducible refine tru_tup (xs := ?xs) ?h1 ?_); (case h1 => walk_at "hp"))
  | ((with_reducible refine tru_str ?hc ?_); (case hc => walk_at "sz"))
  | (with_reducible refine rAnd ?_)
  | (with_reducible refine rOr ?_)
  | (with_reducible refine rNot ?_)
  | (with_reducible refine rAndV ?_)
  | (with_reducible refine rOrV ?_)
  | (with_reducible refine rNotV ?_)
  | (with_reducible refine rIfE ?_)
  | (with_reducible refine rChain ?_)
  | (with_reducible refine rChain3 ?_)
  | (with_reducible refine ifT ?_)
  | (with_reducible refine ifF ?_)
  | (with_reducible refine ifNF ?_)
  | (with_reducible refine ifNT ?_)
  | (with_reducible refine rNext ?_)
  | (with_reducible refine rBrk ?_)
  | (with_reducible refine rCnt ?_)
  | (with_reducible refine rRetN ?_)
  | (with_reducible refine rForR1 ?_)
  | (with_reducible refine rForR2 ?_)
  | (with_reducible refine rForL ?_)
  | ((with_reducible refine rRg1 ?hb ?_); (case hb => walk_at "nn"))
  | ((with_reducible refine rRg2 ?hb ?_); (case hb => walk_at "nn"))
  | ((with_reducible refine rRf (xs := ?xs) ?h1 ?_); (case h1 => walk_at "hp"))
  | (with_reducible refine rLcR1 ?_)
  | (with_reducible refine rLcR2 ?_)
  | (with_reducible refine rLcL ?_)
  | (with_reducible refine gN ?_)
  | (with_reducible refine gNl ?_)
  | (with_reducible refine gC ?_)
  | ((with_reducible refine gT (xs := ?xs) ?h1 ?h2 ?_); (case h1 => walk_at "hp"); (case h2 => exact rfl))
  | (with_reducible refine rUn ?_)
  | walk_at "rdv"
  | walk_at "rdc")
local macro_rules | `(tactic| walk_at "rd") => `(tactic| repeat walk_at "rd1")

/-- the first that does not fit -/
def spFu : Sp := fun vs H Q _ => ∃ (L : Int) (p : Addr) (us : List V) (es : List Ed), vs = [.int L, .ref p] ∧ H p = some (.lst us) ∧ Edits H us es ∧ Mild es ∧ Q (.int (fu L es)) H
abbrev sp_first_unfit : Sp := spFu
abbrev sp_law_first_unfit : Sp := spFu
theorem use_fu {L : Int} {p : Addr} {us : List V} {es : List Ed} {H : Hp} {Q : VK} {E : XK} (hp : H p = some (.lst us)) (he : Edits H us es) (hs : Mild es) (h : Q (.int (fu L es)) H) : spFu [.int L, .ref p] H Q E := ⟨L, p, us, es, rfl, hp, he, hs, h⟩
def sp_law_splice : Sp := fun vs H Q _ => ∃ (t : Str) (p : Addr) (us : List V) (es : List Ed), vs = [.str t, .ref p] ∧ H p = some (.lst us) ∧ Edits H us es ∧ Mild es ∧ fits t.length es ∧ t.length ≤ 2000000 ∧ Mid t es ∧ Q (.str (aps t es)) H
theorem use_splice {t : Str} {p : Addr} {us : List V} {es : List Ed} {H : Hp} {Q : VK} {E : XK} (hp : H p = some (.lst us)) (he : Edits H us es) (hs : Mild es) (hf : fits t.length es) (hl : t.length ≤ 2000000) (hm : Mid t es) (h : Q (.str (aps t es)) H) : sp_law_splice [.str t, .ref p] H Q E := ⟨t, p, us, es, rfl, hp, he, hs, hf, hl, hm, h⟩
def sp_law_same_edit : Sp := fun vs H Q _ => ∃ (v u : V) (x y : Ed), vs = [v, u] ∧ EdAt H v x ∧ EdAt H u y ∧ Ok x.n ∧ Ok y.n ∧ Q (.bl (decide (x = y))) H
theorem use_same_edit {v u : V} {x y : Ed} {H : Hp} {Q : VK} {E : XK} (h1 : EdAt H v x) (h2 : EdAt H u y) (k1 : Ok x.n) (k2 : Ok y.n) (h : Q (.bl (decide (x = y))) H) : sp_law_same_edit [v, u] H Q E := ⟨v, u, x, y, rfl, h1, h2, k1, k2, h⟩
def sp_law_same_edits : Sp := fun vs H Q _ => ∃ (p q : Addr) (us ws : List V) (xs ys : List Ed), vs = [.ref p, .ref q] ∧ H p = some (.lst us) ∧ H q = some (.lst ws) ∧ Edits H us xs ∧ Edits H ws ys ∧ xs.length ≤ 1000 ∧ (∀ x ∈ xs, Ok x.n) ∧ (∀ y ∈ ys, Ok y.n) ∧ Q (.bl (decide (xs = ys))) H
theorem use_same_edits {p q : Addr} {us ws : List V} {xs ys : List Ed} {H : Hp} {Q : VK} {E : XK} (hp : H p = some (.lst us)) (hq : H q = some (.lst ws)) (h1 : Edits H us xs) (h2 : Edits H ws ys) (hl : xs.length ≤ 1000) (k1 : ∀ x ∈ xs, Ok x.n) (k2 : ∀ y ∈ ys, Ok y.n) (h : Q (.bl (decide (xs = ys))) H) :
    sp_law_same_edits [.ref p, .ref q] H Q E := ⟨p, q, us, ws, xs, ys, rfl, hp, hq, h1, h2, hl, k1, k2, h⟩
section
variable {P : Program} {w : World} {K : PySem.W.Frag} {mg : Str → Option Value} {base : Heap}
theorem cal_law_splice {f : Addr} {fd : FuncData} (T : Txt mg) (FD : C8.Def K mg "_law_splice" s_law_splice f fd) (b : Binds K fd ["text", "edits"] []) : C8.Cal P w K mg base 1 "_law_splice" sp_law_splice [] := by
  refine C8.cal0 FD b .nil sc_law_splice (fun vs H Q E h => ?_) (fun cdv A outer s H vs Q E hr h => ?_)
  · obtain ⟨t, p, us, es, rfl, _⟩ := h; rfl
  · obtain ⟨t, p, us, es, rfl, hp, hed, hsm, hfit, htl, hmid, k⟩ := h
    refine ⟨_, (pss_cons (ps_set (i := 2) sc_law_splice.nd rfl (.inl rfl) (pv 0))
  (pss_cons (ps_for PassesOwn.never rfl (pi_listK K (pv 1)) (pg_name (i := 3) sc_law_splice.nd rfl (.inl rfl)) (pss_one (ps_set (i := 2) sc_law_splice.nd rfl (.inl rfl) (pe_op (op_addK K) (pe_op (op_addK K) (pe_slice (sl_K K) (pv 2) po_none (po_some (pe_ix (ix_K K) (pv 3) pe_int (fun _ _ => rfl)))) (pe_ix (ix_K K) (pv 3) pe_int (fun _ _ => rfl))) (pe_slice (sl_K K) (pv 2) (po_some (pe_ix (ix_K K) (pv 3) pe_int (fun _ _ => rfl))) po_none)))))
  (pss_one (ps_ret (pv 2))))), ?_⟩
    show (_ : TS) _ [some (.str t), some (.ref p), none, none] H
    have hul := Paired.len hed
    have hsl := hsm.len
    walk_at "rd"
    refine loopL_by (xs := us) (fun i σ' H' => ∃ (o3 : Option V), σ' = [some (.str t), some (.ref p), some (.str (aps t (es.take i))), o3] ∧ H' = H) ?_ ?_ ?_ ?_
    · exact ⟨none, by rw [List.take_zero]; rfl, rfl⟩
    · rintro i σ' H' _ ⟨_, _, rfl⟩
      exact hp
    · rintro i v σ' H' hv ⟨o3, rfl, rfl⟩
      obtain ⟨x, hx, px, rfl, hpx⟩ := Paired.at hed hv
      have hil : i < us.length := (List.getElem?_eq_some_iff.mp hv).1
      have hxn := (hsm.new x (List.mem_of_getElem? hx)).1
      have q0 := hmid i
      have q1 := cutS_length (aps t (es.take i)) none (some x.s)
      have q2 := cutS_length (aps t (es.take i)) (some x.e) none
      have q3 := len_app (cutS (aps t (es.take i)) none (some x.s)) x.n
      walk_at "rd"
      exact ⟨_, by rw [take_snoc hx, aps_snoc]; rfl, rfl⟩
    · rintro σ' H' ⟨o3, rfl, rfl⟩
      walk_at "rd"
      rw [hul, List.take_length]
      exact k
theorem cal_law_same_edit {f : Addr} {fd : FuncData} (T : Txt mg) (FD : C8.Def K mg "_law_same_edit" s_law_same_edit f fd) (b : Binds K fd ["told", "due"] [])
    (c_law_number : C8.Cal P w K mg base 1 "_law_number" sp_law_number []) : C8.Cal P w K mg base 2 "_law_same_edit" sp_law_same_edit [] := by
  refine C8.cal0 FD b .nil sc_law_same_edit (fun vs H Q E h => ?_) (fun cdv A outer s H vs Q E hr h => ?_)
  · obtain ⟨v, u, x, y, rfl, _⟩ := h; rfl
  · obtain ⟨v, u, x, y, rfl, h1, h2, k1, k2, k⟩ := h
    refine ⟨_, (pss_cons (ps_if (PW.pt (pw_or (pt_not (pt_truK K (pe_callB (call_isiK' K) (by rfl) T.n_isinstance (by decide +kernel) (pa_cons (pv 0) (pa_cons (pe_bltn (v := .ty "tuple") (by rfl) T.n_tuple (by decide +kernel) rfl) pa_nil))) (by intro _; rfl))) (pw_or1 (pt_cmpR (op_neK K (hu64 hr)) (pe_callB (call_lenK K) (by rfl) T.n_len PySem.boot_len (pa_cons (pv 0) pa_nil)) pe_int (nomark _))))) (pss_one (ps_ret pe_bl)) pss_nil)
  (pss_cons (ps_if (PW.pt (pw_or (pt_not (pt_truK K (C8.pe_c c_law_number hr (by decide) (by rfl) (pa_cons (pe_ix (ix_K K) (pv 0) pe_int (fun _ _ => rfl)) pa_nil)) (by intro _; rfl))) (pw_or (pt_not (pt_truK K (C8.pe_c c_law_number hr (by decide) (by rfl) (pa_cons (pe_ix (ix_K K) (pv 0) pe_int (fun _ _ => rfl)) pa_nil)) (by intro _; rfl))) (pw_or1 (pt_not (pt_truK K (pe_callB (call_isiK' K) (by rfl) T.n_isinstance (by decide +kernel) (pa_cons (pe_ix (ix_K K) (pv 0) pe_int (fun _ _ => rfl)) (pa_cons (pe_bltn (v := .ty "str") (by rfl) T.n_str (by decide +kernel) rfl) pa_nil))) (by intro _; rfl))))))) (pss_one (ps_ret pe_bl)) pss_nil)
  (pss_one (ps_ret (pe_cmpR (op_eqK K (hu64 hr)) (pv 0) (pv 1) (nomark _)))))), ?_⟩
    obtain ⟨p, rfl, hp⟩ := h1
    obtain ⟨q, rfl, hq⟩ := h2
    show (_ : TS) _ [some (.ref p), some (.ref q)] H
    walk_at "rd"
    refine ifNDy rfl ?_
    walk_at "rd"
    refine use_number ?_
    walk_at "rd"
    refine use_number ?_
    walk_at "rd"
    refine eq_deep (ed_dp ⟨p, rfl, hp⟩) (ed_dp ⟨q, rfl, hq⟩) (edD_shaped k1) (edD_shaped k2) ?_
    rw [edD_eqv]
    exact k
theorem cal_law_same_edits {f : Addr} {fd : FuncData} (T : Txt mg) (FD : C8.Def K mg "_law_same_edits" s_law_same_edits f fd) (b : Binds K fd ["told", "due"] [])
    (c_law_same_edit : C8.Cal P w K mg base 2 "_law_same_edit" sp_law_same_edit []) : C8.Cal P w K mg base 3 "_law_same_edits" sp_law_same_edits [] := by
  refine C8.cal0 FD b .nil sc_law_same_edits (fun vs H Q E h => ?_) (fun cdv A outer s H vs Q E hr h => ?_)
  · obtain ⟨p, q, us, ws, xs, ys, rfl, _⟩ := h; rfl
  · obtain ⟨p, q, us, ws, xs, ys, rfl, hp, hq, h1, h2, hl, k1, k2, k⟩ := h
    refine ⟨_, (pss_cons (ps_if (PW.pt (pw_or (pt_not (pt_truK K (pe_callB (call_isiK' K) (by rfl) T.n_isinstance (by decide +kernel) (pa_cons (pv 0) (pa_cons (pe_bltn (v := .ty "list") (by rfl) T.n_list (by decide +kernel) rfl) pa_nil))) (by intro _; rfl))) (pw_or1 (pt_cmpR (op_neK K (hu64 hr)) (pe_callB (call_lenK K) (by rfl) T.n_len PySem.boot_len (pa_cons (pv 0) pa_nil)) (pe_callB (call_lenK K) (by rfl) T.n_len PySem.boot_len (pa_cons (pv 1) pa_nil)) (nomark _))))) (pss_one (ps_ret pe_bl)) pss_nil)
  (pss_cons (ps_for PassesOwn.never rfl (pi_range1 rfl T.n_range (pa_cons (pe_callB (call_lenK K) (by rfl) T.n_len PySem.boot_len (pa_cons (pv 1) pa_nil)) pa_nil)) (pg_name (i := 2) sc_law_same_edits.nd rfl (.inl rfl)) (pss_one (ps_if (pt_not (pt_truK K (C8.pe_c c_law_same_edit hr (by decide) (by rfl) (pa_cons (pe_ix (ix_K K) (pv 0) (pv 2) (fun _ _ => rfl)) (pa_cons (pe_ix (ix_K K) (pv 1) (pv 2) (fun _ _ => rfl)) pa_nil))) (by intro _; rfl))) (pss_one (ps_ret pe_bl)) pss_nil)))
  (pss_one (ps_ret pe_bl)))), ?_⟩
    show (_ : TS) _ [some (.ref p), some (.ref q), none] H
    have l1 := Paired.len h1
    have l2 := Paired.len h2
    walk_at "rd"
    refine ifND (fun c => ?_) (fun c => ?_)
    · walk_at "rd"
      rw [decide_eq_false (fun e => c (by rw [l1, l2, e]))] at k
      exact k
    walk_at "rd"
    refine loopR_by (fun i σ' H' => ∃ (o2 : Option V), σ' = [some (.ref p), some (.ref q), o2] ∧ H' = H ∧ xs.take i = ys.take i) ?_ ?_ ?_
    · exact ⟨none, rfl, rfl, by rw [List.take_zero, List.take_zero]⟩
    · rintro i σ' H' hi ⟨o2, rfl, rfl, he⟩
      have i1 : i < us.length := by omega
      have i2 : i < ws.length := by omega
      obtain ⟨x, hx, hxe⟩ := Paired.at h1 (List.getElem?_eq_getElem i1)
      obtain ⟨y, hy, hye⟩ := Paired.at h2 (List.getElem?_eq_getElem i2)
      have a1 : atI us (0 + (i : Int)) = some us[i] := at_of (j := i) (by omega) (List.getElem?_eq_getElem i1)
      have a2 : atI ws (0 + (i : Int)) = some ws[i] := at_of (j := i) (by omega) (List.getElem?_eq_getElem i2)
      walk_at "rd"
      refine use_same_edit hxe hye (k1 x (List.mem_of_getElem? hx)) (k2 y (List.mem_of_getElem? hy)) ?_
      walk_at "rd"
      refine ifND (fun c3 => ?_) (fun c3 => ?_)
      · walk_at "rd"
        rw [decide_eq_false (fun e => c3 (by rw [e] at hx; exact Option.some.inj (hx.symm.trans hy)))] at k
        exact k
      · walk_at "rd"
        exact ⟨_, rfl, rfl, by rw [take_snoc hx, take_snoc hy, he, c3]⟩
    · rintro σ' H' ⟨o2, rfl, rfl, he⟩
      walk_at "rd"
      have e1 : ((ws.length : Int)).toNat = ys.length := by omega
      have e2 : xs.length = ys.length := by omega
      rw [e1, List.take_length, ← e2, List.take_length] at he
      rw [decide_eq_true he] at k
      exact k
end
end Z
namespace Z
open PySem PySem.Spec L2
local macro_rules | `(tactic| walk_at "ne") => `(tactic| first
  | with_reducible assumption
  | with_reducible exact Ne.symm (by assumption)
  | exact Frs.ne (by with_reducible assumption) (by walk_at "hp")
  | exact Frs.ne' (by with_reducible assumption) (by walk_at "hp"))
local macro_rules | `(tactic| walk_at "hp") => `(tactic| first
  | with_reducible assumption
  | (with_reducible refine Same.at (by assumption) ?_; walk_at "hp")
  | (with_reducible refine SL.tup (by assumption) ?_; walk_at "hp")
  | (with_reducible refine SL.at (by assumption) (by walk_at "ne") ?_; walk_at "hp"))
local macro_rules | `(tactic| walk_at "sz") => `(tactic| first
  | with_reducible assumption
  | exact Nat.le_of_ble_eq_true rfl
  | (refine sz_le ?_; omega)
  | (refine sz_lt ?_; omega)
  | decide +kernel)
local macro_rules | `(tactic| walk_at "at") => `(tactic| first
  | with_reducible assumption
  | with_reducible exact at0
  | with_reducible exact at1
  | with_reducible exact at2
  | with_reducible exact ixN0)
local macro_rules | `(tactic| walk_at "nn") => `(tactic| first
  | omega
  | decide
  | exact ⟨by decide, by decide⟩
  | exact ⟨by omega, by omega⟩
  | exact ⟨by omega, by omega, by omega, by omega⟩)
local macro_rules | `(tactic| walk_at "rdv") => `(tactic| first
  | (with_reducible refine add_int ?_)
  | (with_reducible refine sub_int ?_)
  | (with_reducible refine neg_int ?_)
  | ((with_reducible refine ix_tpl (xs := ?xs) (v := ?v) ?h1 ?h2 ?_); (case h1 => walk_at "hp"); (case h2 => walk_at "at"))
  | ((with_reducible refine ix_lst (xs := ?xs) (v := ?v) ?h1 ?h2 ?_); (case h1 => walk_at "hp"); (case h2 => walk_at "at"))
  | (with_reducible refine eq_int ?_)
  | (with_reducible refine ne_int ?_)
  | (with_reducible refine lt_int ?_)
  | (with_reducible refine le_int ?_)
  | (with_reducible refine gt_int ?_)
  | (with_reducible refine ge_int ?_)
  | (with_reducible refine eq_str ?_)
  | (with_reducible refine ne_str ?_)
  | (with_reducible refine eq_bl ?_)
  | (with_reducible refine ne_bl ?_)
  | ((with_reducible refine mod_int ?hc ?_); (case hc => walk_at "nn"))
  | ((with_reducible refine div_int ?hc ?_); (case hc => walk_at "nn"))
  | ((with_reducible refine mul_intR ?hc ?_); (case hc => exact ⟨by decide, by decide⟩))
  | ((with_reducible refine mul_intR ?hc ?_); (case hc => exact ⟨by omega, by omega⟩))
  | ((with_reducible refine mul_intL ?hc ?_); (case hc => exact ⟨by omega, by omega⟩))
  | ((with_reducible refine pow_int ?hc ?_); (case hc => exact ⟨by decide, by decide, by decide⟩))
  | ((with_reducible refine add_str ?hc ?_); (case hc => walk_at "sz"))
  | ((with_reducible refine add_lst (xs := ?xs) (ys := ?ys) ?h1 ?h2 ?hc ?_); (case h1 => walk_at "hp"); (case h2 => walk_at "hp"); (case hc => walk_at "sz"))
  | ((with_reducible refine sl_strU ?hc ?_); (case hc => walk_at "sz"))
  | ((with_reducible refine sl_lst (xs := ?xs) ?h1 ?_); (case h1 => walk_at "hp"))
  | (with_reducible refine is_bl ?_)
  | (with_reducible refine isnt_bl ?_)
  | (with_reducible refine is_non ?_)
  | (with_reducible refine isnt_non ?_))
local macro_rules | `(tactic| walk_at "rdc") => `(tactic| first
  | ((with_reducible refine len_lst (xs := ?xs) ?h1 ?_); (case h1 => walk_at "hp"))
  | ((with_reducible refine len_tup (xs := ?xs) ?h1 ?_); (case h1 => walk_at "hp"))
  | ((with_reducible refine len_str ?hc ?_); (case hc => walk_at "sz"))
  | (with_reducible refine int_int ?_)
  | (with_reducible refine max_int ?_)
  | (with_reducible refine min_int ?_)
  | (with_reducible refine abs_int ?_)
  | (with_reducible refine isi_ii ?_)
  | (with_reducible refine isi_ib ?_)
  | (with_reducible refine isi_ss ?_)
  | (with_reducible refine isi_bb ?_)
  | ((with_reducible refine isi_tt (xs := ?xs) ?h1 ?_); (case h1 => walk_at "hp"))
  | ((with_reducible refine isi_ll (xs := ?xs) ?h1 ?_); (case h1 => walk_at "hp"))
  | ((with_reducible refine list_lst (xs := ?xs) ?h1 ?_); (case h1 => walk_at "hp"))
  | ((with_reducible refine list_tup (xs := ?xs) ?h1 ?_); (case h1 => walk_at "hp"))
  | ((with_reducible refine tuple_lst (xs := ?xs) ?h1 ?_); (case h1 => walk_at "hp"))
  | ((with_reducible refine tuple_tup (xs := ?xs) ?h1 ?_); (case h1 => walk_at "hp"))
  | ((with_reducible refine append_lst (xs := ?xs) ?h1 ?hc ?_); (case h1 => walk_at "hp"); (case hc => walk_at "sz"))
  | ((with_reducible refine clear_lst (xs := ?xs) ?h1 ?_); (case h1 => walk_at "hp"))
  | ((with_reducible refine set_lst (xs := ?xs) (k := ?k) ?h1 ?h2 ?_); (case h1 => walk_at "hp"); (case h2 => walk_at "at")))
local macro_rules | `(tactic| walk_at "rd1") => `(tactic| first
  | ((with_reducible refine rVar (v := ?v) ?h ?_); (case h => exact rfl))
  | (with_reducible refine rC ?_)
  | (with_reducible refine rCons ?_)
  | (with_reducible refine rNil ?_)
  | (with_reducible refine rOp ?_)
  | (with_reducible refine rSeq ?_)
  | (with_reducible refine rAsgN ?_)
  | (with_reducible refine rAsgT ?_)
  | (with_reducible refine rAsgS ?_)
  | (with_reducible refine rTest ?_)
  | (with_reducible refine rBl ?_)
  | (with_reducible refine rBl' ?_)
  | (with_reducible refine rInt ?_)
  | (with_reducible refine rInt' ?_)
  | (with_reducible refine rCall ?_)
  | (with_reducible refine rCB ?_)
  | (with_reducible refine rRet ?_)
  | (with_reducible refine rDrop ?_)
  | (with_reducible refine rIfS ?_)
  | (with_reducible refine rTup ?_)
  | (with_reducible refine rLst ?_)
  | (with_reducible refine ⟨Nat.le_of_ble_eq_true rfl, ?_⟩)
  | (with_reducible refine rSl ?_)
  | (with_reducible refine rPart ?_)
  | (with_reducible refine rNoPart ?_)
  | (with_reducible refine rBM ?_)
  | (with_reducible refine rBM0 ?_)
  | ((with_reducible refine tyL (xs := ?xs) ?h1 ?_); (case h1 => walk_at "hp"))
  | (with_reducible refine rM1 ?_)
  | (with_reducible refine rM0 ?_)
  | (with_reducible refine rStr ?_)
  | (with_reducible refine rTru ?_)
  | (with_reducible refine tru_bl ?_)
  | (with_reducible refine tru_int ?_)
  | ((with_reducible refine tru_lst (xs := ?xs) ?h1 ?_); (case h1 => walk_at "hp"))
  | ((with_reducible refine tru_tup (xs := ?xs) ?h1 ?_); (case h1 => walk_at "hp"))
  | ((with_reducible refine tru_str ?hc ?_); (case hc => walk_at "sz"))
  | (with_reducible refine rAnd ?_)
  | (with_reducible refine rOr ?_)
  | (with_reducible refine rNot ?_)
  | (with_reducible refine rAndV ?_)
  | (with_reducible refine rOrV ?_)
  | (with_reducible refine rNotV ?_)
  | (with_reducible refine rIfE ?_)
  | (with_reducible refine rChain ?_)
  | (with_reducible refine rChain3 ?_)
  | (with_reducible refine ifT ?_)
  | (with_reducible refine ifF ?_)
  | (with_reducible refine ifNF ?_)
  | (with_reducible refine ifNT ?_)
  | (with_reducible refine rNext ?_)
  | (with_reducible refine rBrk ?_)
  | (with_reducible refine rCnt ?_)
  | (with_reducible refine rRetN ?_)
  | (with_reducible refine rForR1 ?_)
  | (with_reducible refine rForR2 ?_)
  | (with_reducible refine rForL ?_)
  | ((with_reducible refine rRg1 ?hb ?_); (case hb => walk_at "nn"))
  | ((with_reducible refine rRg2 ?hb ?_); (case hb => walk_at "nn"))
  | ((with_reducible refine rRf (xs := ?xs) ?h1 ?_); (case h1 => walk_at "hp"))
  | (with_reducible refine rLcR1 ?_)
  | (with_reducible refine rLcR2 ?_)
  | (with_reducible refine rLcL ?_)
  | (with_reducible refine gN ?_)
  | (with_reducible refine gNl ?_)
  | (with_reducible refine gC ?_)
  | ((with_reducible refine gT (xs := ?xs) ?h1 ?h2 ?_); (case h1 => walk_at "hp"); (case h2 => exact rfl))
  | (with_reducible refine rUn ?_)
  | walk_at "rdv"
  | walk_at "rdc")
local macro_rules | `(tactic| walk_at "rd") => `(tactic| repeat walk_at "rd1")

local macro_rules | `(tactic| walk_at "rd1") => `(tactic| first
  | (with_reducible refine rCallS ?_)
  | (with_reducible refine rRaise ?_)
  | (with_reducible refine rXf ?_)
  | (with_reducible refine rXi ?_)
  | (with_reducible refine rOst ?_)
  | (with_reducible refine rRevL ?_)
  | ((with_reducible refine revL_end (xs := ?xs) ?h1 ?_); (case h1 => walk_at "hp")))

local macro_rules | `(tactic| walk_at "rd1") => `(tactic| first
  | (with_reducible refine rMkV ?_)
  | (with_reducible refine rXa ?_))

/-- the bounds of an edit that may be told in a message -/
def Mod1 (x : Ed) : Prop := (x.s.natAbs < 1000000000 ∧ x.e.natAbs < 1000000000) ∧ Ok x.n ∧ x.n.length ≤ 100000
def sp_Entangled (C : Addr) : Sp := fun vs H Q _ => ∃ (a : Addr) (u v : V) (x y : Ed), vs = [.ref a, u, v] ∧ EdAt H u x ∧ EdAt H v y ∧ Mod1 x ∧ Mod1 y ∧ H a = some (exo a C none) ∧
  ∀ d, H d = none → d ≠ a → Q .non (upd (upd H d (exd d [("second", v), ("first", u)])) a (exo a C (some d)))
def sp_swap (C : Addr) : Sp := fun vs H Q E => ∃ (u v : V) (x y : Ed), vs = [u, v] ∧ EdAt H u x ∧ EdAt H v y ∧ Mod1 x ∧ Mod1 y ∧
  (∀ y' x', exch x y = some (y', x') → ∀ (z : Addr) (u' v' : V) (H' : Hp), Same H H' → H' z = some (.tup [u', v']) → EdAt H' u' y' → EdAt H' v' x' → Q (.ref z) H') ∧
  (exch x y = none → WantX C [("second", v), ("first", u)] H E)
theorem use_swap {C : Addr} {u v : V} {x y : Ed} {H : Hp} {Q : VK} {E : XK} (hx : EdAt H u x) (hy : EdAt H v y) (mx : Mod1 x) (my : Mod1 y)
    (h1 : ∀ y' x', exch x y = some (y', x') → ∀ (z : Addr) (u' v' : V) (H' : Hp), Same H H' → H' z = some (.tup [u', v']) → EdAt H' u' y' → EdAt H' v' x' → Q (.ref z) H')
    (h2 : exch x y = none → WantX C [("second", v), ("first", u)] H E) : sp_swap C [u, v] H Q E := ⟨u, v, x, y, rfl, hx, hy, mx, my, h1, h2⟩
section
variable {P : Program} {w : World} {K : PySem.W.Frag} {mg : Str → Option Value} {base : Heap} {aE : Addr}
theorem sup_Entangled : SupScope ["self", "first", "second"] ["self", "first", "second"] (C8.fnScope s_Entangled___init__) := ⟨by decide +kernel, by decide +kernel, by decide +kernel, by decide, by decide, by decide +kernel, by decide +kernel, by decide +kernel, by decide +kernel, by decide +kernel⟩
theorem init_Entangled {fI cda cc aE : Addr} {oc kV doc pm ct : Value} {od an : Option Addr} {osl : Array (Option Value)} (T : Txt mg) (lk : K.lookup fI = some ⟨oc, od, .func (PySem.W.ksFn "__init__" "Entangled.__init__" (C8.fnArgs s_Entangled___init__) (C8.fnBody s_Entangled___init__) (C8.fnScope s_Entangled___init__) .none kV doc pm an (.ref cda) ct cc), osl⟩) (hcd : PySem.W.codeIn K (.ref cda) "Entangled.__init__" = true) (U : SupC P K mg aE cda cc)
    (iC : PySem.W.findIn K (.ref aE) "__init__" = some (some (.ref fI))) (tI : PySem.W.typeIn K (.ref fI) = some (.type "function")) (hm : mg "Entangled" = some (.ref aE)) (nof_first : PySem.W.findIn K (.ref aE) "first" = some none) (nof_second : PySem.W.findIn K (.ref aE) "second" = some none) : OexI P w K mg base 1 "Entangled" aE (sp_Entangled aE) := by
  refine ⟨fI, _, ["self", "first", "second"], U.oex, iC, tI, fn_sup (N := ["self", "first", "second"]) (k := 0) lk hcd sup_Entangled U (by rfl) (by rfl) (by rfl) (fun vs H Q E h => ?_) (fun _ => by rfl) (fun _ => ⟨_, by rfl⟩) (fun _ => by rfl) (fun _ => by rfl) (fun A outer s H vs Q E hr h => ?_), .all fun us hl => match us, hl with | [_, _, _], _ => rfl, hm⟩
  · obtain ⟨a, u, v, x, y, rfl, _⟩ := h; rfl
  · obtain ⟨a, u, v, x, y, rfl, hx, hy, mx, my, ha, k⟩ := h
    refine ⟨a, _, _, rfl, ha, (pa_cons (pe_op (op_addK K) (pe_op (op_addK K) (pe_op (op_addK K) pe_str (pe_callTy (call_strU (hu64 hr)) (by rfl) T.n_str (by decide +kernel) (pa_cons (pv 1) pa_nil))) pe_str) (pe_callTy (call_strU (hu64 hr)) (by rfl) T.n_str (by decide +kernel) (pa_cons (pv 2) pa_nil))) pa_nil), (pss_cons (ps_ost (pv 0) (pe_callTy (call_tupleK K) (by rfl) T.n_tuple (by decide +kernel) (pa_cons (pv 1) pa_nil)))
  (pss_one (ps_ost (pv 0) (pe_callTy (call_tupleK K) (by rfl) T.n_tuple (by decide +kernel) (pa_cons (pv 2) pa_nil))))), ?_⟩
    obtain ⟨p, rfl, hp⟩ := id hx
    obtain ⟨q, rfl, hq⟩ := id hy
    show (_ : TA) [some (.ref a), some (.ref p), some (.ref q)] H _
    have q2 : (Str.ofString "edits overlap: ").length = 15 := by decide +kernel
    have q3 : (Str.ofString ", ").length = 2 := by decide +kernel
    walk_at "rd"
    refine st_ed hx mx.1 mx.2 fun m1 l1 => ?_
    have q4 := len_app (Str.ofString "edits overlap: ") m1
    have q5 := len_app (Str.ofString "edits overlap: " ++ m1) (Str.ofString ", ")
    walk_at "rd"
    refine st_ed hy my.1 my.2 fun m2 l2 => ?_
    walk_at "rd"
    refine ⟨ha, ?_⟩
    walk_at "rd"
    refine ⟨a, aE, rfl, U.oex, nof_first, .inl ⟨ha, fun d hd hda => ?_⟩⟩
    have hpa : p ≠ a := ne_of hp ha (fun z => exo_tup z.symm)
    have hqa : q ≠ a := ne_of hq ha (fun z => exo_tup z.symm)
    have hq2 : (upd (upd H d (exd d [("first", .ref p)])) a (exo a aE (some d))) q = some (.tup [.int y.s, .int y.e, .str y.n]) := by rw [upd_ne hqa, upd_ne (ne_of_none hq hd)]; exact hq
    walk_at "rd"
    refine ⟨a, aE, rfl, U.oex, nof_second, .inr ⟨d, _, upd_same, by rw [upd_ne hda, upd_same], by show 1 ≤ 900; omega, ?_⟩⟩
    have e : ∀ o1 o2 o3 : HO, upd (upd (upd H d o1) a o2) d o3 = upd (upd H d o3) a o2 := fun o1 o2 o3 => funext fun b => by
      by_cases h1 : b = d
      · rw [h1, upd_same, upd_ne hda, upd_same]
      · by_cases h2 : b = a
        · rw [h2, upd_ne hda.symm, upd_same, upd_same]
        · rw [upd_ne h1, upd_ne h2, upd_ne h1, upd_ne h2, upd_ne h1]
    rw [e]
    exact k d hd hda
theorem cal_swap {f : Addr} {fd : FuncData} (T : Txt mg) (FD : C8.Def K mg "swap" s_swap f fd) (b : Binds K fd ["first", "second"] [])
    (c_Entangled : OexI P w K mg base 1 "Entangled" aE (sp_Entangled aE)) : CalX P w K mg base 3 "swap" (sp_swap aE) := by
  refine calX FD b sc_swap (fun vs H Q E h => ?_) (fun cdv A outer s H vs Q E hr h => ?_)
  · obtain ⟨u, v, x, y, rfl, _⟩ := h; rfl
  · obtain ⟨u, v, x, y, rfl, hx, hy, mx, my, k1, k2⟩ := h
    refine ⟨_, (pss_cons (ps_asg (pv 0) (pg_tup rfl (pgs_cons (pg_name (i := 2) sc_swap.nd rfl (.inl rfl)) (pgs_cons (pg_name (i := 3) sc_swap.nd rfl (.inl rfl)) (pgs_cons (pg_name (i := 4) sc_swap.nd rfl (.inl rfl)) pgs_nil)))))
  (pss_cons (ps_asg (pv 1) (pg_tup rfl (pgs_cons (pg_name (i := 5) sc_swap.nd rfl (.inl rfl)) (pgs_cons (pg_name (i := 6) sc_swap.nd rfl (.inl rfl)) (pgs_cons (pg_name (i := 7) sc_swap.nd rfl (.inl rfl)) pgs_nil)))))
  (pss_cons (ps_if (pt_cmpR op_leU (pv 6) (pv 2) (nomark _)) (PSs.nox (pss_cons (ps_set (i := 8) sc_swap.nd rfl (.inl rfl) (pe_op op_subU (pe_callB (call_lenK K) (by rfl) T.n_len PySem.boot_len (pa_cons (pv 7) pa_nil)) (pe_op op_subU (pv 6) (pv 5))))
  (pss_one (ps_ret (pe_tup (pa_cons (pv 1) (pa_cons (pe_tup (pa_cons (pe_op (op_addK K) (pv 2) (pv 8)) (pa_cons (pe_op (op_addK K) (pv 3) (pv 8)) (pa_cons (pv 4) pa_nil)))) pa_nil))))))) pss_nil)
  (pss_cons (ps_if (pt_cmpR op_geU (pv 5) (pe_op (op_addK K) (pv 2) (pe_callB (call_lenK K) (by rfl) T.n_len PySem.boot_len (pa_cons (pv 4) pa_nil))) (nomark _)) (PSs.nox (pss_cons (ps_set (i := 8) sc_swap.nd rfl (.inl rfl) (pe_op op_subU (pe_op op_subU (pv 3) (pv 2)) (pe_callB (call_lenK K) (by rfl) T.n_len PySem.boot_len (pa_cons (pv 4) pa_nil))))
  (pss_one (ps_ret (pe_tup (pa_cons (pe_tup (pa_cons (pe_op (op_addK K) (pv 5) (pv 8)) (pa_cons (pe_op (op_addK K) (pv 6) (pv 8)) (pa_cons (pv 7) pa_nil)))) (pa_cons (pv 0) pa_nil))))))) pss_nil)
  (pss_one (ps_raise rfl (takes_of rfl rfl rfl rfl) (pm_x c_Entangled hr (by decide) (by rfl) (pa_cons (pv 0) (pa_cons (pv 1) pa_nil))))))))), ?_⟩
    obtain ⟨p, rfl, hp⟩ := id hx
    obtain ⟨q, rfl, hq⟩ := id hy
    show (_ : TS) _ [some (.ref p), some (.ref q), none, none, none, none, none, none, none] H
    have lx := mx.2.2
    have ly := my.2.2
    walk_at "rd"
    refine ifD (fun c1 => ?_) (fun c1 => ?_)
    · walk_at "rd"
      refine newO_gen fun p1 H1 f1 s1 h1 => ?_
      walk_at "rd"
      refine newO_gen fun z H2 f2 s2 h2 => ?_
      walk_at "rd"
      exact k1 y _ (by unfold exch; rw [if_pos c1]) z (.ref q) (.ref p1) H2 (Same.trans s1 s2) h2 ⟨q, rfl, s2 _ _ (s1 _ _ hq)⟩ ⟨p1, rfl, s2 _ _ h1⟩
    walk_at "rd"
    refine ifD (fun c2 => ?_) (fun c2 => ?_)
    · walk_at "rd"
      refine newO_gen fun p1 H1 f1 s1 h1 => ?_
      walk_at "rd"
      refine newO_gen fun z H2 f2 s2 h2 => ?_
      walk_at "rd"
      exact k1 _ x (by unfold exch; rw [if_neg c1, if_pos c2]) z (.ref p1) (.ref p) H2 (Same.trans s1 s2) h2 ⟨p1, rfl, s2 _ _ h1⟩ ⟨p, rfl, s2 _ _ (s1 _ _ hp)⟩
    walk_at "rd"
    refine mkO1 (vs := [.ref p, .ref q]) [("second", .ref q), ("first", .ref p)] (k2 (by unfold exch; rw [if_neg c1, if_neg c2])) fun a Q' ha h => ?_
    have np : ∀ b o, H b = some o → (upd H a (exo a aE none)) b = some o := fun b o hb => by rw [upd_ne (ne_of_none hb ha)]; exact hb
    exact ⟨a, _, _, x, y, rfl, ⟨p, rfl, np _ _ hp⟩, ⟨q, rfl, np _ _ hq⟩, mx, my, upd_same, fun d hd hda => h d (by rw [upd_ne hda] at hd; exact hd) hda⟩
end
end Z
namespace Z
open PySem PySem.Spec L2
local macro_rules | `(tactic| walk_at "ne") => `(tactic| first
  | with_reducible assumption
  | with_reducible exact Ne.symm (by assumption)
  | exact Frs.ne (by with_reducible assumption) (by walk_at "hp")
  | exact Frs.ne' (by with_reducible assumption) (by walk_at "hp"))
local macro_rules | `(tactic| walk_at "hp") => `(tactic| first
  | with_reducible assumption
  | (with_reducible refine Same.at (by assumption) ?_; walk_at "hp")
  | (with_reducible refine SL.tup (by assumption) ?_; walk_at "hp")
  | (with_reducible refine SL.at (by assumption) (by walk_at "ne") ?_; walk_at "hp"))
local macro_rules | `(tactic| walk_at "sz") => `(tactic| first
  | with_reducible assumption
  | exact Nat.le_of_ble_eq_true rfl
  | (refine sz_le ?_; omega)
  | (refine sz_lt ?_; omega)
  | decide +kernel)
local macro_rules | `(tactic| walk_at "at") => `(tactic| first
  | with_reducible assumption
  | with_reducible exact at0
  | with_reducible exact at1
  | with_reducible exact at2
  | with_reducible exact ixN0)
local macro_rules | `(tactic| walk_at "nn") => `(tactic| first
  | omega
  | decide
  | exact ⟨by decide, by decide⟩
  | exact ⟨by omega, by omega⟩
  | exact ⟨by omega, by omega, by omega, by omega⟩)
local macro_rules | `(tactic| walk_at "rdv") => `(tactic| first
  | (with_reducible refine add_int ?_)
  | (with_reducible refine sub_int ?_)
  | (with_reducible refine neg_int ?_)
  | ((with_reducible refine ix_tpl (xs := ?xs) (v := ?v) ?h1 ?h2 ?_); (case h1 => walk_at "hp"); (case h2 => walk_at "at"))
  | ((with_reducible refine ix_lst (xs := ?xs) (v := ?v) ?h1 ?h2 ?_); (case h1 => walk_at "hp"); (case h2 => walk_at "at"))
  | (with_reducible refine eq_int ?_)
  | (with_reducible refine ne_int ?_)
  | (with_reducible refine lt_int ?_)
  | (with_reducible refine le_int ?_)
  | (with_reducible refine gt_int ?_)
  | (with_reducible refine ge_int ?_)
  | (with_reducible refine eq_str ?_)
  | (with_reducible refine ne_str ?_)
  | (with_reducible refine eq_bl ?_)
  | (with_reducible refine ne_bl ?_)
  | ((with_reducible refine mod_int ?hc ?_); (case hc => walk_at "nn"))
  | ((with_reducible refine div_int ?hc ?_); (case hc => walk_at "nn"))
  | ((with_reducible refine mul_intR ?hc ?_); (case hc => exact ⟨by decide, by decide⟩))
  | ((with_reducible refine mul_intR ?hc ?_); (case hc => exact ⟨by omega, by omega⟩))
  | ((with_reducible refine mul_intL ?hc ?_); (case hc => exact ⟨by omega, by omega⟩))
  | ((with_reducible refine pow_int ?hc ?_); (case hc => exact ⟨by decide, by decide, by decide⟩))
  | ((with_reducible refine add_str ?hc ?_); (case hc => walk_at "sz"))
  | ((with_reducible refine add_lst (xs := ?xs) (ys := ?ys) ?h1 ?h2 ?hc ?_); (case h1 => walk_at "hp"); (case h2 => walk_at "hp"); (case hc => walk_at "sz"))
  | ((with_reducible refine sl_strU ?hc ?_); (case hc => walk_at "sz"))
  | ((with_reducible refine sl_lst (xs := ?xs) ?h1 ?_); (case h1 => walk_at "hp"))
  | (with_reducible refine is_bl ?_)
  | (with_reducible refine isnt_bl ?_)
  | (with_reducible refine is_non ?_)
  | (with_reducible refine isnt_non ?_))
local macro_rules | `(tactic| walk_at "rdc") => `(tactic| first
  | ((with_reducible refine len_lst (xs := ?xs) ?h1 ?_); (case h1 => walk_at "hp"))
  | ((with_reducible refine len_tup (xs := ?xs) ?h1 ?_); (case h1 => walk_at "hp"))
  | ((with_reducible refine len_str ?hc ?_); (case hc => walk_at "sz"))
  | (with_reducible refine int_int ?_)
  | (with_reducible refine max_int ?_)
  | (with_reducible refine min_int ?_)
  | (with_reducible refine abs_int ?_)
  | (with_reducible refine isi_ii ?_)
  | (with_reducible refine isi_ib ?_)
  | (with_reducible refine isi_ss ?_)
  | (with_reducible refine isi_bb ?_)
  | ((with_reducible refine isi_tt (xs := ?xs) ?h1 ?_); (case h1 => walk_at "hp"))
  | ((with_reducible refine isi_ll (xs := ?xs) ?h1 ?_); (case h1 => walk_at "hp"))
  | ((with_reducible refine list_lst (xs := ?xs) ?h1 ?_); (case h1 => walk_at "hp"))
  | ((with_reducible refine list_tup (xs := ?xs) ?h1 ?_); (case h1 => walk_at "hp"))
  | ((with_reducible refine tuple_lst (xs := ?xs) ?h1 ?_); (case h1 => walk_at "hp"))
  | ((with_reducible refine tuple_tup (xs := ?xs) ?h1 ?_); (case h1 => walk_at "hp"))
  | ((with_reducible refine append_lst (xs := ?xs) ?h1 ?hc ?_); (case h1 => walk_at "hp"); (case hc => walk_at "sz"))
  | ((with_reducible refine clear_lst (xs := ?xs) ?h1 ?_); (case h1 => walk_at "hp"))
  | ((with_reducible refine set_lst (xs := ?xs) (k := ?k) ?h1 ?h2 ?_); (case h1 => walk_at "hp"); (case h2 => walk_at "at")))
local macro_rules | `(tactic| walk_at "rd1") => `(tactic| first
  | ((with_reducible refine rVar (v := ?v) ?h ?_); (case h => exact rfl))
  | (with_reducible refine rC ?_)
  | (with_reducible refine rCons ?_)
  | (with_reducible refine rNil ?_)
  | (with_reducible refine rOp ?_)
  | (with_reducible refine rSeq ?_)
  | (with_reducible refine rAsgN ?_)
  | (with_reducible refine rAsgT ?_)
  | (with_reducible refine rAsgS ?_)
  | (with_reducible refine rTest ?_)
  | (with_reducible refine rBl ?_)
  | (with_reducible refine rBl' ?_)
  | (with_reducible refine rInt ?_)
  | (with_reducible refine rInt' ?_)
  | (with_reducible refine rCall ?_)
  | (with_reducible refine rCB ?_)
  | (with_reducible refine rRet ?_)
  | (with_reducible refine rDrop ?_)
  | (with_reducible refine rIfS ?_)
  | (with_reducible refine rTup ?_)
  | (with_reducible refine rLst ?_)
  | (with_reducible refine ⟨Nat.le_of_ble_eq_true rfl, ?_⟩)
  | (with_reducible refine rSl ?_)
  | (with_reducible refine rPart ?_)
  | (with_reducible refine rNoPart ?_)
  | (with_reducible refine rBM ?_)
  | (with_reducible refine rBM0 ?_)
  | ((with_reducible refine tyL (xs := ?xs) ?h1 ?_); (case h1 => walk_at "hp"))
  | (with_reducible refine rM1 ?_)
  | (with_reducible refine rM0 ?_)
  | (with_reducible refine rStr ?_)
  | (with_reducible refine rTru ?_)
  | (with_reducible refine tru_bl ?_)
  | (with_reducible refine tru_int ?_)
  | ((with_reducible refine tru_lst (xs := ?xs) ?h1 ?_); (case h1 => walk_at "hp"))
  | ((with_reducible refine tru_tup (xs := ?xs) ?h1 ?_); (case h1 => walk_at "hp"))
  | ((with_reducible refine tru_str ?hc ?_); (case hc => walk_at "sz"))
  | (with_reducible refine rAnd ?_)
  | (with_reducible refine rOr ?_)
  | (with_reducible refine rNot ?_)
  | (with_reducible refine rAndV ?_)
  | (with_reducible refine rOrV ?_)
  | (with_reducible refine rNotV ?_)
  | (with_reducible refine rIfE ?_)
  | (with_reducible refine rChain ?_)
  | (with_reducible refine rChain3 ?_)
  | (with_reducible refine ifT ?_)
  | (with_reducible refine ifF ?_)
  | (with_reducible refine ifNF ?_)
  | (with_reducible refine ifNT ?_)
  | (with_reducible refine rNext ?_)
  | (with_reducible refine rBrk ?_)
  | (with_reducible refine rCnt ?_)
  | (with_reducible refine rRetN ?_)
  | (with_reducible refine rForR1 ?_)
  | (with_reducible refine rForR2 ?_)
  | (with_reducible refine rForL ?_)
  | ((with_reducible refine rRg1 ?hb ?_); (case hb => walk_at "nn"))
  | ((with_reducible refine rRg2 ?hb ?_); (case hb => walk_at "nn"))
  | ((with_reducible refine rRf (xs := ?xs) ?h1 ?_); (case h1 => walk_at "hp"))
  | (with_reducible refine rLcR1 ?_)
  | (with_reducible refine rLcR2 ?_)
  | (with_reducible refine rLcL ?_)
  | (with_reducible refine gN ?_)
  | (with_reducible refine gNl ?_)
  | (with_reducible refine gC ?_)
  | ((with_reducible refine gT (xs := ?xs) ?h1 ?h2 ?_); (case h1 => walk_at "hp"); (case h2 => exact rfl))
  | (with_reducible refine rUn ?_)
  | walk_at "rdv"
  | walk_at "rdc")
local macro_rules | `(tactic| walk_at "rd") => `(tactic| repeat walk_at "rd1")

local macro_rules | `(tactic| walk_at "rd1") => `(tactic| first
  | (with_reducible refine rCallS ?_)
  | (with_reducible refine rRaise ?_)
  | (with_reducible refine rXf ?_)
  | (with_reducible refine rXi ?_)
  | (with_reducible refine rOst ?_)
  | (with_reducible refine rRevL ?_)
  | ((with_reducible refine revL_end (xs := ?xs) ?h1 ?_); (case h1 => walk_at "hp")))

def sp_EditError (C : Addr) : Sp := fun vs H Q _ => ∃ (x : Addr) (n : Nat), vs = [.ref x, .int n] ∧ n ≤ 3000 ∧ H x = some (exo x C none) ∧
  ∀ d, H d = none → d ≠ x → Q .non (upd (upd H d (exd d [("index", .int n)])) x (exo x C (some d)))
/-- how such an error comes out of a def -/
abbrev BadX (C : Addr) (n : Nat) (H : Hp) (E : XK) : Prop := WantX C [("index", .int n)] H E
def sp_check_edits (C : Addr) : Sp := fun vs H Q E => ∃ (L : Int) (p : Addr) (us : List V) (es : List Ed), vs = [.int L, .ref p] ∧ H p = some (.lst us) ∧ Edits H us es ∧ Mild es ∧
  (fits L es → Q .non H) ∧ ∀ n : Nat, fu L es = n → n ≤ 1000 → BadX C n H E
theorem use_check_edits {C : Addr} {L : Int} {p : Addr} {us : List V} {es : List Ed} {H : Hp} {Q : VK} {E : XK} (hp : H p = some (.lst us)) (he : Edits H us es) (hs : Mild es) (h1 : fits L es → Q .non H) (h2 : ∀ n : Nat, fu L es = n → n ≤ 1000 → BadX C n H E) :
    sp_check_edits C [.int L, .ref p] H Q E := ⟨L, p, us, es, rfl, hp, he, hs, h1, h2⟩
def sp_apply (C : Addr) : Sp := fun vs H Q E => ∃ (t : Str) (p : Addr) (us : List V) (es : List Ed), vs = [.str t, .ref p] ∧ H p = some (.lst us) ∧ Edits H us es ∧ Mild es ∧ t.length ≤ 2000000 ∧ (fits t.length es → Mid t es) ∧
  (fits t.length es → Q (.str (aps t es)) H) ∧ ∀ n : Nat, fu t.length es = n → n ≤ 1000 → BadX C n H E
theorem use_apply {C : Addr} {t : Str} {p : Addr} {us : List V} {es : List Ed} {H : Hp} {Q : VK} {E : XK} (hp : H p = some (.lst us)) (he : Edits H us es) (hs : Mild es) (hl : t.length ≤ 2000000) (hm : fits t.length es → Mid t es) (h1 : fits t.length es → Q (.str (aps t es)) H)
    (h2 : ∀ n : Nat, fu t.length es = n → n ≤ 1000 → BadX C n H E) : sp_apply C [.str t, .ref p] H Q E := ⟨t, p, us, es, rfl, hp, he, hs, hl, hm, h1, h2⟩
def sp_inverse (C : Addr) : Sp := fun vs H Q E => ∃ (t : Str) (p : Addr) (us : List V) (es : List Ed), vs = [.str t, .ref p] ∧ H p = some (.lst us) ∧ Edits H us es ∧ Mild es ∧ t.length ≤ 2000000 ∧ (fits t.length es → Mid t es) ∧
  (fits t.length es → ∀ (q : Addr) (ws : List V) (H' : Hp), Frs H q → Same H H' → H' q = some (.lst ws) → Edits H' ws (bks t es) → Q (.ref q) H') ∧ ∀ n : Nat, fu t.length es = n → n ≤ 1000 → BadX C n H E
theorem use_inverse {C : Addr} {t : Str} {p : Addr} {us : List V} {es : List Ed} {H : Hp} {Q : VK} {E : XK} (hp : H p = some (.lst us)) (he : Edits H us es) (hs : Mild es) (hl : t.length ≤ 2000000) (hm : fits t.length es → Mid t es)
    (h1 : fits t.length es → ∀ (q : Addr) (ws : List V) (H' : Hp), Frs H q → Same H H' → H' q = some (.lst ws) → Edits H' ws (bks t es) → Q (.ref q) H')
    (h2 : ∀ n : Nat, fu t.length es = n → n ≤ 1000 → BadX C n H E) : sp_inverse C [.str t, .ref p] H Q E := ⟨t, p, us, es, rfl, hp, he, hs, hl, hm, h1, h2⟩
section
variable {P : Program} {w : World} {K : PySem.W.Frag} {mg : Str → Option Value} {base : Heap} {aE : Addr}
theorem sup_EditError : SupScope ["self", "index"] ["self", "index"] (C8.fnScope s_EditError___init__) := ⟨by decide +kernel, by decide +kernel, by decide +kernel, by decide, by decide, by decide +kernel, by decide +kernel, by decide +kernel, by decide +kernel, by decide +kernel⟩
theorem init_EditError {fI cda cc aE : Addr} {oc kV doc pm ct : Value} {od an : Option Addr} {osl : Array (Option Value)} (T : Txt mg) (lk : K.lookup fI = some ⟨oc, od, .func (PySem.W.ksFn "__init__" "EditError.__init__" (C8.fnArgs s_EditError___init__) (C8.fnBody s_EditError___init__) (C8.fnScope s_EditError___init__) .none kV doc pm an (.ref cda) ct cc), osl⟩) (hcd : PySem.W.codeIn K (.ref cda) "EditError.__init__" = true) (U : SupC P K mg aE cda cc)
    (iC : PySem.W.findIn K (.ref aE) "__init__" = some (some (.ref fI))) (tI : PySem.W.typeIn K (.ref fI) = some (.type "function")) (hm : mg "EditError" = some (.ref aE)) (nof_index : PySem.W.findIn K (.ref aE) "index" = some none) : OexI P w K mg base 1 "EditError" aE (sp_EditError aE) := by
  refine ⟨fI, _, ["self", "index"], U.oex, iC, tI, fn_sup (N := ["self", "index"]) (k := 0) lk hcd sup_EditError U (by rfl) (by rfl) (by rfl) (fun vs H Q E h => ?_) (fun _ => by rfl) (fun _ => ⟨_, by rfl⟩) (fun _ => by rfl) (fun _ => by rfl) (fun A outer s H vs Q E hr h => ?_), .all fun us hl => match us, hl with | [_, _], _ => rfl, hm⟩
  · obtain ⟨x, n, rfl, _⟩ := h; rfl
  · obtain ⟨x, n, rfl, hn, hx, k⟩ := h
    refine ⟨x, _, _, rfl, hx, (pa_cons (pe_op (op_addK K) (pe_op (op_addK K) pe_str (pe_callTy (call_strU (hu64 hr)) (by rfl) T.n_str (by decide +kernel) (pa_cons (pv 1) pa_nil))) pe_str) pa_nil), (pss_one (ps_ost (pv 0) (pv 1))), ?_⟩
    show (_ : TA) [some (.ref x), some (.int n)] H _
    have q1 := num_len hn
    have q2 : (Str.ofString "edit ").length = 5 := by decide +kernel
    have q3 : (Str.ofString " does not fit").length = 13 := by decide +kernel
    have q4 := len_app (Str.ofString "edit ") (Str.ofString (toString ((n : Nat) : Int)))
    walk_at "rd"
    refine st_int (log_small (by omega)) ?_
    walk_at "rd"
    refine ⟨hx, ?_⟩
    walk_at "rd"
    exact ⟨x, aE, rfl, U.oex, nof_index, .inl ⟨hx, fun d hd hdx => k d hd hdx⟩⟩
end
end Z
namespace Z
open PySem PySem.Spec L2
local macro_rules | `(tactic| walk_at "ne") => `(tactic| first
  | with_reducible assumption
  | with_reducible exact Ne.symm (by assumption)
  | exact Frs.ne (by with_reducible assumption) (by walk_at "hp")
  | exact Frs.ne' (by with_reducible assumption) (by walk_at "hp"))
local macro_rules | `(tactic| walk_at "hp") => `(tactic| first
  | with_reducible assumption
  | (with_reducible refine Same.at (by assumption) ?_; walk_at "hp")
  | (with_reducible refine SL.tup (by assumption) ?_; walk_at "hp")
  | (with_reducible refine SL.at (by assumption) (by walk_at "ne") ?_; walk_at "hp"))
local macro_rules | `(tactic| walk_at "sz") => `(tactic| first
  | with_reducible assumption
  | exact Nat.le_of_ble_eq_true rfl
  | (refine sz_le ?_; omega)
  | (refine sz_lt ?_; omega)
  | decide +kernel)
local macro_rules | `(tactic| walk_at "at") => `(tactic| first
  | with_reducible assumption
  | with_reducible exact at0
  | with_reducible exact at1
  | with_reducible exact at2
  | with_reducible exact ixN0)
local macro_rules | `(tactic| walk_at "nn") => `(tactic| first
  | omega
  | decide
  | exact ⟨by decide, by decide⟩
  | exact ⟨by omega, by omega⟩
  | exact ⟨by omega, by omega, by omega, by omega⟩)
local macro_rules | `(tactic| walk_at "rdv") => `(tactic| first
  | (with_reducible refine add_int ?_)
  | (with_reducible refine sub_int ?_)
  | (with_reducible refine neg_int ?_)
  | ((with_reducible refine ix_tpl (xs := ?xs) (v := ?v) ?h1 ?h2 ?_); (case h1 => walk_at "hp"); (case h2 => walk_at "at"))
  | ((with_reducible refine ix_lst (xs := ?xs) (v := ?v) ?h1 ?h2 ?_); (case h1 => walk_at "hp"); (case h2 => walk_at "at"))
  | (with_reducible refine eq_int ?_)
  | (with_reducible refine ne_int ?_)
  | (with_reducible refine lt_int ?_)
  | (with_reducible refine le_int ?_)
  | (with_reducible refine gt_int ?_)
  | (with_reducible refine ge_int ?_)
  | (with_reducible refine eq_str ?_)
  | (with_reducible refine ne_str ?_)
  | (with_reducible refine eq_bl ?_)
  | (with_reducible refine ne_bl ?_)
  | ((with_reducible refine mod_int ?hc ?_); (case hc => walk_at "nn"))
  | ((with_reducible refine div_int ?hc ?_); (case hc => walk_at "nn"))
  | ((with_reducible refine mul_intR ?hc ?_); (case hc => exact ⟨by decide, by decide⟩))
  | ((with_reducible refine mul_intR ?hc ?_); (case hc => exact ⟨by omega, by omega⟩))
  | ((with_reducible refine mul_intL ?hc ?_); (case hc => exact ⟨by omega, by omega⟩))
  | ((with_reducible refine pow_int ?hc ?_); (case hc => exact ⟨by decide, by decide, by decide⟩))
  | ((with_reducible refine add_str ?hc ?_); (case hc => walk_at "sz"))
  | ((with_reducible refine add_lst (xs := ?xs) (ys := ?ys) ?h1 ?h2 ?hc ?_); (case h1 => walk_at "hp"); (case h2 => walk_at "hp"); (case hc => walk_at "sz"))
  | ((with_reducible refine sl_strU ?hc ?_); (case hc => walk_at "sz"))
  | ((with_reducible refine sl_lst (xs := ?xs) ?h1 ?_); (case h1 => walk_at "hp"))
  | (with_reducible refine is_bl ?_)
  | (with_reducible refine isnt_bl ?_)
  | (with_reducible refine is_non ?_)
  | (with_reducible refine isnt_non ?_))
local macro_rules | `(tactic| walk_at "rdc") => `(tactic| first
  | ((with_reducible refine len_lst (xs := ?xs) ?h1 ?_); (case h1 => walk_at "hp"))
  | ((with_reducible refine len_tup (xs := ?xs) ?h1 ?_); (case h1 => walk_at "hp"))
  | ((with_reducible refine len_str ?hc ?_); (case hc => walk_at "sz"))
  | (with_reducible refine int_int ?_)
  | (with_reducible refine max_int ?_)
  | (with_reducible refine min_int ?_)
  | (with_reducible refine abs_int ?_)
  | (with_reducible refine isi_ii ?_)
  | (with_reducible refine isi_ib ?_)
  | (with_reducible refine isi_ss ?_)
  | (with_reducible refine isi_bb ?_)
  | ((with_reducible refine isi_tt (xs := ?xs) ?h1 ?_); (case h1 => walk_at "hp"))
  | ((with_reducible refine isi_ll (xs := ?xs) ?h1 ?_); (case h1 => walk_at "hp"))
  | ((with_reducible refine list_lst (xs := ?xs) ?h1 ?_); (case h1 => walk_at "hp"))
  | ((with_reducible refine list_tup (xs := ?xs) ?h1 ?_); (case h1 => walk_at "hp"))
  | ((with_reducible refine tuple_lst (xs := ?xs) ?h1 ?_); (case h1 => walk_at "hp"))
  | ((with_reducible refine tuple_tup (xs := ?xs) ?h1 ?_); (case h1 => walk_at "hp"))
  | ((with_reducible refine append_lst (xs := ?xs) ?h1 ?hc ?_); (case h1 => walk_at "hp"); (case hc => walk_at "sz"))
  | ((with_reducible refine clear_lst (xs := ?xs) ?h1 ?_); (case h1 => walk_at "hp"))
  | ((with_reducible refine set_lst (xs := ?xs) (k := ?k) ?h1 ?h2 ?_); (case h1 => walk_at "hp"); (case h2 => walk_at "at")))
local macro_rules | `(tactic| walk_at "rd1") => `(tactic| first
  | ((with_reducible refine rVar (v := ?v) ?h ?_); (case h => exact rfl))
  | (with_reducible refine rC ?_)
  | (with_reducible refine rCons ?_)
  | (with_reducible refine rNil ?_)
  | (with_reducible refine rOp ?_)
  | (with_reducible refine rSeq ?_)
  | (with_reducible refine rAsgN ?_)
  | (with_reducible refine rAsgT ?_)
  | (with_reducible refine rAsgS ?_)
  | (with_reducible refine rTest ?_)
  | (with_reducible refine rBl ?_)
  | (with_reducible refine rBl' ?_)
  | (with_reducible refine rInt ?_)
  | (with_reducible refine rInt' ?_)
  | (with_reducible refine rCall ?_)
  | (with_reducible refine rCB ?_)
  | (with_reducible refine rRet ?_)
  | (with_reducible refine rDrop ?_)
  | (with_reducible refine rIfS ?_)
  | (with_reducible refine rTup ?_)
  | (with_reducible refine rLst ?_)
  | (with_reducible refine ⟨Nat.le_of_ble_eq_true rfl, ?_⟩)
  | (with_reducible refine rSl ?_)
  | (with_reducible refine rPart ?_)
  | (with_reducible refine rNoPart ?_)
  | (with_reducible refine rBM ?_)
  | (with_reducible refine rBM0 ?_)
  | ((with_reducible refine tyL (xs := ?xs) ?h1 ?_); (case h1 => walk_at "hp"))
  | (with_reducible refine rM1 ?_)
  | (with_reducible refine rM0 ?_)
  | (with_reducible refine rStr ?_)
  | (with_reducible refine rTru ?_)
  | (with_reducible refine tru_bl ?_)
  | (with_reducible refine tru_int ?_)
  | ((with_reducible refine tru_lst (xs := ?xs) ?h1 ?_); (case h1 => walk_at "hp"))
  | ((with_reducible refine tru_tup (xs := ?xs) ?h1 ?_); (case h1 => walk_at "hp"))
  | ((with_reducible refine tru_str ?hc ?_); (case hc => walk_at "sz"))
  | (with_reducible refine rAnd ?_)
  | (with_reducible refine rOr ?_)
  | (with_reducible refine rNot ?_)
  | (with_reducible refine rAndV ?_)
  | (with_reducible refine rOrV ?_)
  | (with_reducible refine rNotV ?_)
  | (with_reducible refine rIfE ?_)
  | (with_reducible refine rChain ?_)
  | (with_reducible refine rChain3 ?_)
  | (with_reducible refine ifT ?_)
  | (with_reducible refine ifF ?_)
  | (with_reducible refine ifNF ?_)
  | (with_reducible refine ifNT ?_)
  | (with_reducible refine rNext ?_)
  | (with_reducible refine rBrk ?_)
  | (with_reducible refine rCnt ?_)
  | (with_reducible refine rRetN ?_)
  | (with_reducible refine rForR1 ?_)
  | (with_reducible refine rForR2 ?_)
  | (with_reducible refine rForL ?_)
  | ((with_reducible refine rRg1 ?hb ?_); (case hb => walk_at "nn"))
  | ((with_reducible refine rRg2 ?hb ?_); (case hb => walk_at "nn"))
  | ((with_reducible refine rRf (xs := ?xs) ?h1 ?_); (case h1 => walk_at "hp"))
  | (with_reducible refine rLcR1 ?_)
  | (with_reducible refine rLcR2 ?_)
  | (with_reducible refine rLcL ?_)
  | (with_reducible refine gN ?_)
  | (with_reducible refine gNl ?_)
  | (with_reducible refine gC ?_)
  | ((with_reducible refine gT (xs := ?xs) ?h1 ?h2 ?_); (case h1 => walk_at "hp"); (case h2 => exact rfl))
  | (with_reducible refine rUn ?_)
  | walk_at "rdv"
  | walk_at "rdc")
local macro_rules | `(tactic| walk_at "rd") => `(tactic| repeat walk_at "rd1")

local macro_rules | `(tactic| walk_at "rd1") => `(tactic| first
  | (with_reducible refine rCallS ?_)
  | (with_reducible refine rRaise ?_)
  | (with_reducible refine rXf ?_)
  | (with_reducible refine rXi ?_)
  | (with_reducible refine rOst ?_)
  | (with_reducible refine rRevL ?_)
  | ((with_reducible refine revL_end (xs := ?xs) ?h1 ?_); (case h1 => walk_at "hp")))

theorem use_planted {r p : Addr} {t : Str} {us : List V} {es : List Ed} {m : Int} {H : Hp} {Q : VK} {E : XK} (hR : Reel H r) (hpr : p ≠ r) (ht : t.length ≤ 5000) (hp : H p = some (.lst us)) (he : Edits H us es) (hf : fits t.length es) (hl : es.length ≤ 300) (hn : ∀ x ∈ es, Nm x) (hm : 0 ≤ m ∧ m ≤ 10)
    (h : ∀ (q : Addr) (us' : List V) (es' : List Ed) (H' : Hp), SL r H H' → Reel H' r → Frs H q → H' q = some (.lst us') → Edits H' us' es' → Small es' → Q (.ref q) H') : sp_law_planted [.ref r, .str t, .ref p, .int m] H Q E := ⟨r, p, t, us, es, m, rfl, hR, hpr, ht, hp, he, hf, hl, hn, hm.1, hm.2, h⟩
/-- the reel that is being filled -/
def Rl (H : Hp) (p : Addr) (lo hi : Nat) : Prop := ∃ ms : List Int, H p = some (.lst (V.int 0 :: ms.map V.int)) ∧ lo ≤ ms.length ∧ ms.length ≤ hi
theorem Rl.put {H' : Hp} {p : Addr} {ms : List Int} {z : Int} {lo hi : Nat} (h : H' p = some (.lst ((V.int 0 :: ms.map V.int) ++ [V.int z]))) (h1 : lo ≤ ms.length) (h2 : ms.length ≤ hi) : Rl H' p (lo + 1) (hi + 1) :=
  ⟨ms ++ [z], by rw [h, List.map_append]; rfl, by rw [List.length_append]; show _ ≤ _ + 1; omega, by rw [List.length_append]; show _ + 1 ≤ _; omega⟩
theorem Rl.le {H : Hp} {p : Addr} {lo hi lo' hi' : Nat} (h : Rl H p lo hi) (h1 : lo' ≤ lo) (h2 : hi ≤ hi') : Rl H p lo' hi' := let ⟨ms, e, a, b⟩ := h; ⟨ms, e, by omega, by omega⟩
def sp_law_reel (K : PySem.W.Frag) : Sp := fun vs H Q _ => ∃ (a : Addr) (ns : List Int), vs = [.ref a] ∧ SqL K H a (ns.map V.int) ∧ ns.length ≤ 63 ∧ ∀ (r : Addr) (H' : Hp), Frs H r → Same H H' → Reel H' r → Q (.ref r) H'
theorem use_reel {K : PySem.W.Frag} {a : Addr} {ns : List Int} {H : Hp} {Q : VK} {E : XK} (hs : SqL K H a (ns.map V.int)) (hl : ns.length ≤ 63) (h : ∀ (r : Addr) (H' : Hp), Frs H r → Same H H' → Reel H' r → Q (.ref r) H') : sp_law_reel K [.ref a] H Q E := ⟨a, ns, rfl, hs, hl, h⟩
section
variable {P : Program} {w : World} {K : PySem.W.Frag} {mg : Str → Option Value} {base : Heap} {aE : Addr}
theorem cal_law_reel {f : Addr} {fd : FuncData} (T : Txt mg) (FD : C8.Def K mg "_law_reel" s_law_reel f fd) (b : Binds K fd ["script"] []) : C8.Cal P w K mg base 1 "_law_reel" (sp_law_reel K) [] := by
  refine C8.cal0 FD b .nil sc_law_reel (fun vs H Q E h => ?_) (fun cdv A outer s H vs Q E hr h => ?_)
  · obtain ⟨a, ns, rfl, _⟩ := h; rfl
  · obtain ⟨a, ns, rfl, hS, hl, k⟩ := h
    refine ⟨_, (pss_cons (ps_set (i := 1) sc_law_reel.nd rfl (.inl rfl) (pe_lst (pa_cons pe_int pa_nil)))
  (pss_cons (ps_for PassesOwn.never rfl (pi_range1 rfl T.n_range (pa_cons (pe_callB (call_min2U rfl) (by rfl) T.n_min (by decide +kernel) (pa_cons (pe_callB (call_lenK K) (by rfl) T.n_len PySem.boot_len (pa_cons (pv 0) pa_nil)) (pa_cons pe_int pa_nil))) pa_nil)) (pg_name (i := 2) sc_law_reel.nd rfl (.inl rfl)) (pss_cons (ps_set (i := 3) sc_law_reel.nd rfl (.inl rfl) (pe_ix (ix_K K) (pv 0) (pv 2) (fun _ _ => rfl)))
  (pss_one (ps_if (pt_cmpR op_geU (pe_callB call_absU (by rfl) T.n_abs (by decide +kernel) (pa_cons (pv 3) pa_nil)) (pe_op op_powU pe_int pe_int) (nomark _)) (pss_cons (ps_set (i := 4) sc_law_reel.nd rfl (.inl rfl) (pe_callB call_absU (by rfl) T.n_abs (by decide +kernel) (pa_cons (pv 3) pa_nil)))
  (pss_one (ps_for PassesOwn.never rfl (pi_range1 rfl T.n_range (pa_cons pe_int pa_nil)) (pg_name (i := 5) sc_law_reel.nd rfl (.inl rfl)) (pss_one (ps_if (pt_cmpR op_gtU (pv 4) pe_int (nomark _)) (pss_cons (ps_expr (pe_bm F.plainAttrs_list F.slot_list_append F.type_list_append mt_append (pv 1) (pa_cons (pe_op op_modU (pe_callTy call_intU (by rfl) T.n_int (by decide +kernel) (pa_cons (pv 4) pa_nil)) pe_int) pa_nil)))
  (pss_one (ps_set (i := 4) sc_law_reel.nd rfl (.inl rfl) (pe_op op_divU (pv 4) pe_int)))) pss_nil))))) (pss_cons (ps_set (i := 6) sc_law_reel.nd rfl (.inl rfl) (pe_op op_modU (pe_callTy call_intU (by rfl) T.n_int (by decide +kernel) (pa_cons (pe_op (op_addK K) (pe_op (op_addK K) (pe_op op_mulU (pv 3) pe_int) (pe_op op_mulU (pv 2) pe_int)) pe_int) pa_nil)) pe_int))
  (pss_one (ps_for PassesOwn.never rfl (pi_range1 rfl T.n_range (pa_cons pe_int pa_nil)) (pg_name (i := 5) sc_law_reel.nd rfl (.inl rfl)) (pss_cons (ps_set (i := 6) sc_law_reel.nd rfl (.inl rfl) (pe_op op_modU (pe_callTy call_intU (by rfl) T.n_int (by decide +kernel) (pa_cons (pe_op (op_addK K) (pe_op (op_addK K) (pe_op op_mulU (pv 6) pe_int) (pe_op op_mulU (pv 5) pe_int)) pe_int) pa_nil)) pe_int))
  (pss_one (ps_expr (pe_bm F.plainAttrs_list F.slot_list_append F.type_list_append mt_append (pv 1) (pa_cons (pe_op op_modU (pe_callTy call_intU (by rfl) T.n_int (by decide +kernel) (pa_cons (pe_op op_divU (pv 6) pe_int) pa_nil)) pe_int) pa_nil))))))))))))
  (pss_cons (ps_set (i := 6) sc_law_reel.nd rfl (.inl rfl) (pe_op op_modU (pe_callTy call_intU (by rfl) T.n_int (by decide +kernel) (pa_cons (pe_op (op_addK K) (pe_op (op_addK K) (pe_op op_mulU (pe_callB (call_sumK K rfl) (by rfl) T.n_sum (by decide +kernel) (pa_cons (pv 1) pa_nil)) pe_int) (pe_op op_mulU (pe_callB (call_lenK K) (by rfl) T.n_len PySem.boot_len (pa_cons (pv 1) pa_nil)) pe_int)) pe_int) pa_nil)) pe_int))
  (pss_cons (ps_for PassesOwn.never rfl (pi_range1 rfl T.n_range (pa_cons pe_int pa_nil)) (pg_name (i := 5) sc_law_reel.nd rfl (.inl rfl)) (pss_cons (ps_set (i := 6) sc_law_reel.nd rfl (.inl rfl) (pe_op op_modU (pe_callTy call_intU (by rfl) T.n_int (by decide +kernel) (pa_cons (pe_op (op_addK K) (pe_op (op_addK K) (pe_op op_mulU (pv 6) pe_int) (pe_op op_mulU (pv 5) pe_int)) pe_int) pa_nil)) pe_int))
  (pss_one (ps_expr (pe_bm F.plainAttrs_list F.slot_list_append F.type_list_append mt_append (pv 1) (pa_cons (pe_op op_modU (pe_callTy call_intU (by rfl) T.n_int (by decide +kernel) (pa_cons (pe_op op_divU (pv 6) pe_int) pa_nil)) pe_int) pa_nil))))))
  (pss_one (ps_ret (pv 1))))))), ?_⟩
    show (_ : TS) _ [some (.ref a), none, none, none, none, none, none] H
    walk_at "rd"
    refine newO_gen fun p H1 f1 s1 h1 => ?_
    have g1 : Rl H1 p 0 0 := ⟨[], h1, by simp, by simp⟩
    have hml : (ns.map V.int).length = ns.length := List.length_map ..
    walk_at "rd"
    refine len_sql (s1.seq hS) ?_
    walk_at "rd"
    generalize hnb : (if (63 : Int) < ((ns.map V.int).length : Int) then (63 : Int) else ((ns.map V.int).length : Int)).toNat = nb
    have hnb1 : nb ≤ 63 ∧ nb ≤ ns.length := by rw [← hnb, hml]; split <;> omega
    refine loopR_by (fun i σ' H' => ∃ (o2 o3 o4 o5 o6 : Option V), σ' = [some (.ref a), some (.ref p), o2, o3, o4, o5, o6] ∧ SL p H1 H' ∧ Rl H' p 0 (60 * i)) ?_ ?_ ?_
    · exact ⟨none, none, none, none, none, rfl, SL.refl h1, g1⟩
    · rintro i σ' H2 hi ⟨o2, o3, o4, o5, o6, rfl, s2, g2⟩
      have hat : atI (ns.map V.int) (0 + (i : Int)) = some (V.int (ns[i]'(by omega))) := at_of (j := i) (by omega) (by rw [List.getElem?_map, List.getElem?_eq_getElem (by omega)]; rfl)
      generalize ns[i]'(by omega) = cell at hat
      walk_at "rd"
      refine ix_sql ((SL.same s1 s2 f1).seq hS) hat ?_
      walk_at "rd"
      refine ifD (fun c => ?_) (fun c => ?_)
      · walk_at "rd"
        generalize (if cell < 0 then -cell else cell) = rest0
        refine loopR_by (fun j σ' H' => ∃ (rest : Int) (o5 : Option V), σ' = [some (.ref a), some (.ref p), some (.int (0 + (i : Int))), some (.int cell), some (.int rest), o5, o6] ∧ SL p H1 H' ∧ Rl H' p 0 (60 * i + j)) ?_ ?_ ?_
        · exact ⟨rest0, _, rfl, s2, g2⟩
        · rintro j σ' H3 hj ⟨rest, o5, rfl, s3, ms, h3, l3, l3'⟩
          have hml : (V.int 0 :: ms.map V.int).length ≤ 10000 := by rw [List.length_cons, List.length_map]; omega
          walk_at "rd"
          refine ifD (fun c => ?_) (fun c => ?_)
          · walk_at "rd"
            refine putO_gen h3 fun H4 s4 h4 => ?_
            walk_at "rd"
            exact ⟨_, _, rfl, s3.trans s4, (Rl.put h4 l3 l3').le (by omega) (by omega)⟩
          · walk_at "rd"
            exact ⟨_, _, rfl, s3, ms, h3, l3, by omega⟩
        · rintro σ' H3 ⟨rest, o5, rfl, s3, g3⟩
          exact ⟨_, _, _, _, _, rfl, s3, g3.le (Nat.le_refl _) (by show 60 * i + 60 ≤ _; omega)⟩
      · walk_at "rd"
        generalize (cell * 48271 + (0 + (i : Int)) * 69621 + 4099) % 2147483647 = mixed0
        refine loopR_by (fun j σ' H' => ∃ (m : Int) (o5 : Option V), σ' = [some (.ref a), some (.ref p), some (.int (0 + (i : Int))), some (.int cell), o4, o5, some (.int m)] ∧ SL p H1 H' ∧ Rl H' p 0 (60 * i + j)) ?_ ?_ ?_
        · exact ⟨mixed0, _, rfl, s2, g2⟩
        · rintro j σ' H3 hj ⟨m, o5, rfl, s3, ms, h3, l3, l3'⟩
          have hml : (V.int 0 :: ms.map V.int).length ≤ 10000 := by rw [List.length_cons, List.length_map]; omega
          walk_at "rd"
          refine putO_gen h3 fun H4 s4 h4 => ?_
          walk_at "rd"
          exact ⟨_, _, rfl, s3.trans s4, (Rl.put h4 l3 l3').le (by omega) (by omega)⟩
        · rintro σ' H3 ⟨m, o5, rfl, s3, g3⟩
          exact ⟨_, _, _, _, _, rfl, s3, g3.le (Nat.le_refl _) (by show 60 * i + 4 ≤ _; omega)⟩
    · rintro σ' H2 ⟨o2, o3, o4, o5, o6, rfl, s2, ms, h2, l2, l2'⟩
      walk_at "rd"
      refine sum_lst (ns := 0 :: ms) h2 ?_
      walk_at "rd"
      generalize ((0 :: ms).sum * 69621 + ((V.int 0 :: ms.map V.int).length : Int) * 48271 + 977) % 2147483647 = mixed0
      refine loopR_by (fun j σ' H' => ∃ (m : Int) (o5 : Option V), σ' = [some (.ref a), some (.ref p), o2, o3, o4, o5, some (.int m)] ∧ SL p H1 H' ∧ Rl H' p j (60 * nb + j)) ?_ ?_ ?_
      · exact ⟨mixed0, _, rfl, s2, ms, h2, l2, l2'⟩
      · rintro j σ' H3 hj ⟨m, o5, rfl, s3, ms, h3, l3, l3'⟩
        have hml : (V.int 0 :: ms.map V.int).length ≤ 10000 := by rw [List.length_cons, List.length_map]; omega
        walk_at "rd"
        refine putO_gen h3 fun H4 s4 h4 => ?_
        walk_at "rd"
        exact ⟨_, _, rfl, s3.trans s4, (Rl.put h4 l3 l3').le (by omega) (by omega)⟩
      · rintro σ' H3 ⟨m, o5, rfl, s3, ms, h3, l3, l3'⟩
        walk_at "rd"
        exact k p H3 f1 (SL.same s1 s3 f1) ⟨0, ms, h3, l3, by omega⟩
end
end Z
namespace Z
open PySem PySem.Spec L2
local macro_rules | `(tactic| walk_at "ne") => `(tactic| first
  | with_reducible assumption
  | with_reducible exact Ne.symm (by assumption)
  | exact Frs.ne (by with_reducible assumption) (by walk_at "hp")
  | exact Frs.ne' (by with_reducible assumption) (by walk_at "hp"))
local macro_rules | `(tactic| walk_at "hp") => `(tactic| first
  | with_reducible assumption
  | (with_reducible refine Same.at (by assumption) ?_; walk_at "hp")
  | (with_reducible refine SL.tup (by assumption) ?_; walk_at "hp")
  | (with_reducible refine SL.at (by assumption) (by walk_at "ne") ?_; walk_at "hp"))
local macro_rules | `(tactic| walk_at "sz") => `(tactic| first
  | with_reducible assumption
  | exact Nat.le_of_ble_eq_true rfl
  | (refine sz_le ?_; omega)
  | (refine sz_lt ?_; omega)
  | decide +kernel)
local macro_rules | `(tactic| walk_at "at") => `(tactic| first
  | with_reducible assumption
  | with_reducible exact at0
  | with_reducible exact at1
  | with_reducible exact at2
  | with_reducible exact ixN0)
local macro_rules | `(tactic| walk_at "nn") => `(tactic| first
  | omega
  | decide
  | exact ⟨by decide, by decide⟩
  | exact ⟨by omega, by omega⟩
  | exact ⟨by omega, by omega, by omega, by omega⟩)
local macro_rules | `(tactic| walk_at "rdv") => `(tactic| first
  | (with_reducible refine add_int ?_)
  | (with_reducible refine sub_int ?_)
  | (with_reducible refine neg_int ?_)
  | ((with_reducible refine ix_tpl (xs := ?xs) (v := ?v) ?h1 ?h2 ?_); (case h1 => walk_at "hp"); (case h2 => walk_at "at"))
  | ((with_reducible refine ix_lst (xs := ?xs) (v := ?v) ?h1 ?h2 ?_); (case h1 => walk_at "hp"); (case h2 => walk_at "at"))
  | (with_reducible refine eq_int ?_)
  | (with_reducible refine ne_int ?_)
  | (with_reducible refine lt_int ?_)
  | (with_reducible refine le_int ?_)
  | (with_reducible refine gt_int ?_)
  | (with_reducible refine ge_int ?_)
  | (with_reducible refine eq_str ?_)
  | (with_reducible refine ne_str ?_)
  | (with_reducible refine eq_bl ?_)
  | (with_reducible refine ne_bl ?_)
  | ((with_reducible refine mod_int ?hc ?_); (case hc => walk_at "nn"))
  | ((with_reducible refine div_int ?hc ?_); (case hc => walk_at "nn"))
  | ((with_reducible refine mul_intR ?hc ?_); (case hc => exact ⟨by decide, by decide⟩))
  | ((with_reducible refine mul_intR ?hc ?_); (case hc => exact ⟨by omega, by omega⟩))
  | ((with_reducible refine mul_intL ?hc ?_); (case hc => exact ⟨by omega, by omega⟩))
  | ((with_reducible refine pow_int ?hc ?_); (case hc => exact ⟨by decide, by decide, by decide⟩))
  | ((with_reducible refine add_str ?hc ?_); (case hc => walk_at "sz"))
  | ((with_reducible refine add_lst (xs := ?xs) (ys := ?ys) ?h1 ?h2 ?hc ?_); (case h1 => walk_at "hp"); (case h2 => walk_at "hp"); (case hc => walk_at "sz"))
  | ((with_reducible refine sl_strU ?hc ?_); (case hc => walk_at "sz"))
  | ((with_reducible refine sl_lst (xs := ?xs) ?h1 ?_); (case h1 => walk_at "hp"))
  | (with_reducible refine is_bl ?_)
  | (with_reducible refine isnt_bl ?_)
  | (with_reducible refine is_non ?_)
  | (with_reducible refine isnt_non ?_))
local macro_rules | `(tactic| walk_at "rdc") => `(tactic| first
  | ((with_reducible refine len_lst (xs := ?xs) ?h1 ?_); (case h1 => walk_at "hp"))
  | ((with_reducible refine len_tup (xs := ?xs) ?h1 ?_); (case h1 => walk_at "hp"))
  | ((with_reducible refine len_str ?hc ?_); (case hc => walk_at "sz"))
  | (with_reducible refine int_int ?_)
  | (with_reducible refine max_int ?_)
  | (with_reducible refine min_int ?_)
  | (with_reducible refine abs_int ?_)
  | (with_reducible refine isi_ii ?_)
  | (with_reducible refine isi_ib ?_)
  | (with_reducible refine isi_ss ?_)
  | (with_reducible refine isi_bb ?_)
  | ((with_reducible refine isi_tt (xs := ?xs) ?h1 ?_); (case h1 => walk_at "hp"))
  | ((with_reducible refine isi_ll (xs := ?xs) ?h1 ?_); (case h1 => walk_at "hp"))
  | ((with_reducible refine list_lst (xs := ?xs) ?h1 ?_); (case h1 => walk_at "hp"))
  | ((with_reducible refine list_tup (xs := ?xs) ?h1 ?_); (case h1 => walk_at "hp"))
  | ((with_reducible refine tuple_lst (xs := ?xs) ?h1 ?_); (case h1 => walk_at "hp"))
  | ((with_reducible refine tuple_tup (xs := ?xs) ?h1 ?_); (case h1 => walk_at "hp"))
  | ((with_reducible refine append_lst (xs := ?xs) ?h1 ?hc ?_); (case h1 => walk_at "hp"); (case hc => walk_at "sz"))
  | ((with_reducible refine clear_lst (xs := ?xs) ?h1 ?_); (case h1 => walk_at "hp"))
  | ((with_reducible refine set_lst (xs := ?xs) (k := ?k) ?h1 ?h2 ?_); (case h1 => walk_at "hp"); (case h2 => walk_at "at")))
local macro_rules | `(tactic| walk_at "rd1") => `(tactic| first
  | ((with_reducible refine rVar (v := ?v) ?h ?_); (case h => exact rfl))
  | (with_reducible refine rC ?_)
  | (with_reducible refine rCons ?_)
  | (with_reducible refine rNil ?_)
  | (with_reducible refine rOp ?_)
  | (with_reducible refine rSeq ?_)
  | (with_reducible refine rAsgN ?_)
  | (with_reducible refine rAsgT ?_)
  | (with_reducible refine rAsgS ?_)
  | (with_reducible refine rTest ?_)
  | (with_reducible refine rBl ?_)
  | (with_reducible refine rBl' ?_)
  | (with_reducible refine rInt ?_)
  | (with_reducible refine rInt' ?_)
  | (with_reducible refine rCall ?_)
  | (with_reducible refine rCB ?_)
  | (with_reducible refine rRet ?_)
  | (with_reducible refine rDrop ?_)
  | (with_reducible refine rIfS ?_)
  | (with_reducible refine rTup ?_)
  | (with_reducible refine rLst ?_)
  | (with_reducible refine ⟨Nat.le_of_ble_eq_true rfl, ?_⟩)
  | (with_reducible refine rSl ?_)
  | (with_reducible refine rPart ?_)
  | (with_reducible refine rNoPart ?_)
  | (with_reducible refine rBM ?_)
  | (with_reducible refine rBM0 ?_)
  | ((with_reducible refine tyL (xs := ?xs) ?h1 ?_); (case h1 => walk_at "hp"))
  | (with_reducible refine rM1 ?_)
  | (with_reducible refine rM0 ?_)
  | (with_reducible refine rStr ?_)
  | (with_reducible refine rTru ?_)
  | (with_reducible refine tru_bl ?_)
  | (with_reducible refine tru_int ?_)
  | ((with_reducible refine tru_lst (xs := ?xs) ?h1 ?_); (case h1 => walk_at "hp"))
  | ((with_reducible refine tru_tup (xs := ?xs) ?h1 ?_); (case h1 => walk_at "hp"))
  | ((with_reducible refine tru_str ?hc ?_); (case hc => walk_at "sz"))
  | (with_reducible refine rAnd ?_)
  | (with_reducible refine rOr ?_)
  | (with_reducible refine rNot ?_)
  | (with_reducible refine rAndV ?_)
  | (with_reducible refine rOrV ?_)
  | (with_reducible refine rNotV ?_)
  | (with_reducible refine rIfE ?_)
  | (with_reducible refine rChain ?_)
  | (with_reducible refine rChain3 ?_)
  | (with_reducible refine ifT ?_)
  | (with_reducible refine ifF ?_)
  | (with_reducible refine ifNF ?_)
  | (with_reducible refine ifNT ?_)
  | (with_reducible refine rNext ?_)
  | (with_reducible refine rBrk ?_)
  | (with_reducible refine rCnt ?_)
  | (with_reducible refine rRetN ?_)
  | (with_reducible refine rForR1 ?_)
  | (with_reducible refine rForR2 ?_)
  | (with_reducible refine rForL ?_)
  | ((with_reducible refine rRg1 ?hb ?_); (case hb => walk_at "nn"))
  | ((with_reducible refine rRg2 ?hb ?_); (case hb => walk_at "nn"))
  | ((with_reducible refine rRf (xs := ?xs) ?h1 ?_); (case h1 => walk_at "hp"))
  | (with_reducible refine rLcR1 ?_)
  | (with_reducible refine rLcR2 ?_)
  | (with_reducible refine rLcL ?_)
  | (with_reducible refine gN ?_)
  | (with_reducible refine gNl ?_)
  | (with_reducible refine gC ?_)
  | ((with_reducible refine gT (xs := ?xs) ?h1 ?h2 ?_); (case h1 => walk_at "hp"); (case h2 => exact rfl))
  | (with_reducible refine rUn ?_)
  | walk_at "rdv"
  | walk_at "rdc")
local macro_rules | `(tactic| walk_at "rd") => `(tactic| repeat walk_at "rd1")

local macro_rules | `(tactic| walk_at "rd1") => `(tactic| first
  | (with_reducible refine rCallS ?_)
  | (with_reducible refine rRaise ?_)
  | (with_reducible refine rXf ?_)
  | (with_reducible refine rXi ?_)
  | (with_reducible refine rOst ?_)
  | (with_reducible refine rRevL ?_)
  | ((with_reducible refine revL_end (xs := ?xs) ?h1 ?_); (case h1 => walk_at "hp")))

local macro_rules | `(tactic| walk_at "rd1") => `(tactic| first
  | (with_reducible refine rMkV ?_)
  | (with_reducible refine rXa ?_))

local macro_rules | `(tactic| walk_at "rd1") => `(tactic| first
  | (with_reducible refine rForR3 ?_)
  | ((with_reducible refine rRgD ?hb ?_); (case hb => walk_at "nn"))
  | (with_reducible refine gS ?_))

/-- two lists, the second of which applies to what the first one leaves -/
structure Xok (sz : Int) (xs ys : List Ed) : Prop where
  pos : 0 ≤ sz
  few : sz ≤ 100000
  fit : fits sz (xs ++ ys)
  l1 : xs.length ≤ 60
  l2 : ys.length ≤ 60
  n1 : ∀ x ∈ xs, Nm x
  n2 : ∀ y ∈ ys, Nm y
theorem nms {xs ys : List Ed} (e : xs.map Ed.n = ys.map Ed.n) (h : ∀ y ∈ ys, Nm y) : ∀ x ∈ xs, Nm x := fun x hx => by
  have : x.n ∈ ys.map Ed.n := by rw [← e]; exact List.mem_map_of_mem hx
  obtain ⟨y, hy, e2⟩ := List.mem_map.mp this
  have := h y hy
  unfold Nm at this ⊢
  rw [← e2]
  exact this
theorem mod_of {es : List Ed} {sz : Int} {x : Ed} (hf : fits sz es) (hz : sz ≤ 300000) (hl : es.length ≤ 200) (hn : ∀ x ∈ es, Nm x) (hx : x ∈ es) : Mod1 x := by
  have h1 := fits_mem hf (fun y hy => (hn y hy).1) x hx
  have h2 := hn x hx
  exact ⟨⟨by omega, by omega⟩, h2.2, by have := h2.1; omega⟩
/-- within the exchange of one edit with a list: the one at hand and the next of the list may be told -/
theorem mod_at {as bs rest : List Ed} {sz : Int} {y m : Ed} {ws : List Ed} {k : Nat} (h0 : 0 ≤ sz) (hz : sz ≤ 100000) (hf : fits sz (as ++ (bs ++ (y :: rest)))) (la : as.length ≤ 60) (lb : bs.length ≤ 60) (na : ∀ x ∈ as, Nm x) (nb : ∀ x ∈ bs, Nm x) (ny : Nm y)
    (e : swr (bs.drop k) y = .ok (m, ws)) : Mod1 m ∧ m.n = y.n ∧ ws.map Ed.n = (bs.drop k).map Ed.n ∧ ∀ x ∈ bs, Mod1 x := by
  obtain ⟨f1, f2⟩ := fits_app.mp hf
  have e1 : bs ++ (y :: rest) = bs.take k ++ ((bs.drop k ++ [y]) ++ rest) := by rw [← List.append_assoc, ← List.append_assoc, List.take_append_drop, List.append_assoc]; rfl
  rw [e1] at f2
  obtain ⟨f3, f4⟩ := fits_app.mp f2
  obtain ⟨f5, _⟩ := fits_app.mp f4
  have p1 := sza_nonneg h0 f1
  have p2 := sza_nonneg p1 f3
  have q1 := sza_le f1 fun x hx => (na x hx).1
  have q2 := sza_le f3 fun x hx => (nb x (List.mem_of_mem_take hx)).1
  have q3 : (bs.take k).length ≤ bs.length := by rw [List.length_take]; omega
  obtain ⟨g1, g2, g3, g4⟩ := swr_fits p2 f5 e
  have hm := g1.1
  have nm : m.n.length ≤ 2000 := by rw [g3]; exact ny.1
  refine ⟨⟨⟨by omega, by omega⟩, by rw [g3]; exact ny.2, by omega⟩, g3, g4, fun x hx => ?_⟩
  have hb := (fits_app.mp (fits_app.mp hf).2).1
  exact mod_of hb (by omega) (by omega) nb hx
def sp_swap_lists (C : Addr) : Sp := fun vs H Q E => ∃ (p q : Addr) (us ws : List V) (xs ys : List Ed) (sz : Int), vs = [.ref p, .ref q] ∧ H p = some (.lst us) ∧ H q = some (.lst ws) ∧ Edits H us xs ∧ Edits H ws ys ∧ Xok sz xs ys ∧
  (∀ as bs, swl xs ys = .ok (as, bs) → ∀ (z pa pb : Addr) (ua ub : List V) (H' : Hp), Same H H' → Frs H pa → Frs H pb → pa ≠ pb → H' z = some (.tup [.ref pa, .ref pb]) → H' pa = some (.lst ua) → H' pb = some (.lst ub) → Edits H' ua as → Edits H' ub bs → Q (.ref z) H') ∧
  (∀ x y, swl xs ys = .bad x y → ∀ (u v : V) (H' : Hp), Same H H' → EdAt H' u x → EdAt H' v y → WantX C [("second", v), ("first", u)] H' E)
theorem use_swap_lists {C p q : Addr} {us ws : List V} {xs ys : List Ed} {sz : Int} {H : Hp} {Q : VK} {E : XK} (hp : H p = some (.lst us)) (hq : H q = some (.lst ws)) (hx : Edits H us xs) (hy : Edits H ws ys) (ok : Xok sz xs ys)
    (h1 : ∀ as bs, swl xs ys = .ok (as, bs) → ∀ (z pa pb : Addr) (ua ub : List V) (H' : Hp), Same H H' → Frs H pa → Frs H pb → pa ≠ pb → H' z = some (.tup [.ref pa, .ref pb]) → H' pa = some (.lst ua) → H' pb = some (.lst ub) → Edits H' ua as → Edits H' ub bs → Q (.ref z) H')
    (h2 : ∀ x y, swl xs ys = .bad x y → ∀ (u v : V) (H' : Hp), Same H H' → EdAt H' u x → EdAt H' v y → WantX C [("second", v), ("first", u)] H' E) : sp_swap_lists C [.ref p, .ref q] H Q E := ⟨p, q, us, ws, xs, ys, sz, rfl, hp, hq, hx, hy, ok, h1, h2⟩
/-- what a def says of two edits: the exchanged ones, or that there are none -/
def sp_law_exchanged : Sp := fun vs H Q _ => ∃ (u v : V) (x y : Ed), vs = [u, v] ∧ EdAt H u x ∧ EdAt H v y ∧ Mod1 x ∧ Mod1 y ∧
  (∀ y' x', exch x y = some (y', x') → ∀ (z : Addr) (u' v' : V) (H' : Hp), Same H H' → H' z = some (.tup [u', v']) → EdAt H' u' y' → EdAt H' v' x' → Q (.ref z) H') ∧ (exch x y = none → ∀ (z : Addr) (H' : Hp), Same H H' → H' z = some (.tup []) → Q (.ref z) H')
theorem use_exchanged {u v : V} {x y : Ed} {H : Hp} {Q : VK} {E : XK} (hx : EdAt H u x) (hy : EdAt H v y) (mx : Mod1 x) (my : Mod1 y)
    (h1 : ∀ y' x', exch x y = some (y', x') → ∀ (z : Addr) (u' v' : V) (H' : Hp), Same H H' → H' z = some (.tup [u', v']) → EdAt H' u' y' → EdAt H' v' x' → Q (.ref z) H')
    (h2 : exch x y = none → ∀ (z : Addr) (H' : Hp), Same H H' → H' z = some (.tup []) → Q (.ref z) H') : sp_law_exchanged [u, v] H Q E := ⟨u, v, x, y, rfl, hx, hy, mx, my, h1, h2⟩
/-- what is due -/
def Due (xs ys : List Ed) (H : Hp) (Q : VK) : Prop :=
  (∀ as bs, swl xs ys = .ok (as, bs) → ∀ (z l e pa pb : Addr) (ua ub : List V) (H' : Hp), Same H H' → H' z = some (.tup [.ref l, .ref e]) → H' e = some (.tup []) → H' l = some (.lst [.ref pa, .ref pb]) → H' pa = some (.lst ua) → H' pb = some (.lst ub) → Edits H' ua as → Edits H' ub bs → Q (.ref z) H') ∧
  (∀ x y, swl xs ys = .bad x y → ∀ (z l e : Addr) (u v : V) (H' : Hp), Same H H' → H' z = some (.tup [.ref l, .ref e]) → H' e = some (.tup [u, v]) → EdAt H' u x → EdAt H' v y → Q (.ref z) H')
def sp_law_due : Sp := fun vs H Q _ => ∃ (p q : Addr) (us ws : List V) (xs ys : List Ed) (sz : Int), vs = [.ref p, .ref q] ∧ H p = some (.lst us) ∧ H q = some (.lst ws) ∧ Edits H us xs ∧ Edits H ws ys ∧ Xok sz xs ys ∧ Due xs ys H Q
theorem use_due {p q : Addr} {us ws : List V} {xs ys : List Ed} {sz : Int} {H : Hp} {Q : VK} {E : XK} (hp : H p = some (.lst us)) (hq : H q = some (.lst ws)) (hx : Edits H us xs) (hy : Edits H ws ys) (ok : Xok sz xs ys) (h : Due xs ys H Q) : sp_law_due [.ref p, .ref q] H Q E := ⟨p, q, us, ws, xs, ys, sz, rfl, hp, hq, hx, hy, ok, h⟩
def sp_law_told : Sp := fun vs H Q _ => ∃ (p q : Addr) (us ws : List V) (xs ys : List Ed) (sz : Int), vs = [.ref p, .ref q] ∧ H p = some (.lst us) ∧ H q = some (.lst ws) ∧ Edits H us xs ∧ Edits H ws ys ∧ Xok sz xs ys ∧
  (∀ as bs, swl xs ys = .ok (as, bs) → ∀ (z0 z pa pb : Addr) (ua ub : List V) (H' : Hp), Same H H' → Frs H pa → Frs H pb → pa ≠ pb → H' z0 = some (.tup [.ref z]) → H' z = some (.tup [.ref pa, .ref pb]) → H' pa = some (.lst ua) → H' pb = some (.lst ub) → Edits H' ua as → Edits H' ub bs → Q (.ref z0) H') ∧
  (∀ x y, swl xs ys = .bad x y → ∀ (z0 : Addr) (u v : V) (H' : Hp), Same H H' → H' z0 = some (.tup [u, v, .bl true]) → EdAt H' u x → EdAt H' v y → Q (.ref z0) H')
theorem use_told {p q : Addr} {us ws : List V} {xs ys : List Ed} {sz : Int} {H : Hp} {Q : VK} {E : XK} (hp : H p = some (.lst us)) (hq : H q = some (.lst ws)) (hx : Edits H us xs) (hy : Edits H ws ys) (ok : Xok sz xs ys)
    (h1 : ∀ as bs, swl xs ys = .ok (as, bs) → ∀ (z0 z pa pb : Addr) (ua ub : List V) (H' : Hp), Same H H' → Frs H pa → Frs H pb → pa ≠ pb → H' z0 = some (.tup [.ref z]) → H' z = some (.tup [.ref pa, .ref pb]) → H' pa = some (.lst ua) → H' pb = some (.lst ub) → Edits H' ua as → Edits H' ub bs → Q (.ref z0) H')
    (h2 : ∀ x y, swl xs ys = .bad x y → ∀ (z0 : Addr) (u v : V) (H' : Hp), Same H H' → H' z0 = some (.tup [u, v, .bl true]) → EdAt H' u x → EdAt H' v y → Q (.ref z0) H') : sp_law_told [.ref p, .ref q] H Q E := ⟨p, q, us, ws, xs, ys, sz, rfl, hp, hq, hx, hy, ok, h1, h2⟩
def sp_law_numbered : Sp := fun vs H Q _ => ∃ (pl q : Addr) (us : List V) (es : List Ed) (l : List Int) (base : Nat), vs = [.ref pl, .ref q, .int base] ∧ H pl = some (.lst (l.map V.int)) ∧ H q = some (.lst us) ∧ Edits H us es ∧ fits l.length es ∧ (∀ x ∈ es, Nm x) ∧ es.length ≤ 100 ∧ l.length ≤ 2000000 ∧ base ≤ 1000000 ∧
  ∀ (z : Addr) (H' : Hp), Same H H' → H' z = some (.lst ((numd base l es).map V.int)) → Q (.ref z) H'
theorem use_numbered {pl q : Addr} {us : List V} {es : List Ed} {l : List Int} {base : Nat} {H : Hp} {Q : VK} {E : XK} (hl : H pl = some (.lst (l.map V.int))) (hq : H q = some (.lst us)) (he : Edits H us es) (hf : fits l.length es) (hn : ∀ x ∈ es, Nm x) (h1 : es.length ≤ 100) (h2 : l.length ≤ 2000000) (h3 : base ≤ 1000000)
    (h : ∀ (z : Addr) (H' : Hp), Same H H' → H' z = some (.lst ((numd base l es).map V.int)) → Q (.ref z) H') : sp_law_numbered [.ref pl, .ref q, .int base] H Q E := ⟨pl, q, us, es, l, base, rfl, hl, hq, he, hf, hn, h1, h2, h3, h⟩
def sp_law_lists_ok : Sp := fun vs H Q _ => ∃ (z l pa pb qa qb : Addr) (ua ub va vb : List V) (as bs : List Ed), vs = [.ref z, .ref l] ∧ H z = some (.tup [.ref pa, .ref pb]) ∧ H l = some (.lst [.ref qa, .ref qb]) ∧ H pa = some (.lst ua) ∧ H pb = some (.lst ub) ∧ H qa = some (.lst va) ∧ H qb = some (.lst vb) ∧
  Edits H ua as ∧ Edits H ub bs ∧ Edits H va as ∧ Edits H vb bs ∧ as.length ≤ 1000 ∧ bs.length ≤ 1000 ∧ (∀ x ∈ as, Ok x.n) ∧ (∀ x ∈ bs, Ok x.n) ∧ Q (.bl true) H
theorem use_lists_ok {z l pa pb qa qb : Addr} {ua ub va vb : List V} {as bs : List Ed} {H : Hp} {Q : VK} {E : XK} (hz : H z = some (.tup [.ref pa, .ref pb])) (hl : H l = some (.lst [.ref qa, .ref qb])) (h1 : H pa = some (.lst ua)) (h2 : H pb = some (.lst ub)) (h3 : H qa = some (.lst va)) (h4 : H qb = some (.lst vb))
    (e1 : Edits H ua as) (e2 : Edits H ub bs) (e3 : Edits H va as) (e4 : Edits H vb bs) (l1 : as.length ≤ 1000) (l2 : bs.length ≤ 1000) (k1 : ∀ x ∈ as, Ok x.n) (k2 : ∀ x ∈ bs, Ok x.n) (h : Q (.bl true) H) : sp_law_lists_ok [.ref z, .ref l] H Q E :=
  ⟨z, l, pa, pb, qa, qb, ua, ub, va, vb, as, bs, rfl, hz, hl, h1, h2, h3, h4, e1, e2, e3, e4, l1, l2, k1, k2, h⟩
def sp_law_same_row : Sp := fun vs H Q _ => ∃ (n : Nat) (p q l qa qb : Addr) (us ws va vb : List V) (xs ys as bs : List Ed), vs = [.int n, .ref p, .ref q, .ref l] ∧ H p = some (.lst us) ∧ H q = some (.lst ws) ∧ H l = some (.lst [.ref qa, .ref qb]) ∧ H qa = some (.lst va) ∧ H qb = some (.lst vb) ∧
  Edits H us xs ∧ Edits H ws ys ∧ Edits H va as ∧ Edits H vb bs ∧ Xok n xs ys ∧ swl xs ys = .ok (as, bs) ∧ ∀ H', Same H H' → Q (.bl true) H'
theorem use_same_row {n : Nat} {p q l qa qb : Addr} {us ws va vb : List V} {xs ys as bs : List Ed} {H : Hp} {Q : VK} {E : XK} (hp : H p = some (.lst us)) (hq : H q = some (.lst ws)) (hl : H l = some (.lst [.ref qa, .ref qb])) (h3 : H qa = some (.lst va)) (h4 : H qb = some (.lst vb))
    (e1 : Edits H us xs) (e2 : Edits H ws ys) (e3 : Edits H va as) (e4 : Edits H vb bs) (ok : Xok n xs ys) (e : swl xs ys = .ok (as, bs)) (h : ∀ H', Same H H' → Q (.bl true) H') : sp_law_same_row [.int n, .ref p, .ref q, .ref l] H Q E :=
  ⟨n, p, q, l, qa, qb, us, ws, va, vb, xs, ys, as, bs, rfl, hp, hq, hl, h3, h4, e1, e2, e3, e4, ok, e, h⟩
def sp_law_asked : Sp := fun vs H Q _ => ∃ (n : Nat) (p q : Addr) (us ws : List V) (xs ys : List Ed), vs = [.int n, .ref p, .ref q] ∧ H p = some (.lst us) ∧ H q = some (.lst ws) ∧ Edits H us xs ∧ Edits H ws ys ∧ Xok n xs ys ∧ ∀ H', Same H H' → Q (.bl true) H'
theorem use_asked {n : Nat} {p q : Addr} {us ws : List V} {xs ys : List Ed} {H : Hp} {Q : VK} {E : XK} (hp : H p = some (.lst us)) (hq : H q = some (.lst ws)) (e1 : Edits H us xs) (e2 : Edits H ws ys) (ok : Xok n xs ys) (h : ∀ H', Same H H' → Q (.bl true) H') : sp_law_asked [.int n, .ref p, .ref q] H Q E := ⟨n, p, q, us, ws, xs, ys, rfl, hp, hq, e1, e2, ok, h⟩
def sp_law_moved : Sp := fun vs H Q _ => ∃ (p : Addr) (us : List V) (es : List Ed) (b : Int), vs = [.ref p, .int b] ∧ H p = some (.lst us) ∧ Edits H us es ∧ es.length ≤ 1000 ∧ ∀ (z : Addr) (ws : List V) (H' : Hp), Same H H' → Frs H z → H' z = some (.lst ws) → Edits H' ws (es.map (mvd b)) → Q (.ref z) H'
theorem use_moved {p : Addr} {us : List V} {es : List Ed} {b : Int} {H : Hp} {Q : VK} {E : XK} (hp : H p = some (.lst us)) (he : Edits H us es) (hl : es.length ≤ 1000) (h : ∀ (z : Addr) (ws : List V) (H' : Hp), Same H H' → Frs H z → H' z = some (.lst ws) → Edits H' ws (es.map (mvd b)) → Q (.ref z) H') : sp_law_moved [.ref p, .int b] H Q E := ⟨p, us, es, b, rfl, hp, he, hl, h⟩
theorem numd_nil (b : Nat) (l : List Int) : numd b l [] = l := rfl
def sp_law (K : PySem.W.Frag) : Sp := fun vs H Q _ => ∃ (a : Addr) (ns : List Int), vs = [.ref a] ∧ SqL K H a (ns.map V.int) ∧ ns.length ≤ 63 ∧ ∀ H', Q (.bl true) H'
section
variable {P : Program} {w : World} {K : PySem.W.Frag} {mg : Str → Option Value} {base : Heap} {aE aM aD : Addr}
theorem cal_swap_lists {f : Addr} {fd : FuncData} (T : Txt mg) (FD : C8.Def K mg "swap_lists" s_swap_lists f fd) (b : Binds K fd ["first", "second"] [])
    (c_swap : CalX P w K mg base 3 "swap" (sp_swap aE)) : CalX P w K mg base 4 "swap_lists" (sp_swap_lists aE) := by
  refine calX FD b sc_swap_lists (fun vs H Q E h => ?_) (fun cdv A outer s H vs Q E hr h => ?_)
  · obtain ⟨p, q, us, ws, xs, ys, sz, rfl, _⟩ := h; rfl
  · obtain ⟨p, q, us, ws, xs, ys, sz, rfl, hp, hq, hx, hy, ok, k1, k2⟩ := h
    refine ⟨_, (pss_cons (ps_set (i := 2) sc_swap_lists.nd rfl (.inl rfl) (pe_callTy (call_listK K) (by rfl) T.n_list (by decide +kernel) (pa_cons (pv 0) pa_nil)))
  (pss_cons (ps_set (i := 3) sc_swap_lists.nd rfl (.inl rfl) (pe_lst pa_nil))
  (pss_cons (ps_for (passes_of rfl) rfl (pi_listK K (pv 1)) (pg_name (i := 4) sc_swap_lists.nd rfl (.inl rfl)) (pss_cons (ps_set (i := 5) sc_swap_lists.nd rfl (.inl rfl) (pv 4))
  (pss_cons (ps_for (passes_of rfl) rfl (pi_range3 rfl T.n_range (pa_cons (pe_op op_subU (pe_callB (call_lenK K) (by rfl) T.n_len PySem.boot_len (pa_cons (pv 2) pa_nil)) pe_int) (pa_cons (pe_un un_neg pe_int) (pa_cons (pe_un un_neg pe_int) pa_nil)))) (pg_name (i := 6) sc_swap_lists.nd rfl (.inl rfl)) (pss_one (ps_asg (pe_cx c_swap (takes_of rfl rfl rfl rfl) hr (by decide) (by rfl) (pa_cons (pe_ix (ix_K K) (pv 2) (pv 6) (fun _ _ => rfl)) (pa_cons (pv 5) pa_nil))) (pg_tup rfl (pgs_cons (pg_name (i := 5) sc_swap_lists.nd rfl (.inl rfl)) (pgs_cons (pg_sub (pv 2) (pv 6) set_list) pgs_nil))))))
  (PSs.nox (pss_one (ps_expr (pe_bm F.plainAttrs_list F.slot_list_append F.type_list_append mt_append (pv 3) (pa_cons (pv 5) pa_nil))))))))
  (PSs.nox (pss_one (ps_ret (pe_tup (pa_cons (pv 3) (pa_cons (pv 2) pa_nil))))))))), ?_⟩
    show (_ : TS) _ [some (.ref p), some (.ref q), none, none, none, none, none] H
    have lx := Paired.len hx
    have ly := Paired.len hy
    have lo1 := ok.l1
    have lo2 := ok.l2
    walk_at "rd"
    refine newO_gen fun pb H1 f1 s1 h1 => ?_
    walk_at "rd"
    refine newO_gen fun pa H2 f2 s2 h2 => ?_
    have f2' : Frs H pa := s1.free f2
    have hab : pa ≠ pb := (f2.ne h1).symm
    walk_at "rd"
    refine loopL_by (xs := ws) (fun i σ' H' => ∃ (ua ub : List V) (as bs : List Ed) (o4 o5 o6 : Option V), σ' = [some (.ref p), some (.ref q), some (.ref pb), some (.ref pa), o4, o5, o6] ∧ Same H H' ∧ H' pa = some (.lst ua) ∧ H' pb = some (.lst ub) ∧ Edits H' ua as ∧ Edits H' ub bs ∧
      swl xs ys = (swl bs (ys.drop i)).ahead as ∧ fits sz (as ++ (bs ++ ys.drop i)) ∧ bs.map Ed.n = xs.map Ed.n ∧ as.map Ed.n = (ys.take i).map Ed.n) ?_ ?_ ?_ ?_
    · refine ⟨[], us, [], xs, none, none, none, rfl, Same.trans s1 s2, h2, s2 _ _ h1, .nil, hx.ts (TpS.same (Same.trans s1 s2)), ?_, ?_, rfl, ?_⟩
      · rw [List.drop_zero, Xr.ahead_nil]
      · rw [List.drop_zero]; exact ok.fit
      · rw [List.take_zero]
    · rintro i σ' H' _ ⟨_, _, _, _, _, _, _, _, s, _⟩
      exact s _ _ hq
    · rintro i v σ' H3 hv ⟨ua, ub, as, bs, o4, o5, o6, rfl, s3, ha, hb, ea, eb, hsw, hfit, nb, na⟩
      obtain ⟨y, hyi, hyv⟩ := Paired.at hy hv
      have hil : i < ws.length := (List.getElem?_eq_some_iff.mp hv).1
      have hyv3 := hyv.ts (TpS.same s3)
      have lb := Paired.len eb
      have la := Paired.len ea
      have lbx : bs.length = xs.length := by have := congrArg List.length nb; simpa using this
      have lai : as.length ≤ 60 := by have := congrArg List.length na; rw [List.length_map, List.length_map, List.length_take] at this; omega
      have NA : ∀ x ∈ as, Nm x := nms na fun y hy => ok.n2 y (List.mem_of_mem_take hy)
      have NB : ∀ x ∈ bs, Nm x := nms nb ok.n1
      have NY : Nm y := ok.n2 y (List.mem_of_getElem? hyi)
      rw [drop_cons hyi] at hsw hfit
      walk_at "rd"
      refine loopC_by (fun j σ' H' => ∃ (mv : V) (m : Ed) (ub : List V) (ws' : List Ed) (o6 : Option V), σ' = [some (.ref p), some (.ref q), some (.ref pb), some (.ref pa), some v, some mv, o6] ∧ Same H H' ∧ H' pa = some (.lst ua) ∧ H' pb = some (.lst ub) ∧ Edits H' ua as ∧ Edits H' ub (bs.take (bs.length - j) ++ ws') ∧
        EdAt H' mv m ∧ swr (bs.drop (bs.length - j)) y = .ok (m, ws')) ?_ ?_ ?_
      · refine ⟨v, y, ub, [], _, rfl, s3, ha, hb, ea, ?_, hyv3, ?_⟩
        · rw [Nat.sub_zero, List.take_length, List.append_nil]; exact eb
        · rw [Nat.sub_zero, List.drop_length]; rfl
      · rintro j σ' H4 hj ⟨mv, m, ub4, ws', o6, rfl, s4, ha4, hb4, ea4, eb4, hmv, hsr⟩
        have hjb : j < bs.length := by omega
        obtain ⟨k0, hk, hk1⟩ : ∃ k0, bs.length - j = k0 + 1 ∧ bs.length - (j + 1) = k0 := ⟨bs.length - j - 1, by omega, by omega⟩
        rw [hk] at eb4 hsr
        obtain ⟨x, hxk⟩ : ∃ x, bs[k0]? = some x := ⟨_, List.getElem?_eq_getElem (by omega)⟩
        obtain ⟨mm, mn, wn, mb⟩ := mod_at ok.pos ok.few hfit lai (by omega) NA NB NY hsr
        have mx := mb x (List.mem_of_getElem? hxk)
        have lb4 := Paired.len eb4
        have lw : ws'.length = j := by have := congrArg List.length wn; rw [List.length_map, List.length_map, List.length_drop] at this; omega
        rw [List.length_append, List.length_take, Nat.min_eq_left (by omega), lw] at lb4
        have hx4 : (bs.take (k0 + 1) ++ ws')[k0]? = some x := by
          rw [List.getElem?_append_left (by rw [List.length_take]; omega), List.getElem?_take_of_lt (by omega)]
          exact hxk
        obtain ⟨xv, hxv, hxe⟩ := Paired.at' eb4 hx4
        have hat : atI ub4 ((ub.length : Int) - 1 + (j : Int) * -1) = some xv := at_of (j := k0) (by omega) hxv
        have hix : ixN ub4.length ((ub.length : Int) - 1 + (j : Int) * -1) = some (k0) := ixN_pos (by omega) (by omega)
        walk_at "rd"
        refine use_swap hxe hmv mx mm (fun y' x' he z u' v' H5 s5 h5 e1 e2 => ?_) fun he => ?_
        · have hb5 := s5 _ _ hb4
          have ha5 := s5 _ _ ha4
          walk_at "rd"
          refine putO_gen hb5 fun H6 s6 h6 => ?_
          have t46 : TpS H4 H6 := (TpS.same s5).trans (TpS.sl s6)
          walk_at "rd"
          refine ⟨_, y', _, x' :: ws', _, rfl, Same.put (Same.trans s4 s5) f1 s6, s6.keep pa _ hab ha5, h6, ea4.ts t46, ?_, e1.ts (TpS.sl s6), ?_⟩
          · have := Paired.set (k0) (eb4.ts t46) (e2.ts (TpS.sl s6))
            rw [take_set hxk] at this
            rw [hk1]
            exact this
          · rw [hk1, drop_cons hxk]
            exact swr_cons hsr he
        · refine k2 x m ?_ xv mv H4 s4 hxe hmv
          have h9 : swr (bs.drop (k0)) y = .bad x m := by
            rw [drop_cons hxk]
            exact swr_stop hsr he
          have h10 : swr bs y = .bad x m := by
            have := swr_bad (xs := bs.take (k0)) h9
            rw [List.take_append_drop] at this
            exact this
          rw [hsw, swl_stop h10]
          rfl
      · rintro σ' H4 ⟨mv, m, ub4, ws', o6, rfl, s4, ha4, hb4, ea4, eb4, hmv, hsr⟩
        have e0 : bs.length - ((ub.length : Int) - 1 - -1).toNat = 0 := by omega
        rw [e0, List.drop_zero] at hsr
        rw [e0, List.take_zero, List.nil_append] at eb4
        walk_at "rd"
        refine putO_gen ha4 fun H5 s5 h5 => ?_
        have hb5 := s5.keep pb _ hab.symm hb4
        have t45 : TpS H4 H5 := TpS.sl s5
        obtain ⟨mm, mn, wn, _⟩ := mod_at (k := 0) ok.pos ok.few hfit lai (by omega) NA NB NY hsr
        refine ⟨_, ub4, as ++ [m], ws', _, _, _, rfl, Same.put s4 f2' s5, h5, hb5, Paired.snoc (ea4.ts t45) (hmv.ts t45), eb4.ts t45, ?_, ?_, ?_, ?_⟩
        · rw [hsw, swl_ok hsr, Xr.ahead_ahead]
        · have e3 : bs ++ y :: ys.drop (i + 1) = (bs ++ [y]) ++ ys.drop (i + 1) := by simp
          rw [e3, fits_app, fits_app] at hfit
          obtain ⟨g1, g2, g3⟩ := hfit
          obtain ⟨w1, w2, _, _⟩ := swr_fits (sza_nonneg ok.pos g1) g2 hsr
          have e4 : as ++ [m] ++ (ws' ++ ys.drop (i + 1)) = as ++ ((m :: ws') ++ ys.drop (i + 1)) := by simp
          rw [e4, fits_app, fits_app]
          exact ⟨g1, w1, by rw [w2]; exact g3⟩
        · rw [List.drop_zero] at wn
          rw [wn, nb]
        · rw [take_snoc hyi, List.map_append, List.map_append, na, List.map_cons, List.map_cons, mn]
    · rintro σ' H3 ⟨ua, ub, as, bs, o4, o5, o6, rfl, s3, ha, hb, ea, eb, hsw, hfit, nb, na⟩
      rw [ly, List.drop_length] at hsw
      have e : swl xs ys = .ok (as, bs) := by rw [hsw]; show Xr.ok (as ++ [], bs) = _; rw [List.append_nil]
      walk_at "rd"
      refine newO_gen fun z H4 f4 s4 h4 => ?_
      walk_at "rd"
      exact k1 as bs e z pa pb ua ub H4 (Same.trans s3 s4) f2' f1 hab h4 (s4 _ _ ha) (s4 _ _ hb) (ea.ts (TpS.same s4)) (eb.ts (TpS.same s4))
theorem cal_law_exchanged {f : Addr} {fd : FuncData} (T : Txt mg) (FD : C8.Def K mg "_law_exchanged" s_law_exchanged f fd) (b : Binds K fd ["first", "second"] []) : C8.Cal P w K mg base 1 "_law_exchanged" sp_law_exchanged [] := by
  refine C8.cal0 FD b .nil sc_law_exchanged (fun vs H Q E h => ?_) (fun cdv A outer s H vs Q E hr h => ?_)
  · obtain ⟨u, v, x, y, rfl, _⟩ := h; rfl
  · obtain ⟨u, v, x, y, rfl, hx, hy, mx, my, k1, k2⟩ := h
    refine ⟨_, (pss_cons (ps_if (pt_cmpR op_leU (pe_ix (ix_K K) (pv 1) pe_int (fun _ _ => rfl)) (pe_ix (ix_K K) (pv 0) pe_int (fun _ _ => rfl)) (nomark _)) (pss_cons (ps_set (i := 2) sc_law_exchanged.nd rfl (.inl rfl) (pe_op op_subU (pe_callB (call_lenK K) (by rfl) T.n_len PySem.boot_len (pa_cons (pe_ix (ix_K K) (pv 1) pe_int (fun _ _ => rfl)) pa_nil)) (pe_op op_subU (pe_ix (ix_K K) (pv 1) pe_int (fun _ _ => rfl)) (pe_ix (ix_K K) (pv 1) pe_int (fun _ _ => rfl)))))
  (pss_one (ps_ret (pe_tup (pa_cons (pv 1) (pa_cons (pe_tup (pa_cons (pe_op (op_addK K) (pe_ix (ix_K K) (pv 0) pe_int (fun _ _ => rfl)) (pv 2)) (pa_cons (pe_op (op_addK K) (pe_ix (ix_K K) (pv 0) pe_int (fun _ _ => rfl)) (pv 2)) (pa_cons (pe_ix (ix_K K) (pv 0) pe_int (fun _ _ => rfl)) pa_nil)))) pa_nil)))))) pss_nil)
  (pss_cons (ps_if (pt_cmpR op_geU (pe_ix (ix_K K) (pv 1) pe_int (fun _ _ => rfl)) (pe_op (op_addK K) (pe_ix (ix_K K) (pv 0) pe_int (fun _ _ => rfl)) (pe_callB (call_lenK K) (by rfl) T.n_len PySem.boot_len (pa_cons (pe_ix (ix_K K) (pv 0) pe_int (fun _ _ => rfl)) pa_nil))) (nomark _)) (pss_cons (ps_set (i := 2) sc_law_exchanged.nd rfl (.inl rfl) (pe_op op_subU (pe_op op_subU (pe_ix (ix_K K) (pv 0) pe_int (fun _ _ => rfl)) (pe_ix (ix_K K) (pv 0) pe_int (fun _ _ => rfl))) (pe_callB (call_lenK K) (by rfl) T.n_len PySem.boot_len (pa_cons (pe_ix (ix_K K) (pv 0) pe_int (fun _ _ => rfl)) pa_nil))))
  (pss_one (ps_ret (pe_tup (pa_cons (pe_tup (pa_cons (pe_op (op_addK K) (pe_ix (ix_K K) (pv 1) pe_int (fun _ _ => rfl)) (pv 2)) (pa_cons (pe_op (op_addK K) (pe_ix (ix_K K) (pv 1) pe_int (fun _ _ => rfl)) (pv 2)) (pa_cons (pe_ix (ix_K K) (pv 1) pe_int (fun _ _ => rfl)) pa_nil)))) (pa_cons (pv 0) pa_nil)))))) pss_nil)
  (pss_one (ps_ret (pe_tup pa_nil))))), ?_⟩
    obtain ⟨p, rfl, hp⟩ := id hx
    obtain ⟨q, rfl, hq⟩ := id hy
    show (_ : TS) _ [some (.ref p), some (.ref q), none] H
    have lx := mx.2.2
    have ly := my.2.2
    walk_at "rd"
    refine ifD (fun c1 => ?_) (fun c1 => ?_)
    · walk_at "rd"
      refine newO_gen fun p1 H1 f1 s1 h1 => ?_
      walk_at "rd"
      refine newO_gen fun z H2 f2 s2 h2 => ?_
      walk_at "rd"
      exact k1 y _ (by unfold exch; rw [if_pos c1]) z (.ref q) (.ref p1) H2 (Same.trans s1 s2) h2 ⟨q, rfl, s2 _ _ (s1 _ _ hq)⟩ ⟨p1, rfl, s2 _ _ h1⟩
    walk_at "rd"
    refine ifD (fun c2 => ?_) (fun c2 => ?_)
    · walk_at "rd"
      refine newO_gen fun p1 H1 f1 s1 h1 => ?_
      walk_at "rd"
      refine newO_gen fun z H2 f2 s2 h2 => ?_
      walk_at "rd"
      exact k1 _ x (by unfold exch; rw [if_neg c1, if_pos c2]) z (.ref p1) (.ref p) H2 (Same.trans s1 s2) h2 ⟨p1, rfl, s2 _ _ h1⟩ ⟨p, rfl, s2 _ _ (s1 _ _ hp)⟩
    walk_at "rd"
    refine newO_gen fun z H2 f2 s2 h2 => ?_
    walk_at "rd"
    exact k2 (by unfold exch; rw [if_neg c1, if_neg c2]) z H2 s2 h2
theorem cal_law_due {f : Addr} {fd : FuncData} (T : Txt mg) (FD : C8.Def K mg "_law_due" s_law_due f fd) (b : Binds K fd ["first", "second"] [])
    (c_law_exchanged : C8.Cal P w K mg base 1 "_law_exchanged" sp_law_exchanged []) : C8.Cal P w K mg base 2 "_law_due" sp_law_due [] := by
  refine C8.cal0 FD b .nil sc_law_due (fun vs H Q E h => ?_) (fun cdv A outer s H vs Q E hr h => ?_)
  · obtain ⟨p, q, us, ws, xs, ys, sz, rfl, _⟩ := h; rfl
  · obtain ⟨p, q, us, ws, xs, ys, sz, rfl, hp, hq, hx, hy, ok, k⟩ := h
    refine ⟨_, (pss_cons (ps_set (i := 2) sc_law_due.nd rfl (.inl rfl) (pe_callTy (call_listK K) (by rfl) T.n_list (by decide +kernel) (pa_cons (pv 0) pa_nil)))
  (pss_cons (ps_set (i := 3) sc_law_due.nd rfl (.inl rfl) (pe_lst pa_nil))
  (pss_cons (ps_for PassesOwn.never rfl (pi_listK K (pv 1)) (pg_name (i := 4) sc_law_due.nd rfl (.inl rfl)) (pss_cons (ps_set (i := 5) sc_law_due.nd rfl (.inl rfl) (pv 4))
  (pss_cons (ps_for PassesOwn.never rfl (pi_range1 rfl T.n_range (pa_cons (pe_callB (call_lenK K) (by rfl) T.n_len PySem.boot_len (pa_cons (pv 2) pa_nil)) pa_nil)) (pg_name (i := 6) sc_law_due.nd rfl (.inl rfl)) (pss_cons (ps_set (i := 7) sc_law_due.nd rfl (.inl rfl) (pe_op op_subU (pe_op op_subU (pe_callB (call_lenK K) (by rfl) T.n_len PySem.boot_len (pa_cons (pv 2) pa_nil)) pe_int) (pv 6)))
  (pss_cons (ps_set (i := 8) sc_law_due.nd rfl (.inl rfl) (C8.pe_c c_law_exchanged hr (by decide) (by rfl) (pa_cons (pe_ix (ix_K K) (pv 2) (pv 7) (fun _ _ => rfl)) (pa_cons (pv 5) pa_nil))))
  (pss_cons (ps_if (pt_not (pt_truK K (pv 8) (by intro _; rfl))) (pss_one (ps_ret (pe_tup (pa_cons (pe_lst pa_nil) (pa_cons (pe_tup (pa_cons (pe_ix (ix_K K) (pv 2) (pv 7) (fun _ _ => rfl)) (pa_cons (pv 5) pa_nil))) pa_nil))))) pss_nil)
  (pss_cons (ps_set (i := 5) sc_law_due.nd rfl (.inl rfl) (pe_ix (ix_K K) (pv 8) pe_int (fun _ _ => rfl)))
  (pss_one (ps_asg (pe_ix (ix_K K) (pv 8) pe_int (fun _ _ => rfl)) (pg_sub (pv 2) (pv 7) set_list))))))))
  (pss_one (ps_expr (pe_bm F.plainAttrs_list F.slot_list_append F.type_list_append mt_append (pv 3) (pa_cons (pv 5) pa_nil)))))))
  (pss_one (ps_ret (pe_tup (pa_cons (pe_lst (pa_cons (pv 3) (pa_cons (pv 2) pa_nil))) (pa_cons (pe_tup pa_nil) pa_nil)))))))), ?_⟩
    show (_ : TS) _ [some (.ref p), some (.ref q), none, none, none, none, none, none, none] H
    have lx := Paired.len hx
    have ly := Paired.len hy
    have lo1 := ok.l1
    have lo2 := ok.l2
    walk_at "rd"
    refine newO_gen fun pb H1 f1 s1 h1 => ?_
    walk_at "rd"
    refine newO_gen fun pa H2 f2 s2 h2 => ?_
    have f2' : Frs H pa := s1.free f2
    have hab : pa ≠ pb := (f2.ne h1).symm
    walk_at "rd"
    refine loopL_by (xs := ws) (fun i σ' H' => ∃ (ua ub : List V) (as bs : List Ed) (o4 o5 o6 o7 o8 : Option V), σ' = [some (.ref p), some (.ref q), some (.ref pb), some (.ref pa), o4, o5, o6, o7, o8] ∧ Same H H' ∧ H' pa = some (.lst ua) ∧ H' pb = some (.lst ub) ∧ Edits H' ua as ∧ Edits H' ub bs ∧
      swl xs ys = (swl bs (ys.drop i)).ahead as ∧ fits sz (as ++ (bs ++ ys.drop i)) ∧ bs.map Ed.n = xs.map Ed.n ∧ as.map Ed.n = (ys.take i).map Ed.n) ?_ ?_ ?_ ?_
    · refine ⟨[], us, [], xs, none, none, none, none, none, rfl, Same.trans s1 s2, h2, s2 _ _ h1, .nil, hx.ts (TpS.same (Same.trans s1 s2)), ?_, ?_, rfl, ?_⟩
      · rw [List.drop_zero, Xr.ahead_nil]
      · rw [List.drop_zero]; exact ok.fit
      · rw [List.take_zero]
    · rintro i σ' H' _ ⟨_, _, _, _, _, _, _, _, _, _, s, _⟩
      exact s _ _ hq
    · rintro i v σ' H3 hv ⟨ua, ub, as, bs, o4, o5, o6, o7, o8, rfl, s3, ha, hb, ea, eb, hsw, hfit, nb, na⟩
      obtain ⟨y, hyi, hyv⟩ := Paired.at hy hv
      have hil : i < ws.length := (List.getElem?_eq_some_iff.mp hv).1
      have hyv3 := hyv.ts (TpS.same s3)
      have lb := Paired.len eb
      have la := Paired.len ea
      have lbx : bs.length = xs.length := by have := congrArg List.length nb; simpa using this
      have lai : as.length ≤ 60 := by have := congrArg List.length na; rw [List.length_map, List.length_map, List.length_take] at this; omega
      have NA : ∀ x ∈ as, Nm x := nms na fun y hy => ok.n2 y (List.mem_of_mem_take hy)
      have NB : ∀ x ∈ bs, Nm x := nms nb ok.n1
      have NY : Nm y := ok.n2 y (List.mem_of_getElem? hyi)
      rw [drop_cons hyi] at hsw hfit
      walk_at "rd"
      refine loopR_by (fun j σ' H' => ∃ (mv : V) (m : Ed) (ub : List V) (ws' : List Ed) (o6 o7 o8 : Option V), σ' = [some (.ref p), some (.ref q), some (.ref pb), some (.ref pa), some v, some mv, o6, o7, o8] ∧ Same H H' ∧ H' pa = some (.lst ua) ∧ H' pb = some (.lst ub) ∧ Edits H' ua as ∧ Edits H' ub (bs.take (bs.length - j) ++ ws') ∧
        EdAt H' mv m ∧ swr (bs.drop (bs.length - j)) y = .ok (m, ws')) ?_ ?_ ?_
      · refine ⟨v, y, ub, [], _, _, _, rfl, s3, ha, hb, ea, ?_, hyv3, ?_⟩
        · rw [Nat.sub_zero, List.take_length, List.append_nil]; exact eb
        · rw [Nat.sub_zero, List.drop_length]; rfl
      · rintro j σ' H4 hj ⟨mv, m, ub4, ws', o6, o7, o8, rfl, s4, ha4, hb4, ea4, eb4, hmv, hsr⟩
        have hjb : j < bs.length := by omega
        obtain ⟨k0, hk, hk1⟩ : ∃ k0, bs.length - j = k0 + 1 ∧ bs.length - (j + 1) = k0 := ⟨bs.length - j - 1, by omega, by omega⟩
        rw [hk] at eb4 hsr
        obtain ⟨x, hxk⟩ : ∃ x, bs[k0]? = some x := ⟨_, List.getElem?_eq_getElem (by omega)⟩
        obtain ⟨mm, mn, wn, mb⟩ := mod_at ok.pos ok.few hfit lai (by omega) NA NB NY hsr
        have mx := mb x (List.mem_of_getElem? hxk)
        have lb4 := Paired.len eb4
        have lw : ws'.length = j := by have := congrArg List.length wn; rw [List.length_map, List.length_map, List.length_drop] at this; omega
        rw [List.length_append, List.length_take, Nat.min_eq_left (by omega), lw] at lb4
        have hx4 : (bs.take (k0 + 1) ++ ws')[k0]? = some x := by
          rw [List.getElem?_append_left (by rw [List.length_take]; omega), List.getElem?_take_of_lt (by omega)]
          exact hxk
        obtain ⟨xv, hxv, hxe⟩ := Paired.at' eb4 hx4
        have hat : atI ub4 ((ub4.length : Int) - 1 - (0 + (j : Int))) = some xv := at_of (j := k0) (by omega) hxv
        have hix : ixN ub4.length ((ub4.length : Int) - 1 - (0 + (j : Int))) = some (k0) := ixN_pos (by omega) (by omega)
        walk_at "rd"
        refine use_exchanged hxe hmv mx mm (fun y' x' he z u' v' H5 s5 h5 e1 e2 => ?_) fun he z H5 s5 h5 => ?_
        · have hb5 := s5 _ _ hb4
          have ha5 := s5 _ _ ha4
          walk_at "rd"
          refine ifB (fun c => by simp at c) (fun _ => ?_)
          walk_at "rd"
          refine putO_gen hb5 fun H6 s6 h6 => ?_
          have t46 : TpS H4 H6 := (TpS.same s5).trans (TpS.sl s6)
          walk_at "rd"
          refine ⟨_, y', _, x' :: ws', _, _, _, rfl, Same.put (Same.trans s4 s5) f1 s6, s6.keep pa _ hab ha5, h6, ea4.ts t46, ?_, e1.ts (TpS.sl s6), ?_⟩
          · have := Paired.set (k0) (eb4.ts t46) (e2.ts (TpS.sl s6))
            rw [take_set hxk] at this
            rw [hk1]
            exact this
          · rw [hk1, drop_cons hxk]
            exact swr_cons hsr he
        · have hb5 := s5 _ _ hb4
          have h9 : swr (bs.drop k0) y = .bad x m := by
            rw [drop_cons hxk]
            exact swr_stop hsr he
          have h10 : swr bs y = .bad x m := by
            have := swr_bad (xs := bs.take k0) h9
            rw [List.take_append_drop] at this
            exact this
          walk_at "rd"
          refine ifB (fun _ => ?_) (fun c => by simp at c)
          walk_at "rd"
          refine newO_gen fun p6 H6 f6 s6 h6 => ?_
          have hb6 := s6 _ _ hb5
          walk_at "rd"
          refine newO_gen fun p7 H7 f7 s7 h7 => ?_
          walk_at "rd"
          refine newO_gen fun p8 H8 f8 s8 h8 => ?_
          walk_at "rd"
          have s48 := Same.trans s5 (Same.trans s6 (Same.trans s7 s8))
          refine k.2 x m ?_ p8 p6 p7 xv mv H8 (Same.trans s4 s48) h8 (s8 _ _ h7) (hxe.ts (TpS.same s48)) (hmv.ts (TpS.same s48))
          rw [hsw, swl_stop h10]
          rfl
      · rintro σ' H4 ⟨mv, m, ub4, ws', o6, o7, o8, rfl, s4, ha4, hb4, ea4, eb4, hmv, hsr⟩
        have e0 : bs.length - ((ub.length : Int)).toNat = 0 := by omega
        rw [e0, List.drop_zero] at hsr
        rw [e0, List.take_zero, List.nil_append] at eb4
        walk_at "rd"
        refine putO_gen ha4 fun H5 s5 h5 => ?_
        have hb5 := s5.keep pb _ hab.symm hb4
        have t45 : TpS H4 H5 := TpS.sl s5
        obtain ⟨mm, mn, wn, _⟩ := mod_at (k := 0) ok.pos ok.few hfit lai (by omega) NA NB NY hsr
        refine ⟨_, ub4, as ++ [m], ws', _, _, _, _, _, rfl, Same.put s4 f2' s5, h5, hb5, Paired.snoc (ea4.ts t45) (hmv.ts t45), eb4.ts t45, ?_, ?_, ?_, ?_⟩
        · rw [hsw, swl_ok hsr, Xr.ahead_ahead]
        · have e3 : bs ++ y :: ys.drop (i + 1) = (bs ++ [y]) ++ ys.drop (i + 1) := by simp
          rw [e3, fits_app, fits_app] at hfit
          obtain ⟨g1, g2, g3⟩ := hfit
          obtain ⟨w1, w2, _, _⟩ := swr_fits (sza_nonneg ok.pos g1) g2 hsr
          have e4 : as ++ [m] ++ (ws' ++ ys.drop (i + 1)) = as ++ ((m :: ws') ++ ys.drop (i + 1)) := by simp
          rw [e4, fits_app, fits_app]
          exact ⟨g1, w1, by rw [w2]; exact g3⟩
        · rw [List.drop_zero] at wn
          rw [wn, nb]
        · rw [take_snoc hyi, List.map_append, List.map_append, na, List.map_cons, List.map_cons, mn]
    · rintro σ' H3 ⟨ua, ub, as, bs, o4, o5, o6, o7, o8, rfl, s3, ha, hb, ea, eb, hsw, hfit, nb, na⟩
      rw [ly, List.drop_length] at hsw
      have e : swl xs ys = .ok (as, bs) := by rw [hsw]; show Xr.ok (as ++ [], bs) = _; rw [List.append_nil]
      walk_at "rd"
      refine newO_gen fun l4 H4 f4 s4 h4 => ?_
      walk_at "rd"
      refine newO_gen fun e5 H5 f5 s5 h5 => ?_
      walk_at "rd"
      refine newO_gen fun z H6 f6 s6 h6 => ?_
      have s36 := Same.trans s4 (Same.trans s5 s6)
      walk_at "rd"
      exact k.1 as bs e z l4 e5 pa pb ua ub H6 (Same.trans s3 s36) h6 (s6 _ _ h5) (s6 _ _ (s5 _ _ h4)) (s36 _ _ ha) (s36 _ _ hb) (ea.ts (TpS.same s36)) (eb.ts (TpS.same s36))
theorem cal_law_told {f : Addr} {fd : FuncData} (T : Txt mg) (FD : C8.Def K mg "_law_told" s_law_told f fd) (b : Binds K fd ["first", "second"] [])
    (c_swap_lists : CalX P w K mg base 4 "swap_lists" (sp_swap_lists aE))
    (k_Entangled : mg "Entangled" = some (.ref aE)) (k_MendedError : mg "MendedError" = some (.ref aM)) (k_EditError : mg "EditError" = some (.ref aD)) (x_Entangled : ExcK K aE) (f_Entangled : XfC K aE) (nof_first : PySem.W.findIn K (.ref aE) "first" = some none) (nof_second : PySem.W.findIn K (.ref aE) "second" = some none) (e_Entangled : PySem.W.exmOne K (.ref aE) (.ref aE) = some true) (e_Entangled_MendedError : PySem.W.kitOne K (.ref aE) (.ref aM) = some true) (e_Entangled_ValueError : PySem.W.kitOne K (.ref aE) (.type "ValueError") = some true) (e_Entangled_EditError : PySem.W.kitOne K (.ref aE) (.ref aD) = some false) : C8.Cal P w K mg base 5 "_law_told" sp_law_told [] := by
  refine C8.cal0 FD b .nil sc_law_told (fun vs H Q E h => ?_) (fun cdv A outer s H vs Q E hr h => ?_)
  · obtain ⟨p, q, us, ws, xs, ys, sz, rfl, _⟩ := h; rfl
  · obtain ⟨p, q, us, ws, xs, ys, sz, rfl, hp, hq, hx, hy, ok, k1, k2⟩ := h
    refine ⟨_, (pss_cons (ps_try_as (i := 3) rfl rfl sc_law_told.nd rfl rfl ⟨by rfl, by decide, .inl k_Entangled⟩ takes0 (fun W pn xe tk _ => (pss_one (ps_set (i := 2) sc_law_told.nd rfl (.inl rfl) (pe_ct c_swap_lists tk hr (by decide) (by rfl) (pa_cons (pv 0) (pa_cons (pv 1) pa_nil)))))) (fun a oe cls d pn hz hf => (pss_one (ps_ret (pe_tup (pa_cons (pe_xf f_Entangled nof_first hz hf (pv 3)) (pa_cons (pe_xf f_Entangled nof_second hz hf (pv 3)) (pa_cons (pe_and (pe_xi x_Entangled hz hf (by rfl) T.n_isinstance (pa_cons (pv 3) (pa_cons (pe_cls (by rfl) k_MendedError) pa_nil))) (pe_and (pe_xi x_Entangled hz hf (by rfl) T.n_isinstance (pa_cons (pv 3) (pa_cons (pe_bltn (v := .ty "ValueError") (by rfl) T.n_ValueError (by decide +kernel) rfl) pa_nil))) (pe_one (pe_not (pe_xi x_Entangled hz hf (by rfl) T.n_isinstance (pa_cons (pv 3) (pa_cons (pe_cls (by rfl) k_EditError) pa_nil))))))) pa_nil))))))))
  (pss_one (ps_ret (pe_tup (pa_cons (pv 2) pa_nil))))), ?_⟩
    show (_ : TS) _ [some (.ref p), some (.ref q), none, none] H
    walk_at "rd"
    refine use_swap_lists hp hq hx hy ok (fun as bs e z pa pb ua ub H1 s1 fa fb hab hz ha hb ea eb => ?_) fun x y e u v H1 s1 e1 e2 d H2 hd s2 hx2 => ?_
    · walk_at "rd"
      refine newO_gen fun z0 H2 f2 s2 h2 => ?_
      walk_at "rd"
      exact k1 as bs e z0 z pa pb ua ub H2 (Same.trans s1 s2) fa fb hab h2 (s2 _ _ hz) (s2 _ _ ha) (s2 _ _ hb) (ea.ts (TpS.same s2)) (eb.ts (TpS.same s2))
    refine ⟨true, e_Entangled, fun _ a ha => ?_, fun c => nomatch c⟩
    walk_at "rd"
    refine xf_end (v := u) hx2 (by rfl) ?_
    walk_at "rd"
    refine xf_end (v := v) hx2 (by rfl) ?_
    walk_at "rd"
    refine xi_own hx2 e_Entangled_MendedError ?_
    walk_at "rd"
    refine xi_ty hx2 e_Entangled_ValueError ?_
    walk_at "rd"
    refine xi_own hx2 e_Entangled_EditError ?_
    walk_at "rd"
    refine newO_gen fun z0 H3 f3 s3 h3 => ?_
    walk_at "rd"
    have s23 := Same.trans s2 s3
    exact k2 x y e z0 u v H3 (Same.trans s1 s23) h3 (e1.ts (TpS.same s23)) (e2.ts (TpS.same s23))
theorem cal_law_numbered {f : Addr} {fd : FuncData} (T : Txt mg) (FD : C8.Def K mg "_law_numbered" s_law_numbered f fd) (b : Binds K fd ["row", "edits", "base"] []) : C8.Cal P w K mg base 1 "_law_numbered" sp_law_numbered [] := by
  refine C8.cal0 FD b .nil sc_law_numbered (fun vs H Q E h => ?_) (fun cdv A outer s H vs Q E hr h => ?_)
  · obtain ⟨pl, q, us, es, l, base, rfl, _⟩ := h; rfl
  · obtain ⟨pl, q, us, es, l, base, rfl, hl, hq, hed, hf, hn, h1, h2, h3, k⟩ := h
    refine ⟨_, (pss_cons (ps_set (i := 3) sc_law_numbered.nd rfl (.inl rfl) (pv 0))
  (pss_cons (ps_for PassesOwn.never rfl (pi_range1 rfl T.n_range (pa_cons (pe_callB (call_lenK K) (by rfl) T.n_len PySem.boot_len (pa_cons (pv 1) pa_nil)) pa_nil)) (pg_name (i := 4) sc_law_numbered.nd rfl (.inr rfl)) (pss_cons (ps_setLc (i := 5) (own := [("j", 6)]) rfl sc_law_numbered.nd rfl rfl (sw_true rfl rfl rfl (by decide +kernel)) (pi_range1 rfl T.n_range (pa_cons (pe_callB (call_lenK K) (by rfl) T.n_len PySem.boot_len (pa_cons (pe_ix (ix_K K) (pe_ix (ix_K K) (pv 1) (pv 4) (fun _ _ => rfl)) pe_int (fun _ _ => rfl)) pa_nil)) pa_nil)) (blkOk_by (own := [("j", 6)]) (N := ["row", "edits", "base", "now", "k", "put", "j"]) (sc := C8.fnScope s_law_numbered) (by decide +kernel)) (fun _ _ _ _ _ => (pg_name (i := 6) sc_law_numbered.nd rfl (.inl rfl))) (fun _ _ _ _ _ => pts_nil) (fun _ _ _ _ _ => (pe_op (op_addK K) (pe_op (op_addK K) (pv 2) (pe_op op_mulU pe_int (pv 4))) (pv 6))))
  (pss_one (ps_set (i := 3) sc_law_numbered.nd rfl (.inl rfl) (pe_op (op_addK K) (pe_op (op_addK K) (pe_slice (sl_K K) (pv 3) po_none (po_some (pe_ix (ix_K K) (pe_ix (ix_K K) (pv 1) (pv 4) (fun _ _ => rfl)) pe_int (fun _ _ => rfl)))) (pv 5)) (pe_slice (sl_K K) (pv 3) (po_some (pe_ix (ix_K K) (pe_ix (ix_K K) (pv 1) (pv 4) (fun _ _ => rfl)) pe_int (fun _ _ => rfl))) po_none))))))
  (pss_one (ps_ret (pv 3))))), ?_⟩
    show (_ : TS) _ [some (.ref pl), some (.ref q), some (.int base), none, none, none, none] H
    have hul := Paired.len hed
    walk_at "rd"
    refine loopR_by (fun i σ' H' => ∃ (pn : Addr) (o4 o5 : Option V), σ' = [some (.ref pl), some (.ref q), some (.int base), some (.ref pn), o4, o5, none] ∧ Same H H' ∧ H' pn = some (.lst ((numd base l (es.take i)).map V.int))) ?_ ?_ ?_
    · exact ⟨pl, none, none, rfl, Same.refl _, by rw [List.take_zero]; exact hl⟩
    · rintro i σ' H3 hi ⟨pn, o4, o5, rfl, s3, hpn⟩
      have hil : i < us.length := by omega
      obtain ⟨x, hx, px, hv, hpx⟩ := Paired.at hed (List.getElem?_eq_getElem hil)
      have hat : atI us (0 + (i : Int)) = some (.ref px) := at_of (j := i) (by omega) (by rw [List.getElem?_eq_getElem hil, hv])
      have hq3 := s3 _ _ hq
      have hpx3 := s3 _ _ hpx
      have hxn := (hn x (List.mem_of_getElem? hx)).1
      have hfi := fits_take hf i
      have hle := len_numd (base := base) hfi
      have hsz := sza_le hfi fun y hy => (hn y (List.mem_of_mem_take hy)).1
      have hfi1 := fits_take hf (i + 1)
      rw [take_snoc hx] at hfi1
      have hfx := (fits_app.mp hfi1).2.1
      rw [← hle] at hfx
      have htl : (es.take i).length = i := by rw [List.length_take]; omega
      generalize hG : numd base l (es.take i) = m at hpn hle hfx
      have hcap : m.length ≤ 3000000 := by rw [htl] at hsz; omega
      walk_at "rd"
      refine compR_pure (fun acc _ => acc = (lab base i acc.length).map V.int) (fun _ _ => rfl) (fun acc H5 D5 ci pa => ?_) (fun acc H5 D5 e5 pa s5 h5 f5 => ?_)
      · walk_at "rd"
        refine pD_of ci (by omega) (Same.refl _) fun H6 _ => ?_
        rw [List.length_append]
        show _ = (lab base i (acc.length + 1)).map V.int
        rw [lab_snoc, List.map_append, ← pa]
        have : ((base : Int) + 1000 * (0 + (i : Int)) + (0 + (acc.length : Int))) = ((base + 1000 * i + acc.length : Nat) : Int) := by omega
        rw [this]
        rfl
      have e5' : acc.length = x.n.length := by rw [e5]; omega
      rw [e5'] at pa
      rw [pa] at h5
      have hpn5 := s5 _ _ hpn
      have hq5 := s5 _ _ hq3
      have hpx5 := s5 _ _ hpx3
      walk_at "rd"
      refine newO_gen fun p6 H6 f6 s6 h6 => ?_
      rw [cutV_cut, cut_to hfx.1, ← List.map_take] at h6
      have g1 : ((m.take x.s.toNat).map V.int).length ≤ 3000000 := by rw [List.length_map, List.length_take]; omega
      have g2 : ((lab base i x.n.length).map V.int).length = x.n.length := by rw [List.length_map, lab_len]
      have h56 := s6 _ _ h5
      walk_at "rd"
      refine newO_gen fun p7 H7 f7 s7 h7 => ?_
      have s57 := Same.trans s6 s7
      have hpn7 := s57 _ _ hpn5
      have hq7 := s57 _ _ hq5
      have hpx7 := s57 _ _ hpx5
      walk_at "rd"
      refine newO_gen fun p8 H8 f8 s8 h8 => ?_
      rw [cutV_cut, cut_from (show (0 : Int) ≤ x.e by have := hfx.1; have := hfx.2.1; omega), ← List.map_drop] at h8
      have g3 : ((m.drop x.e.toNat).map V.int).length ≤ 3000000 := by rw [List.length_map, List.length_drop]; omega
      have h78 := s8 _ _ h7
      walk_at "rd"
      refine add_lst h78 h8 (sz_le (by rw [List.length_append]; omega)) ?_
      refine newO_gen fun p9 H9 f9 s9 h9 => ?_
      walk_at "rd"
      refine ⟨p9, _, _, rfl, Same.trans s3 (Same.trans s5 (Same.trans s57 (Same.trans s8 s9))), ?_⟩
      rw [take_snoc hx, numd_snoc, hG, h9, htl]
      unfold apr apl
      rw [List.map_append, List.map_append]
    · rintro σ' H3 ⟨pn, o4, o5, rfl, s3, hpn⟩
      have e : ((us.length : Int)).toNat = es.length := by omega
      rw [e, List.take_length] at hpn
      walk_at "rd"
      exact k pn H3 s3 hpn
theorem cal_law_lists_ok {f : Addr} {fd : FuncData} (T : Txt mg) (FD : C8.Def K mg "_law_lists_ok" s_law_lists_ok f fd) (b : Binds K fd ["told", "due"] [])
    (c_law_same_edits : C8.Cal P w K mg base 3 "_law_same_edits" sp_law_same_edits []) : C8.Cal P w K mg base 4 "_law_lists_ok" sp_law_lists_ok [] := by
  refine C8.cal0 FD b .nil sc_law_lists_ok (fun vs H Q E h => ?_) (fun cdv A outer s H vs Q E hr h => ?_)
  · obtain ⟨z, l, pa, pb, qa, qb, ua, ub, va, vb, as, bs, rfl, _⟩ := h; rfl
  · obtain ⟨z, l, pa, pb, qa, qb, ua, ub, va, vb, as, bs, rfl, hz, hl, h1, h2, h3, h4, e1, e2, e3, e4, l1, l2, k1, k2, k⟩ := h
    refine ⟨_, (pss_cons (ps_if (PW.pt (pw_or (pt_not (pt_truK K (pe_callB (call_isiK' K) (by rfl) T.n_isinstance (by decide +kernel) (pa_cons (pv 0) (pa_cons (pe_bltn (v := .ty "tuple") (by rfl) T.n_tuple (by decide +kernel) rfl) pa_nil))) (by intro _; rfl))) (pw_or1 (pt_cmpR (op_neK K (hu64 hr)) (pe_callB (call_lenK K) (by rfl) T.n_len PySem.boot_len (pa_cons (pv 0) pa_nil)) pe_int (nomark _))))) (pss_one (ps_ret pe_bl)) pss_nil)
  (pss_one (ps_ret (pe_and (C8.pe_c c_law_same_edits hr (by decide) (by rfl) (pa_cons (pe_ix (ix_K K) (pv 0) pe_int (fun _ _ => rfl)) (pa_cons (pe_ix (ix_K K) (pv 1) pe_int (fun _ _ => rfl)) pa_nil))) (pe_one (C8.pe_c c_law_same_edits hr (by decide) (by rfl) (pa_cons (pe_ix (ix_K K) (pv 0) pe_int (fun _ _ => rfl)) (pa_cons (pe_ix (ix_K K) (pv 1) pe_int (fun _ _ => rfl)) pa_nil)))))))), ?_⟩
    show (_ : TS) _ [some (.ref z), some (.ref l)] H
    walk_at "rd"
    refine ifNDy rfl ?_
    walk_at "rd"
    refine use_same_edits h1 h3 e1 e3 l1 k1 k1 ?_
    rw [decide_eq_true rfl]
    walk_at "rd"
    refine use_same_edits h2 h4 e2 e4 l2 k2 k2 ?_
    rw [decide_eq_true rfl]
    exact k
theorem cal_law_same_row {f : Addr} {fd : FuncData} (T : Txt mg) (FD : C8.Def K mg "_law_same_row" s_law_same_row f fd) (b : Binds K fd ["size", "first", "second", "due"] [])
    (c_law_numbered : C8.Cal P w K mg base 1 "_law_numbered" sp_law_numbered []) : C8.Cal P w K mg base 2 "_law_same_row" sp_law_same_row [] := by
  refine C8.cal0 FD b .nil sc_law_same_row (fun vs H Q E h => ?_) (fun cdv A outer s H vs Q E hr h => ?_)
  · obtain ⟨n, p, q, l, qa, qb, us, ws, va, vb, xs, ys, as, bs, rfl, _⟩ := h; rfl
  · obtain ⟨n, p, q, l, qa, qb, us, ws, va, vb, xs, ys, as, bs, rfl, hp, hq, hl, h3, h4, e1, e2, e3, e4, ok, e, k⟩ := h
    refine ⟨_, (pss_cons (ps_setLc (i := 4) (own := [("k", 6)]) rfl sc_law_same_row.nd rfl rfl (sw_true rfl rfl rfl (by decide +kernel)) (pi_range1 rfl T.n_range (pa_cons (pe_op (op_addK K) (pv 0) pe_int) pa_nil)) (blkOk_by (own := [("k", 6)]) (N := ["size", "first", "second", "due", "row", "old_way", "k"]) (sc := C8.fnScope s_law_same_row) (by decide +kernel)) (fun _ _ _ _ _ => (pg_name (i := 6) sc_law_same_row.nd rfl (.inl rfl))) (fun _ _ _ _ _ => pts_nil) (fun _ _ _ _ _ => (pv 6)))
  (pss_cons (ps_set (i := 5) sc_law_same_row.nd rfl (.inl rfl) (C8.pe_c c_law_numbered hr (by decide) (by rfl) (pa_cons (C8.pe_c c_law_numbered hr (by decide) (by rfl) (pa_cons (pv 4) (pa_cons (pv 1) (pa_cons pe_int pa_nil)))) (pa_cons (pv 2) (pa_cons pe_int pa_nil)))))
  (pss_one (ps_ret (pe_cmpR (op_eqK K (hu64 hr)) (C8.pe_c c_law_numbered hr (by decide) (by rfl) (pa_cons (C8.pe_c c_law_numbered hr (by decide) (by rfl) (pa_cons (pv 4) (pa_cons (pe_ix (ix_K K) (pv 3) pe_int (fun _ _ => rfl)) (pa_cons pe_int pa_nil)))) (pa_cons (pe_ix (ix_K K) (pv 3) pe_int (fun _ _ => rfl)) (pa_cons pe_int pa_nil)))) (pv 5) (nomark _)))))), ?_⟩
    show (_ : TS) _ [some (.int n), some (.ref p), some (.ref q), some (.ref l), none, none, none] H
    have hfew := ok.few
    have hl1 := ok.l1
    have hl2 := ok.l2
    walk_at "rd"
    refine compR_pure (fun acc _ => acc = (rowI acc.length).map V.int) (fun _ _ => rfl) (fun acc H2 D c pa => ?_) (fun acc H2 D e0 pa s2 hD fD => ?_)
    · walk_at "rd"
      refine pD_of c (by omega) (Same.refl _) fun H5 _ => ?_
      rw [List.length_append]
      show _ = (rowI (acc.length + 1)).map V.int
      rw [rowI_snoc, List.map_append, ← pa, Int.zero_add]
      rfl
    have e00 : acc.length = n + 1 := by omega
    rw [e00] at pa
    rw [pa] at hD
    have hf : fits ((rowI (n + 1)).length : Int) (xs ++ ys) := by rw [rowI_len]; exact fits_more (by omega) ok.fit
    obtain ⟨hf1, hf2⟩ := fits_app.mp hf
    have h0 : (0 : Int) ≤ ((rowI (n + 1)).length : Int) := by omega
    obtain ⟨g1, g2, g3⟩ := swl_fits h0 hf e
    obtain ⟨hg1, hg2⟩ := fits_app.mp g1
    have na := nms g2 ok.n2
    have nb := nms g3 ok.n1
    have la : as.length = ys.length := by have := congrArg List.length g2; simpa using this
    have lb : bs.length = xs.length := by have := congrArg List.length g3; simpa using this
    have z1 := sza_le hf1 fun y hy => (ok.n1 y hy).1
    have z2 := sza_le hg1 fun y hy => (na y hy).1
    have r1 := rowI_len (n + 1)
    walk_at "rd"
    refine use_numbered (base := 100000) hD (s2 _ _ hp) (e1.ts (TpS.same s2)) hf1 ok.n1 (by omega) (by omega) (by omega) fun z3 H3 s3 h33 => ?_
    have hz3 := len_numd (base := 100000) hf1
    walk_at "rd"
    have s03 := Same.trans s2 s3
    refine use_numbered (base := 200000) h33 (s03 _ _ hq) (e2.ts (TpS.same s03)) (by rw [hz3]; exact hf2) ok.n2 (by omega) (by omega) (by omega) fun z4 H4 s4 h44 => ?_
    have s04 := Same.trans s03 s4
    have hl4 := s04 _ _ hl
    walk_at "rd"
    refine use_numbered (base := 200000) (s4 _ _ (s3 _ _ hD)) (s04 _ _ h3) (e3.ts (TpS.same s04)) hg1 na (by omega) (by omega) (by omega) fun z5 H5 s5 h55 => ?_
    have s05 := Same.trans s04 s5
    have hl5 := s05 _ _ hl
    have hz5 := len_numd (base := 200000) hg1
    walk_at "rd"
    refine use_numbered (base := 100000) h55 (s05 _ _ h4) (e4.ts (TpS.same s05)) (by rw [hz5]; exact hg2) nb (by omega) (by omega) (by omega) fun z6 H6 s6 h66 => ?_
    rw [swl_numd hf e] at h66
    have h46 := s6 _ _ (s5 _ _ h44)
    walk_at "rd"
    refine eq_ints h66 h46 ?_
    exact k H6 (Same.trans s05 s6)
theorem cal_law_asked {f : Addr} {fd : FuncData} (T : Txt mg) (FD : C8.Def K mg "_law_asked" s_law_asked f fd) (b : Binds K fd ["size", "first", "second"] [])
    (c_law_due : C8.Cal P w K mg base 2 "_law_due" sp_law_due [])
    (c_law_told : C8.Cal P w K mg base 5 "_law_told" sp_law_told [])
    (c_law_lists_ok : C8.Cal P w K mg base 4 "_law_lists_ok" sp_law_lists_ok [])
    (c_swap_lists : CalX P w K mg base 4 "swap_lists" (sp_swap_lists aE))
    (c_law_same_edit : C8.Cal P w K mg base 2 "_law_same_edit" sp_law_same_edit [])
    (c_law_same_row : C8.Cal P w K mg base 2 "_law_same_row" sp_law_same_row []) : C8.Cal P w K mg base 6 "_law_asked" sp_law_asked [] := by
  refine C8.cal0 FD b .nil sc_law_asked (fun vs H Q E h => ?_) (fun cdv A outer s H vs Q E hr h => ?_)
  · obtain ⟨n, p, q, us, ws, xs, ys, rfl, _⟩ := h; rfl
  · obtain ⟨n, p, q, us, ws, xs, ys, rfl, hp, hq, hx, hy, ok, k⟩ := h
    refine ⟨_, (pss_cons (ps_set (i := 3) sc_law_asked.nd rfl (.inl rfl) (C8.pe_c c_law_due hr (by decide) (by rfl) (pa_cons (pv 1) (pa_cons (pv 2) pa_nil))))
  (pss_cons (ps_set (i := 4) sc_law_asked.nd rfl (.inl rfl) (pe_lst (pa_cons (pe_callTy (call_listK K) (by rfl) T.n_list (by decide +kernel) (pa_cons (pv 1) pa_nil)) (pa_cons (pe_callTy (call_listK K) (by rfl) T.n_list (by decide +kernel) (pa_cons (pv 2) pa_nil)) pa_nil))))
  (pss_cons (ps_set (i := 5) sc_law_asked.nd rfl (.inl rfl) (C8.pe_c c_law_told hr (by decide) (by rfl) (pa_cons (pe_ix (ix_K K) (pv 4) pe_int (fun _ _ => rfl)) (pa_cons (pe_ix (ix_K K) (pv 4) pe_int (fun _ _ => rfl)) pa_nil))))
  (pss_cons (ps_if (PW.pt (pw_or (pt_cmpR (op_neK K (hu64 hr)) (pe_ix (ix_K K) (pv 4) pe_int (fun _ _ => rfl)) (pv 1) (nomark _)) (pw_or1 (pt_cmpR (op_neK K (hu64 hr)) (pe_ix (ix_K K) (pv 4) pe_int (fun _ _ => rfl)) (pv 2) (nomark _))))) (pss_one (ps_ret pe_bl)) pss_nil)
  (pss_cons (ps_if (pt_truK K (pe_ix (ix_K K) (pv 3) pe_int (fun _ _ => rfl)) (by intro _; rfl)) (pss_cons (ps_if (PW.pt (pw_or (pt_cmpR (op_neK K (hu64 hr)) (pe_callB (call_lenK K) (by rfl) T.n_len PySem.boot_len (pa_cons (pv 5) pa_nil)) pe_int (nomark _)) (pw_or1 (pt_cmpR op_isNotU (pe_ix (ix_K K) (pv 5) pe_int (fun _ _ => rfl)) pe_bl (nomark _))))) (pss_one (ps_ret pe_bl)) pss_nil)
  (pss_one (ps_ret (pe_and (C8.pe_c c_law_same_edit hr (by decide) (by rfl) (pa_cons (pe_ix (ix_K K) (pv 5) pe_int (fun _ _ => rfl)) (pa_cons (pe_ix (ix_K K) (pe_ix (ix_K K) (pv 3) pe_int (fun _ _ => rfl)) pe_int (fun _ _ => rfl)) pa_nil))) (pe_one (C8.pe_c c_law_same_edit hr (by decide) (by rfl) (pa_cons (pe_ix (ix_K K) (pv 5) pe_int (fun _ _ => rfl)) (pa_cons (pe_ix (ix_K K) (pe_ix (ix_K K) (pv 3) pe_int (fun _ _ => rfl)) pe_int (fun _ _ => rfl)) pa_nil)))))))) pss_nil)
  (pss_cons (ps_if (PW.pt (pw_or (pt_cmpR (op_neK K (hu64 hr)) (pe_callB (call_lenK K) (by rfl) T.n_len PySem.boot_len (pa_cons (pv 5) pa_nil)) pe_int (nomark _)) (pw_or (pt_not (pt_truK K (C8.pe_c c_law_lists_ok hr (by decide) (by rfl) (pa_cons (pe_ix (ix_K K) (pv 5) pe_int (fun _ _ => rfl)) (pa_cons (pe_ix (ix_K K) (pv 3) pe_int (fun _ _ => rfl)) pa_nil))) (by intro _; rfl))) (pw_or1 (pt_not (pt_truK K (C8.pe_c c_law_same_row hr (by decide) (by rfl) (pa_cons (pv 0) (pa_cons (pv 1) (pa_cons (pv 2) (pa_cons (pe_ix (ix_K K) (pv 3) pe_int (fun _ _ => rfl)) pa_nil))))) (by intro _; rfl))))))) (pss_one (ps_ret pe_bl)) pss_nil)
  (pss_cons (ps_set (i := 6) sc_law_asked.nd rfl (.inl rfl) (pe_ix (ix_K K) (pe_ix (ix_K K) (pv 5) pe_int (fun _ _ => rfl)) pe_int (fun _ _ => rfl)))
  (pss_cons (ps_expr (pe_bm F.plainAttrs_list F.slot_list_append F.type_list_append mt_append (pv 6) (pa_cons (pe_tup (pa_cons pe_int (pa_cons pe_int (pa_cons pe_str pa_nil)))) pa_nil)))
  (pss_cons (ps_set (i := 6) sc_law_asked.nd rfl (.inl rfl) (pe_ix (ix_K K) (pe_ix (ix_K K) (pv 5) pe_int (fun _ _ => rfl)) pe_int (fun _ _ => rfl)))
  (pss_cons (ps_expr (pe_bm F.plainAttrs_list F.slot_list_append F.type_list_append mt_append (pv 6) (pa_cons (pe_tup (pa_cons pe_int (pa_cons pe_int (pa_cons pe_str pa_nil)))) pa_nil)))
  (pss_cons (ps_if (PW.pt (pw_or (pt_cmpR (op_neK K (hu64 hr)) (pe_ix (ix_K K) (pv 4) pe_int (fun _ _ => rfl)) (pv 1) (nomark _)) (pw_or1 (pt_cmpR (op_neK K (hu64 hr)) (pe_ix (ix_K K) (pv 4) pe_int (fun _ _ => rfl)) (pv 2) (nomark _))))) (pss_one (ps_ret pe_bl)) pss_nil)
  (pss_one (ps_ret (C8.pe_c c_law_lists_ok hr (by decide) (by rfl) (pa_cons (pe_cn c_swap_lists hr (by decide) (by rfl) (pa_cons (pe_callTy (call_listK K) (by rfl) T.n_list (by decide +kernel) (pa_cons (pv 1) pa_nil)) (pa_cons (pe_callTy (call_listK K) (by rfl) T.n_list (by decide +kernel) (pa_cons (pv 2) pa_nil)) pa_nil))) (pa_cons (pe_ix (ix_K K) (pv 3) pe_int (fun _ _ => rfl)) pa_nil)))))))))))))))), ?_⟩
    show (_ : TS) _ [some (.int n), some (.ref p), some (.ref q), none, none, none, none] H
    have lx := Paired.len hx
    have ly := Paired.len hy
    have lo1 := ok.l1
    have lo2 := ok.l2
    have kx : ∀ x ∈ xs, Ok x.n := fun x h => (ok.n1 x h).2
    have ky : ∀ x ∈ ys, Ok x.n := fun x h => (ok.n2 x h).2
    walk_at "rd"
    cases e : swl xs ys with
    | bad x y =>
      refine use_due hp hq hx hy ok ⟨fun as bs e2 => (by rw [e] at e2; cases e2), fun x2 y2 e2 z l e0 u v H1 s1 hz he0 eu ev => ?_⟩
      rw [e] at e2
      cases e2
      have hp1 := s1 _ _ hp
      have hq1 := s1 _ _ hq
      walk_at "rd"
      refine newO_gen fun a2 H2 f2 s2 h2 => ?_
      have hq2 := s2 _ _ hq1
      walk_at "rd"
      refine newO_gen fun a3 H3 f3 s3 h3 => ?_
      walk_at "rd"
      refine newO_gen fun a4 H4 f4 s4 h4 => ?_
      have s24 := Same.trans s2 (Same.trans s3 s4)
      have s14 := Same.trans s1 s24
      have h24 := s4 _ _ (s3 _ _ h2)
      have h34 := s4 _ _ h3
      walk_at "rd"
      refine use_told h24 h34 (hx.ts (TpS.same s14)) (hy.ts (TpS.same s14)) ok (fun as bs e3 => by rw [e] at e3; cases e3) fun x3 y3 e3 z5 u5 v5 H5 s5 hz5 eu5 ev5 => ?_
      rw [e] at e3
      cases e3
      have s15 := Same.trans s14 s5
      have h25 := s5 _ _ h24
      have h35 := s5 _ _ h34
      have h45 := s5 _ _ h4
      have hp5 := s15 _ _ hp
      have hq5 := s15 _ _ hq
      have hz6 := s5 _ _ (s24 _ _ hz)
      have he6 := s5 _ _ (s24 _ _ he0)
      have s25 := Same.trans s24 s5
      walk_at "rd"
      refine ne_eds h25 hp5 (hx.ts (TpS.same s15)) (hx.ts (TpS.same s15)) kx (by omega) ?_
      walk_at "rd"
      refine ne_eds h35 hq5 (hy.ts (TpS.same s15)) (hy.ts (TpS.same s15)) ky (by omega) ?_
      walk_at "rd"
      refine ifB (fun _ => ?_) (fun c => by simp at c)
      walk_at "rd"
      refine ifND (fun c => absurd rfl c) (fun _ => ?_)
      walk_at "rd"
      refine ifND (fun c => absurd rfl c) (fun _ => ?_)
      walk_at "rd"
      have ok2 : Ok x.n ∧ Ok y.n := by
        obtain ⟨⟨a1, h1, e1⟩, a2, h2, e2⟩ := swl_bad_n e
        rw [e1, e2]
        exact ⟨kx a1 h1, ky a2 h2⟩
      refine use_same_edit eu5 (eu.ts (TpS.same s25)) ok2.1 ok2.1 ?_
      rw [decide_eq_true rfl]
      walk_at "rd"
      refine use_same_edit ev5 (ev.ts (TpS.same s25)) ok2.2 ok2.2 ?_
      rw [decide_eq_true rfl]
      exact k H5 s15
    | ok pr =>
      obtain ⟨as, bs⟩ := pr
      have hpos := ok.pos
      obtain ⟨_, g2, g3⟩ := swl_fits ok.pos ok.fit e
      have na := nms g2 ok.n2
      have nb := nms g3 ok.n1
      have la : as.length = ys.length := by have := congrArg List.length g2; simpa using this
      have lb : bs.length = xs.length := by have := congrArg List.length g3; simpa using this
      have ka : ∀ x ∈ as, Ok x.n := fun x h => (na x h).2
      have kb : ∀ x ∈ bs, Ok x.n := fun x h => (nb x h).2
      refine use_due hp hq hx hy ok ⟨fun as2 bs2 e2 z l e0 qa qb va vb H1 s1 hz he0 hl0 hqa hqb ea eb => ?_, fun x2 y2 e2 => (by rw [e] at e2; cases e2)⟩
      rw [e] at e2
      cases e2
      have hp1 := s1 _ _ hp
      have hq1 := s1 _ _ hq
      walk_at "rd"
      refine newO_gen fun a2 H2 f2 s2 h2 => ?_
      have hq2 := s2 _ _ hq1
      walk_at "rd"
      refine newO_gen fun a3 H3 f3 s3 h3 => ?_
      walk_at "rd"
      refine newO_gen fun a4 H4 f4 s4 h4 => ?_
      have s24 := Same.trans s2 (Same.trans s3 s4)
      have s14 := Same.trans s1 s24
      have h24 := s4 _ _ (s3 _ _ h2)
      have h34 := s4 _ _ h3
      walk_at "rd"
      refine use_told h24 h34 (hx.ts (TpS.same s14)) (hy.ts (TpS.same s14)) ok (fun as3 bs3 e3 z0 z5 pa pb ua ub H5 s5 fa fb hab hz0 hz5 hpa hpb ea5 eb5 => ?_) (fun x3 y3 e3 => by rw [e] at e3; cases e3)
      rw [e] at e3
      cases e3
      have s15 := Same.trans s14 s5
      have s25 := Same.trans s24 s5
      have h25 := s5 _ _ h24
      have h35 := s5 _ _ h34
      have h45 := s5 _ _ h4
      have hp5 := s15 _ _ hp
      have hq5 := s15 _ _ hq
      have hzz := s25 _ _ hz
      have hee := s25 _ _ he0
      have hll := s25 _ _ hl0
      walk_at "rd"
      refine ne_eds h25 hp5 (hx.ts (TpS.same s15)) (hx.ts (TpS.same s15)) kx (by omega) ?_
      walk_at "rd"
      refine ne_eds h35 hq5 (hy.ts (TpS.same s15)) (hy.ts (TpS.same s15)) ky (by omega) ?_
      walk_at "rd"
      refine ifB (fun c => by simp at c) (fun _ => ?_)
      walk_at "rd"
      refine ifND (fun c => absurd rfl c) (fun _ => ?_)
      walk_at "rd"
      refine use_lists_ok hz5 hll hpa hpb (s25 _ _ hqa) (s25 _ _ hqb) ea5 eb5 (ea.ts (TpS.same s25)) (eb.ts (TpS.same s25)) (by omega) (by omega) ka kb ?_
      walk_at "rd"
      refine use_same_row hp5 hq5 hll (s25 _ _ hqa) (s25 _ _ hqb) (hx.ts (TpS.same s15)) (hy.ts (TpS.same s15)) (ea.ts (TpS.same s25)) (eb.ts (TpS.same s25)) ok e fun H6 s6 => ?_
      have hz06 := s6 _ _ hz0
      have hz56 := s6 _ _ hz5
      have hpa6 := s6 _ _ hpa
      have hpb6 := s6 _ _ hpb
      have lua := Paired.len ea5
      have lub := Paired.len eb5
      walk_at "rd"
      refine newO_gen fun a7 H7 f7 s7 h7 => ?_
      have hpa7 := s7 _ _ hpa6
      have hpb7 := s7 _ _ hpb6
      have hz07 := s7 _ _ hz06
      have hz57 := s7 _ _ hz56
      walk_at "rd"
      refine putO_gen hpa7 fun H8 s8 h8 => ?_
      have hpb8 := s8.keep pb _ hab.symm hpb7
      have s48 : Same H4 H8 := Same.put (Same.trans s5 (Same.trans s6 s7)) fa s8
      walk_at "rd"
      refine newO_gen fun a9 H9 f9 s9 h9 => ?_
      have hpb9 := s9 _ _ hpb8
      walk_at "rd"
      refine putO_gen hpb9 fun HA sA hA => ?_
      have s4A : Same H4 HA := Same.put (Same.trans s48 s9) fb sA
      have sHA : Same H HA := Same.trans s14 s4A
      have s1A : Same H1 HA := Same.trans s24 s4A
      have h2A := s4A _ _ h24
      have h3A := s4A _ _ h34
      have h4A := s4A _ _ h4
      have hpA := sHA _ _ hp
      have hqA := sHA _ _ hq
      walk_at "rd"
      refine ne_eds h2A hpA (hx.ts (TpS.same sHA)) (hx.ts (TpS.same sHA)) kx (by omega) ?_
      walk_at "rd"
      refine ne_eds h3A hqA (hy.ts (TpS.same sHA)) (hy.ts (TpS.same sHA)) ky (by omega) ?_
      walk_at "rd"
      refine newO_gen fun aB HB fB sB hB => ?_
      have hqB := sB _ _ hqA
      walk_at "rd"
      refine newO_gen fun aC HC fC sC hC => ?_
      have sAC := Same.trans sB sC
      have hBC := sC _ _ hB
      walk_at "rd"
      have sHC := Same.trans sHA sAC
      have s1C := Same.trans s1A sAC
      refine use_swap_lists hBC hC (hx.ts (TpS.same sHC)) (hy.ts (TpS.same sHC)) ok (fun as4 bs4 e4 z9 pa9 pb9 ua9 ub9 HD sD _ _ _ hz9 hpa9 hpb9 ea9 eb9 => ?_) (fun x4 y4 e4 => by rw [e] at e4; cases e4)
      rw [e] at e4
      cases e4
      have s1D := Same.trans s1C sD
      have hzD := s1D _ _ hz
      have hlD := s1D _ _ hl0
      walk_at "rd"
      refine use_lists_ok hz9 hlD hpa9 hpb9 (s1D _ _ hqa) (s1D _ _ hqb) ea9 eb9 (ea.ts (TpS.same s1D)) (eb.ts (TpS.same s1D)) (by omega) (by omega) ka kb ?_
      exact k HD (Same.trans sHC sD)
theorem cal_law_moved {f : Addr} {fd : FuncData} (T : Txt mg) (FD : C8.Def K mg "_law_moved" s_law_moved f fd) (b : Binds K fd ["edits", "by"] []) : C8.Cal P w K mg base 1 "_law_moved" sp_law_moved [] := by
  refine C8.cal0 FD b .nil sc_law_moved (fun vs H Q E h => ?_) (fun cdv A outer s H vs Q E hr h => ?_)
  · obtain ⟨p, us, es, b, rfl, _⟩ := h; rfl
  · obtain ⟨p, us, es, bb, rfl, hp, hed, hl, k⟩ := h
    refine ⟨_, (pss_one (ps_ret (pe_lc (own := [("edit", 2)]) rfl sc_law_moved.nd (pi_listK K (pv 0)) (blkOk_by (own := [("edit", 2)]) (N := ["edits", "by", "edit"]) (sc := C8.fnScope s_law_moved) (by decide +kernel)) (fun _ _ _ _ _ => (pg_name (i := 2) sc_law_moved.nd rfl (.inl rfl))) (fun _ _ _ _ _ => pts_nil) (fun _ _ _ _ _ => (pe_tup (pa_cons (pe_op (op_addK K) (pe_ix (ix_K K) (pv 2) pe_int (fun _ _ => rfl)) (pv 1)) (pa_cons (pe_op (op_addK K) (pe_ix (ix_K K) (pv 2) pe_int (fun _ _ => rfl)) (pv 1)) (pa_cons (pe_ix (ix_K K) (pv 2) pe_int (fun _ _ => rfl)) pa_nil)))))))), ?_⟩
    show (_ : TS) _ [some (.ref p), some (.int bb), none] H
    have hul := Paired.len hed
    walk_at "rd"
    refine compL_pure hp (fun acc H2 => Edits H2 acc ((es.take acc.length).map (mvd bb))) (fun _ _ => .nil) (fun acc v H2 D c hv pa => ?_) (fun acc H2 D e0 pa s2 hD fD => ?_)
    · obtain ⟨x, hx, px, rfl, hpx⟩ := Paired.at hed hv
      have hpx2 := c.since _ _ hpx
      have hcl := c.lt
      walk_at "rd"
      refine newO_gen fun p3 H3 f3 s3 h3 => ?_
      refine pD_of c (by omega) s3 fun H5 s5 => ?_
      rw [List.length_append]
      show Edits H5 _ ((es.take (acc.length + 1)).map (mvd bb))
      rw [take_snoc hx, List.map_append]
      exact Paired.snoc (pa.ts ((TpS.same s3).trans (TpS.sl s5))) ⟨p3, rfl, s5.tup h3⟩
    · rw [e0, hul, List.take_length] at pa
      exact k D acc H2 s2 fD hD pa
theorem fn_law {f : Addr} {fd : FuncData} (T : Txt mg) (FD : C8.Def K mg "law" s_law f fd)
    (c_law_reel : C8.Cal P w K mg base 1 "_law_reel" (sp_law_reel K) [])
    (c_law_draw : C8.Cal P w K mg base 1 "_law_draw" sp_law_draw [])
    (c_law_stepped : C8.Cal P w K mg base 3 "_law_stepped" sp_law_stepped [])
    (c_law_pick : C8.Cal P w K mg base 2 "_law_pick" sp_law_pick [])
    (c_law_edit_row : C8.Cal P w K mg base 5 "_law_edit_row" sp_law_edit_row [])
    (c_law_asked : C8.Cal P w K mg base 6 "_law_asked" sp_law_asked [])
    (c_law_splice : C8.Cal P w K mg base 1 "_law_splice" sp_law_splice [])
    (c_law_moved : C8.Cal P w K mg base 1 "_law_moved" sp_law_moved []) : FnOk P w K mg base C8.CX0 7 f fd ["script"] (sp_law K) := by
  refine C8.fn0 FD.fn sc_law (fun vs H Q E h => ?_) (fun cdv A outer s H vs Q E hr h => ?_)
  · obtain ⟨a, ns, rfl, _⟩ := h; rfl
  · obtain ⟨a, ns, rfl, hS, hl, k⟩ := h
    refine ⟨_, (pss_cons (ps_set (i := 1) sc_law.nd rfl (.inl rfl) (C8.pe_c c_law_reel hr (by decide) (by rfl) (pa_cons (pv 0) pa_nil)))
  (pss_cons (ps_set (i := 2) sc_law.nd rfl (.inl rfl) (C8.pe_c c_law_draw hr (by decide) (by rfl) (pa_cons (pv 1) (pa_cons pe_int pa_nil))))
  (pss_cons (ps_set (i := 3) sc_law.nd rfl (.inl rfl) (pe_lst (pa_cons (C8.pe_c c_law_pick hr (by decide) (by rfl) (pa_cons (pv 1) (pa_cons (pe_lst (pa_cons pe_int (pa_cons pe_int (pa_cons pe_int (pa_cons pe_int (pa_cons pe_int (pa_cons pe_int (pa_cons pe_int (pa_cons pe_int pa_nil))))))))) pa_nil))) (pa_cons (C8.pe_c c_law_pick hr (by decide) (by rfl) (pa_cons (pv 1) (pa_cons (pe_lst (pa_cons pe_int (pa_cons pe_int (pa_cons pe_int (pa_cons pe_int (pa_cons pe_int (pa_cons pe_int (pa_cons pe_int (pa_cons pe_int pa_nil))))))))) pa_nil))) pa_nil))))
  (C8.pss_cut (ps_if (pt_cmpR (op_eqK K (hu64 hr)) (C8.pe_c c_law_draw hr (by decide) (by rfl) (pa_cons (pv 1) (pa_cons pe_int pa_nil))) pe_int (nomark _)) (pss_one (ps_set (i := 3) sc_law.nd rfl (.inl rfl) (pe_lst (pa_cons (pe_op (op_addK K) pe_int (C8.pe_c c_law_draw hr (by decide) (by rfl) (pa_cons (pv 1) (pa_cons pe_int pa_nil)))) (pa_cons (pe_op (op_addK K) pe_int (C8.pe_c c_law_draw hr (by decide) (by rfl) (pa_cons (pv 1) (pa_cons pe_int pa_nil)))) pa_nil))))) pss_nil)
  (pss_cons (ps_set (i := 4) sc_law.nd rfl (.inl rfl) (C8.pe_c c_law_stepped hr (by decide) (by rfl) (pa_cons (pv 1) (pa_cons (C8.pe_c c_law_pick hr (by decide) (by rfl) (pa_cons (pv 1) (pa_cons (pe_lst (pa_cons pe_int (pa_cons pe_int (pa_cons pe_int (pa_cons pe_int (pa_cons pe_int (pa_cons pe_int (pa_cons pe_int pa_nil)))))))) pa_nil))) pa_nil))))
  (pss_cons (ps_set (i := 5) sc_law.nd rfl (.inl rfl) (C8.pe_c c_law_draw hr (by decide) (by rfl) (pa_cons (pv 1) (pa_cons (pe_op (op_addK K) (pe_callB (call_lenK K) (by rfl) T.n_len PySem.boot_len (pa_cons (pv 4) pa_nil)) pe_int) pa_nil))))
  (C8.pss_cut (ps_if (pt_cmpR op_ltU (pv 2) pe_int (nomark _)) (pss_cons (ps_set (i := 6) sc_law.nd rfl (.inl rfl) (C8.pe_c c_law_edit_row hr (by decide) (by rfl) (pa_cons (pv 1) (pa_cons (pv 4) (pa_cons (pe_ix (ix_K K) (pv 3) pe_int (fun _ _ => rfl)) pa_nil)))))
  (pss_one (ps_set (i := 7) sc_law.nd rfl (.inl rfl) (C8.pe_c c_law_edit_row hr (by decide) (by rfl) (pa_cons (pv 1) (pa_cons (C8.pe_c c_law_splice hr (by decide) (by rfl) (pa_cons (pv 4) (pa_cons (pv 6) pa_nil))) (pa_cons (pe_ix (ix_K K) (pv 3) pe_int (fun _ _ => rfl)) pa_nil))))))) (pss_one (ps_if (pt_cmpR (op_eqK K (hu64 hr)) (pv 2) pe_int (nomark _)) (pss_cons (ps_set (i := 6) sc_law.nd rfl (.inl rfl) (C8.pe_c c_law_edit_row hr (by decide) (by rfl) (pa_cons (pv 1) (pa_cons (pe_slice (sl_K K) (pv 4) po_none (po_some (pv 5))) (pa_cons (pe_ix (ix_K K) (pv 3) pe_int (fun _ _ => rfl)) pa_nil)))))
  (pss_one (ps_set (i := 7) sc_law.nd rfl (.inl rfl) (C8.pe_c c_law_moved hr (by decide) (by rfl) (pa_cons (C8.pe_c c_law_edit_row hr (by decide) (by rfl) (pa_cons (pv 1) (pa_cons (pe_slice (sl_K K) (pv 4) (po_some (pv 5)) po_none) (pa_cons (pe_ix (ix_K K) (pv 3) pe_int (fun _ _ => rfl)) pa_nil)))) (pa_cons (pe_callB (call_lenK K) (by rfl) T.n_len PySem.boot_len (pa_cons (C8.pe_c c_law_splice hr (by decide) (by rfl) (pa_cons (pe_slice (sl_K K) (pv 4) po_none (po_some (pv 5))) (pa_cons (pv 6) pa_nil))) pa_nil)) pa_nil)))))) (pss_cons (ps_set (i := 6) sc_law.nd rfl (.inl rfl) (C8.pe_c c_law_moved hr (by decide) (by rfl) (pa_cons (C8.pe_c c_law_edit_row hr (by decide) (by rfl) (pa_cons (pv 1) (pa_cons (pe_slice (sl_K K) (pv 4) (po_some (pv 5)) po_none) (pa_cons (pe_ix (ix_K K) (pv 3) pe_int (fun _ _ => rfl)) pa_nil)))) (pa_cons (pv 5) pa_nil))))
  (pss_one (ps_set (i := 7) sc_law.nd rfl (.inl rfl) (C8.pe_c c_law_edit_row hr (by decide) (by rfl) (pa_cons (pv 1) (pa_cons (pe_slice (sl_K K) (pv 4) po_none (po_some (pv 5))) (pa_cons (pe_ix (ix_K K) (pv 3) pe_int (fun _ _ => rfl)) pa_nil))))))))))
  (pss_one (ps_ret (pe_and (C8.pe_c c_law_asked hr (by decide) (by rfl) (pa_cons (pe_callB (call_lenK K) (by rfl) T.n_len PySem.boot_len (pa_cons (pv 4) pa_nil)) (pa_cons (pv 6) (pa_cons (pv 7) pa_nil)))) (pe_one (C8.pe_c c_law_asked hr (by decide) (by rfl) (pa_cons (pe_callB (call_lenK K) (by rfl) T.n_len PySem.boot_len (pa_cons (pv 4) pa_nil)) (pa_cons (pv 6) (pa_cons (pe_lst pa_nil) pa_nil))))))))))))))), ?_⟩
    show (_ : TS) _ [some (.ref a), none, none, none, none, none, none, none] H
    walk_at "rd"
    refine use_reel hS hl fun r H1 f1 s1 r1 => ?_
    walk_at "rd"
    refine use_draw r1 (by omega) fun fm H2 a2 b2 s2 r2 => ?_
    walk_at "rd"
    refine newO_gen fun p3 H3 f3 s3 h3 => ?_
    walk_at "rd"
    refine use_pickI (lo := 0) (hi := 7) (r2.same s3) h3 (r2.ne f3).symm (Nat.zero_lt_succ _) (by repeat (first | exact AllI.nil | refine AllI.cons (by omega) ?_)) fun c0 H4 a4 b4 s4 r4 => ?_
    walk_at "rd"
    refine newO_gen fun p5 H5 f5 s5 h5 => ?_
    walk_at "rd"
    refine use_pickI (lo := 0) (hi := 7) (r4.same s5) h5 (r4.ne f5).symm (Nat.zero_lt_succ _) (by repeat (first | exact AllI.nil | refine AllI.cons (by omega) ?_)) fun c1 H6 a6 b6 s6 r6 => ?_
    walk_at "rd"
    refine newO_gen fun p7 H7 f7 s7 h7 => ?_
    have r7 := r6.same s7
    have hp7r : p7 ≠ r := (r6.ne f7).symm
    walk_at "rd"
    refine rCut (fun σ' H' => ∃ (pc : Addr) (n1 n2 : Int), σ' = [some (.ref a), some (.ref r), some (.int fm), some (.ref pc), none, none, none, none] ∧ Reel H' r ∧ pc ≠ r ∧ H' pc = some (.lst [.int n1, .int n2]) ∧ (0 ≤ n1 ∧ n1 ≤ 30) ∧ 0 ≤ n2 ∧ n2 ≤ 30) ?_ ?_
    · walk_at "rd"
      refine use_draw r7 (by omega) fun d8 H8 a8 b8 s8 r8 => ?_
      walk_at "rd"
      refine ifD (fun c => ?_) (fun c => ?_)
      · walk_at "rd"
        refine use_draw r8 (by omega) fun d9 H9 a9 b9 s9 r9 => ?_
        walk_at "rd"
        refine use_draw r9 (by omega) fun dA HA aA bA sA rA => ?_
        walk_at "rd"
        refine newO_gen fun pB HB fB sB hB => ?_
        walk_at "rd"
        exact ⟨_, _, _, rfl, rA.same sB, (rA.ne fB).symm, hB, ⟨by omega, by omega⟩, by omega, by omega⟩
      · walk_at "rd"
        exact ⟨_, _, _, rfl, r8, hp7r, s8.keep _ _ hp7r h7, ⟨by omega, by omega⟩, by omega, by omega⟩
    rintro σ' H8 ⟨pc, n1, n2, rfl, r8, hpr, hpc, hn1, hn2⟩
    walk_at "rd"
    refine newO_gen fun p9 H9 f9 s9 h9 => ?_
    walk_at "rd"
    refine use_pickI (lo := 0) (hi := 60) (r8.same s9) h9 (r8.ne f9).symm (Nat.zero_lt_succ _) (by repeat (first | exact AllI.nil | refine AllI.cons (by omega) ?_)) fun sz HA aA bA sA rA => ?_
    walk_at "rd"
    refine use_stepped rA (by omega) fun t HB ht okt sB rB => ?_
    walk_at "rd"
    refine use_draw rB (by omega) fun ct HC aC bC sC rC => ?_
    have hpcC : HC pc = some (.lst [.int n1, .int n2]) := (((sA.trans sB).trans sC)).keep pc _ hpr (s9 _ _ hpc)
    have q1 := cutS_length t none (some ct)
    have q2 := cutS_length t (some ct) none
    have htl := TL.len_tl t
    have l1 : (cutS t none (some ct)).length = ct.toNat := by rw [TL.len_tl, tl_cutS, cut_to aC, List.length_take]; omega
    have l2 : (cutS t (some ct) none).length = t.length - ct.toNat := by rw [TL.len_tl, tl_cutS, cut_from aC, List.length_drop]; omega
    walk_at "rd"
    refine rCut (fun σ' H' => ∃ (p q : Addr) (us ws : List V) (xs ys : List Ed), σ' = [some (.ref a), some (.ref r), some (.int fm), some (.ref pc), some (.str t), some (.int ct), some (.ref p), some (.ref q)] ∧ H' p = some (.lst us) ∧ H' q = some (.lst ws) ∧ Edits H' us xs ∧ Edits H' ws ys ∧ Xok t.length xs ys) ?_ ?_
    · walk_at "rd"
      refine ifD (fun c => ?_) (fun c => ?_)
      · walk_at "rd"
        refine use_edit_row rC ⟨by omega, okt⟩ ⟨by omega, by omega⟩ fun p us xs HD sD rD fD hD ed hel hen hef hes => ?_
        have hpcD := sD.keep pc _ hpr hpcC
        have hla := len_aps hef
        have hsm : Small xs := ⟨by omega, hen⟩
        walk_at "rd"
        refine use_splice hD ed hsm.mild hef (by omega) (hsm.mid (by omega) hef) ?_
        walk_at "rd"
        refine use_edit_row rD ⟨by omega, Ok.aps okt fun x hx => (hen x hx).2⟩ ⟨by omega, by omega⟩ fun q ws ys HE sE rE fE hE ed2 hel2 hen2 hef2 hes2 => ?_
        have hpr2 : p ≠ r := (rC.ne fD).symm
        walk_at "rd"
        rw [hla] at hef2
        exact ⟨p, q, us, ws, xs, ys, rfl, sE.keep p _ hpr2 hD, hE, ed.ts (TpS.sl sE), ed2, by omega, by omega, fits_app.mpr ⟨hef, hef2⟩, by omega, by omega, hen, hen2⟩
      walk_at "rd"
      refine ifD (fun c2 => ?_) (fun c2 => ?_)
      · walk_at "rd"
        refine use_edit_row rC ⟨by omega, okt.cut _ _⟩ ⟨by omega, by omega⟩ fun p us xs HD sD rD fD hD ed hel hen hef hes => ?_
        have hpcD := sD.keep pc _ hpr hpcC
        have hpr2 : p ≠ r := (rC.ne fD).symm
        walk_at "rd"
        refine use_edit_row rD ⟨by omega, okt.cut _ _⟩ ⟨by omega, by omega⟩ fun q ws ys HE sE rE fE hE ed2 hel2 hen2 hef2 hes2 => ?_
        have hla := len_aps hef
        have hsm : Small xs := ⟨by omega, hen⟩
        have hpE := sE.keep p _ hpr2 hD
        have edE := ed.ts (TpS.sl sE)
        walk_at "rd"
        refine use_splice hpE edE hsm.mild hef (by omega) (hsm.mid (by omega) hef) ?_
        have hap := hsm.mid (by omega) hef xs.length
        rw [List.take_length] at hap
        walk_at "rd"
        refine use_moved hE ed2 (by omega) fun z vs HF sF fF hF edF => ?_
        walk_at "rd"
        have hz0 : (0 : Int) ≤ sza ((cutS t none (some ct)).length : Int) xs := by rw [← hla]; omega
        obtain ⟨w1, w2⟩ := fits_mvd (b := ((aps (cutS t none (some ct)) xs).length : Int)) (by omega) hef2
        refine ⟨p, z, us, vs, xs, _, rfl, sF _ _ hpE, hF, edE.ts (TpS.same sF), edF, by omega, by omega, fits_app.mpr ⟨fits_more (by omega) hef, ?_⟩, by omega, by rw [List.length_map]; omega, hen, ?_⟩
        · have e9 : sza (t.length : Int) xs = ((cutS t (some ct) none).length : Int) + ((aps (cutS t none (some ct)) xs).length : Int) := by
            have := sza_more ((t.length : Int) - ((cutS t none (some ct)).length : Int)) xs ((cutS t none (some ct)).length : Int)
            rw [show (((cutS t none (some ct)).length : Int) + ((t.length : Int) - ((cutS t none (some ct)).length : Int))) = (t.length : Int) by omega] at this
            omega
          rw [e9]
          exact w1
        · intro y hy
          obtain ⟨x, hx, rfl⟩ := List.mem_map.mp hy
          exact hen2 x hx
      · walk_at "rd"
        refine use_edit_row rC ⟨by omega, okt.cut _ _⟩ ⟨by omega, by omega⟩ fun p us xs HD sD rD fD hD ed hel hen hef hes => ?_
        have hpcD := sD.keep pc _ hpr hpcC
        walk_at "rd"
        refine use_moved hD ed (by omega) fun z vs HE sE fE hE edE => ?_
        have rE := rD.same sE
        have hpcE := sE _ _ hpcD
        have hzr : z ≠ r := (rD.ne fE).symm
        walk_at "rd"
        refine use_edit_row rE ⟨by omega, okt.cut _ _⟩ ⟨by omega, by omega⟩ fun q ws ys HF sF rF fF hF ed2 hel2 hen2 hef2 hes2 => ?_
        walk_at "rd"
        have hla := len_aps hef
        obtain ⟨w1, w2⟩ := fits_mvd aC hef
        have e8 : ((cutS t (some ct) none).length : Int) + ct = (t.length : Int) := by omega
        rw [e8] at w1 w2
        refine ⟨z, q, vs, ws, _, ys, rfl, sF.keep z _ hzr hE, hF, edE.ts (TpS.sl sF), ed2, by omega, by omega, fits_app.mpr ⟨w1, ?_⟩, by rw [List.length_map]; omega, by omega, ?_, hen2⟩
        · rw [w2]
          exact fits_more (by omega) hef2
        · intro y hy
          obtain ⟨x, hx, rfl⟩ := List.mem_map.mp hy
          exact hen x hx
    rintro σ' HG ⟨p, q, us, ws, xs, ys, rfl, hp, hq, ex, ey, ok⟩
    walk_at "rd"
    refine use_asked hp hq ex ey ok fun HH sH => ?_
    walk_at "rd"
    refine newO_gen fun pN HI fI sI hI => ?_
    have sGI := Same.trans sH sI
    walk_at "rd"
    refine use_asked (sGI _ _ hp) hI (ex.ts (TpS.same sGI)) .nil ⟨ok.pos, ok.few, by rw [List.append_nil]; exact (fits_app.mp ok.fit).1, ok.l1, by show 0 ≤ 60; omega, ok.n1, fun y hy => nomatch hy⟩ fun HJ sJ => ?_
    exact k HJ
end
end Z
namespace Z
open PySem PySem.Spec PyProof.Rows L2
theorem top_super : (PySem.Challenge.rw_mendedtree_k61_swap_lists.prog.main.scope.names.lookup ("super" : Str)).isSome = false := by decide +kernel
theorem all_mk {w : World} {K : PySem.W.Frag} {h : Heap} {mg : Str → Option Value} {fa : Addr} (X : K.In h) (G : h.Ns mainGlobals mg) (hfa : mg "law" = some (.ref fa))
    {f_swap : Addr} {od_swap an_swap : Option Addr} {sl_swap : Array (Option Value)} {oc_swap kV_swap dc_swap pm_swap cd_swap ct_swap : Value}
    {f_swap_lists : Addr} {od_swap_lists an_swap_lists : Option Addr} {sl_swap_lists : Array (Option Value)} {oc_swap_lists kV_swap_lists dc_swap_lists pm_swap_lists cd_swap_lists ct_swap_lists : Value}
    {f_law_reel : Addr} {od_law_reel an_law_reel : Option Addr} {sl_law_reel : Array (Option Value)} {oc_law_reel kV_law_reel dc_law_reel pm_law_reel cd_law_reel ct_law_reel : Value}
    {f_law_draw : Addr} {od_law_draw an_law_draw : Option Addr} {sl_law_draw : Array (Option Value)} {oc_law_draw kV_law_draw dc_law_draw pm_law_draw cd_law_draw ct_law_draw : Value}
    {f_law_pick : Addr} {od_law_pick an_law_pick : Option Addr} {sl_law_pick : Array (Option Value)} {oc_law_pick kV_law_pick dc_law_pick pm_law_pick cd_law_pick ct_law_pick : Value}
    {f_law_word : Addr} {od_law_word an_law_word : Option Addr} {sl_law_word : Array (Option Value)} {oc_law_word kV_law_word dc_law_word pm_law_word cd_law_word ct_law_word : Value}
    {f_law_number : Addr} {od_law_number an_law_number : Option Addr} {sl_law_number : Array (Option Value)} {oc_law_number kV_law_number dc_law_number pm_law_number cd_law_number ct_law_number : Value}
    {f_law_signs : Addr} {od_law_signs an_law_signs : Option Addr} {sl_law_signs : Array (Option Value)} {oc_law_signs kV_law_signs dc_law_signs pm_law_signs cd_law_signs ct_law_signs : Value}
    {f_law_stepped : Addr} {od_law_stepped an_law_stepped : Option Addr} {sl_law_stepped : Array (Option Value)} {oc_law_stepped kV_law_stepped dc_law_stepped pm_law_stepped cd_law_stepped ct_law_stepped : Value}
    {f_law_new : Addr} {od_law_new an_law_new : Option Addr} {sl_law_new : Array (Option Value)} {oc_law_new kV_law_new dc_law_new pm_law_new cd_law_new ct_law_new : Value}
    {f_law_edit_row : Addr} {od_law_edit_row an_law_edit_row : Option Addr} {sl_law_edit_row : Array (Option Value)} {oc_law_edit_row kV_law_edit_row dc_law_edit_row pm_law_edit_row cd_law_edit_row ct_law_edit_row : Value}
    {f_law_splice : Addr} {od_law_splice an_law_splice : Option Addr} {sl_law_splice : Array (Option Value)} {oc_law_splice kV_law_splice dc_law_splice pm_law_splice cd_law_splice ct_law_splice : Value}
    {f_law_same_edit : Addr} {od_law_same_edit an_law_same_edit : Option Addr} {sl_law_same_edit : Array (Option Value)} {oc_law_same_edit kV_law_same_edit dc_law_same_edit pm_law_same_edit cd_law_same_edit ct_law_same_edit : Value}
    {f_law_same_edits : Addr} {od_law_same_edits an_law_same_edits : Option Addr} {sl_law_same_edits : Array (Option Value)} {oc_law_same_edits kV_law_same_edits dc_law_same_edits pm_law_same_edits cd_law_same_edits ct_law_same_edits : Value}
    {f_law_exchanged : Addr} {od_law_exchanged an_law_exchanged : Option Addr} {sl_law_exchanged : Array (Option Value)} {oc_law_exchanged kV_law_exchanged dc_law_exchanged pm_law_exchanged cd_law_exchanged ct_law_exchanged : Value}
    {f_law_due : Addr} {od_law_due an_law_due : Option Addr} {sl_law_due : Array (Option Value)} {oc_law_due kV_law_due dc_law_due pm_law_due cd_law_due ct_law_due : Value}
    {f_law_told : Addr} {od_law_told an_law_told : Option Addr} {sl_law_told : Array (Option Value)} {oc_law_told kV_law_told dc_law_told pm_law_told cd_law_told ct_law_told : Value}
    {f_law_numbered : Addr} {od_law_numbered an_law_numbered : Option Addr} {sl_law_numbered : Array (Option Value)} {oc_law_numbered kV_law_numbered dc_law_numbered pm_law_numbered cd_law_numbered ct_law_numbered : Value}
    {f_law_lists_ok : Addr} {od_law_lists_ok an_law_lists_ok : Option Addr} {sl_law_lists_ok : Array (Option Value)} {oc_law_lists_ok kV_law_lists_ok dc_law_lists_ok pm_law_lists_ok cd_law_lists_ok ct_law_lists_ok : Value}
    {f_law_same_row : Addr} {od_law_same_row an_law_same_row : Option Addr} {sl_law_same_row : Array (Option Value)} {oc_law_same_row kV_law_same_row dc_law_same_row pm_law_same_row cd_law_same_row ct_law_same_row : Value}
    {f_law_asked : Addr} {od_law_asked an_law_asked : Option Addr} {sl_law_asked : Array (Option Value)} {oc_law_asked kV_law_asked dc_law_asked pm_law_asked cd_law_asked ct_law_asked : Value}
    {f_law_moved : Addr} {od_law_moved an_law_moved : Option Addr} {sl_law_moved : Array (Option Value)} {oc_law_moved kV_law_moved dc_law_moved pm_law_moved cd_law_moved ct_law_moved : Value}
    {f_law : Addr} {od_law an_law : Option Addr} {sl_law : Array (Option Value)} {oc_law kV_law dc_law pm_law cd_law ct_law : Value}
    {C_EditError : Addr}
    {C_Entangled : Addr}
    {nm_Entangled q_Entangled : Str} {N_Entangled : Addr} {bs_Entangled bm_Entangled : List Value} {sn_Entangled : List Str} {sub_Entangled : List Value} {ab_Entangled : Bool} {col_Entangled : Option Bool} {dd_Entangled : Option Addr} {m0_Entangled m1_Entangled m2_Entangled m3_Entangled m5_Entangled : Option Value}
    {g_Entangled cda_Entangled cc_Entangled : Addr} {go_Entangled gk_Entangled gd_Entangled gp_Entangled gt_Entangled u1_Entangled u2_Entangled : Value} {ge_Entangled gn_Entangled u3_Entangled u4_Entangled : Option Addr} {gs_Entangled u5_Entangled u6_Entangled : Array (Option Value)} {vs_Entangled : Array Value} {fl_Entangled : Str} {tf_Entangled : Tok}
    {C_MendedError : Addr}
    (z_ValueError : PySem.W.nsIn K mainGlobals "ValueError" = some none)
    (z_abs : PySem.W.nsIn K mainGlobals "abs" = some none)
    (z_bool : PySem.W.nsIn K mainGlobals "bool" = some none)
    (z_int : PySem.W.nsIn K mainGlobals "int" = some none)
    (z_isinstance : PySem.W.nsIn K mainGlobals "isinstance" = some none)
    (z_len : PySem.W.nsIn K mainGlobals "len" = some none)
    (z_list : PySem.W.nsIn K mainGlobals "list" = some none)
    (z_max : PySem.W.nsIn K mainGlobals "max" = some none)
    (z_min : PySem.W.nsIn K mainGlobals "min" = some none)
    (z_range : PySem.W.nsIn K mainGlobals "range" = some none)
    (z_str : PySem.W.nsIn K mainGlobals "str" = some none)
    (z_sum : PySem.W.nsIn K mainGlobals "sum" = some none)
    (z_tuple : PySem.W.nsIn K mainGlobals "tuple" = some none)
    (a_swap : PySem.W.nsIn K mainGlobals "swap" = some (some (.ref f_swap)))
    (l_swap : K.lookup f_swap = some ⟨oc_swap, od_swap, .func (PySem.W.fnOf "swap" "swap" (C8.fnArgs s_swap) (C8.fnBody s_swap) (C8.fnScope s_swap) .none kV_swap dc_swap pm_swap an_swap cd_swap ct_swap), sl_swap⟩)
    (c_swap : PySem.W.codeIn K cd_swap "swap" = true)
    (k_swap : PySem.W.keepIn K (.ref f_swap) = true)
    (a_swap_lists : PySem.W.nsIn K mainGlobals "swap_lists" = some (some (.ref f_swap_lists)))
    (l_swap_lists : K.lookup f_swap_lists = some ⟨oc_swap_lists, od_swap_lists, .func (PySem.W.fnOf "swap_lists" "swap_lists" (C8.fnArgs s_swap_lists) (C8.fnBody s_swap_lists) (C8.fnScope s_swap_lists) .none kV_swap_lists dc_swap_lists pm_swap_lists an_swap_lists cd_swap_lists ct_swap_lists), sl_swap_lists⟩)
    (c_swap_lists : PySem.W.codeIn K cd_swap_lists "swap_lists" = true)
    (k_swap_lists : PySem.W.keepIn K (.ref f_swap_lists) = true)
    (a_law_reel : PySem.W.nsIn K mainGlobals "_law_reel" = some (some (.ref f_law_reel)))
    (l_law_reel : K.lookup f_law_reel = some ⟨oc_law_reel, od_law_reel, .func (PySem.W.fnOf "_law_reel" "_law_reel" (C8.fnArgs s_law_reel) (C8.fnBody s_law_reel) (C8.fnScope s_law_reel) .none kV_law_reel dc_law_reel pm_law_reel an_law_reel cd_law_reel ct_law_reel), sl_law_reel⟩)
    (c_law_reel : PySem.W.codeIn K cd_law_reel "_law_reel" = true)
    (k_law_reel : PySem.W.keepIn K (.ref f_law_reel) = true)
    (a_law_draw : PySem.W.nsIn K mainGlobals "_law_draw" = some (some (.ref f_law_draw)))
    (l_law_draw : K.lookup f_law_draw = some ⟨oc_law_draw, od_law_draw, .func (PySem.W.fnOf "_law_draw" "_law_draw" (C8.fnArgs s_law_draw) (C8.fnBody s_law_draw) (C8.fnScope s_law_draw) .none kV_law_draw dc_law_draw pm_law_draw an_law_draw cd_law_draw ct_law_draw), sl_law_draw⟩)
    (c_law_draw : PySem.W.codeIn K cd_law_draw "_law_draw" = true)
    (k_law_draw : PySem.W.keepIn K (.ref f_law_draw) = true)
    (a_law_pick : PySem.W.nsIn K mainGlobals "_law_pick" = some (some (.ref f_law_pick)))
    (l_law_pick : K.lookup f_law_pick = some ⟨oc_law_pick, od_law_pick, .func (PySem.W.fnOf "_law_pick" "_law_pick" (C8.fnArgs s_law_pick) (C8.fnBody s_law_pick) (C8.fnScope s_law_pick) .none kV_law_pick dc_law_pick pm_law_pick an_law_pick cd_law_pick ct_law_pick), sl_law_pick⟩)
    (c_law_pick : PySem.W.codeIn K cd_law_pick "_law_pick" = true)
    (k_law_pick : PySem.W.keepIn K (.ref f_law_pick) = true)
    (a_law_word : PySem.W.nsIn K mainGlobals "_law_word" = some (some (.ref f_law_word)))
    (l_law_word : K.lookup f_law_word = some ⟨oc_law_word, od_law_word, .func (PySem.W.fnOf "_law_word" "_law_word" (C8.fnArgs s_law_word) (C8.fnBody s_law_word) (C8.fnScope s_law_word) .none kV_law_word dc_law_word pm_law_word an_law_word cd_law_word ct_law_word), sl_law_word⟩)
    (c_law_word : PySem.W.codeIn K cd_law_word "_law_word" = true)
    (k_law_word : PySem.W.keepIn K (.ref f_law_word) = true)
    (a_law_number : PySem.W.nsIn K mainGlobals "_law_number" = some (some (.ref f_law_number)))
    (l_law_number : K.lookup f_law_number = some ⟨oc_law_number, od_law_number, .func (PySem.W.fnOf "_law_number" "_law_number" (C8.fnArgs s_law_number) (C8.fnBody s_law_number) (C8.fnScope s_law_number) .none kV_law_number dc_law_number pm_law_number an_law_number cd_law_number ct_law_number), sl_law_number⟩)
    (c_law_number : PySem.W.codeIn K cd_law_number "_law_number" = true)
    (k_law_number : PySem.W.keepIn K (.ref f_law_number) = true)
    (a_law_signs : PySem.W.nsIn K mainGlobals "_law_signs" = some (some (.ref f_law_signs)))
    (l_law_signs : K.lookup f_law_signs = some ⟨oc_law_signs, od_law_signs, .func (PySem.W.fnOf "_law_signs" "_law_signs" (C8.fnArgs s_law_signs) (C8.fnBody s_law_signs) (C8.fnScope s_law_signs) .none kV_law_signs dc_law_signs pm_law_signs an_law_signs cd_law_signs ct_law_signs), sl_law_signs⟩)
    (c_law_signs : PySem.W.codeIn K cd_law_signs "_law_signs" = true)
    (k_law_signs : PySem.W.keepIn K (.ref f_law_signs) = true)
    (a_law_stepped : PySem.W.nsIn K mainGlobals "_law_stepped" = some (some (.ref f_law_stepped)))
    (l_law_stepped : K.lookup f_law_stepped = some ⟨oc_law_stepped, od_law_stepped, .func (PySem.W.fnOf "_law_stepped" "_law_stepped" (C8.fnArgs s_law_stepped) (C8.fnBody s_law_stepped) (C8.fnScope s_law_stepped) .none kV_law_stepped dc_law_stepped pm_law_stepped an_law_stepped cd_law_stepped ct_law_stepped), sl_law_stepped⟩)
    (c_law_stepped : PySem.W.codeIn K cd_law_stepped "_law_stepped" = true)
    (k_law_stepped : PySem.W.keepIn K (.ref f_law_stepped) = true)
    (a_law_new : PySem.W.nsIn K mainGlobals "_law_new" = some (some (.ref f_law_new)))
    (l_law_new : K.lookup f_law_new = some ⟨oc_law_new, od_law_new, .func (PySem.W.fnOf "_law_new" "_law_new" (C8.fnArgs s_law_new) (C8.fnBody s_law_new) (C8.fnScope s_law_new) .none kV_law_new dc_law_new pm_law_new an_law_new cd_law_new ct_law_new), sl_law_new⟩)
    (c_law_new : PySem.W.codeIn K cd_law_new "_law_new" = true)
    (k_law_new : PySem.W.keepIn K (.ref f_law_new) = true)
    (a_law_edit_row : PySem.W.nsIn K mainGlobals "_law_edit_row" = some (some (.ref f_law_edit_row)))
    (l_law_edit_row : K.lookup f_law_edit_row = some ⟨oc_law_edit_row, od_law_edit_row, .func (PySem.W.fnOf "_law_edit_row" "_law_edit_row" (C8.fnArgs s_law_edit_row) (C8.fnBody s_law_edit_row) (C8.fnScope s_law_edit_row) .none kV_law_edit_row dc_law_edit_row pm_law_edit_row an_law_edit_row cd_law_edit_row ct_law_edit_row), sl_law_edit_row⟩)
    (c_law_edit_row : PySem.W.codeIn K cd_law_edit_row "_law_edit_row" = true)
    (k_law_edit_row : PySem.W.keepIn K (.ref f_law_edit_row) = true)
    (a_law_splice : PySem.W.nsIn K mainGlobals "_law_splice" = some (some (.ref f_law_splice)))
    (l_law_splice : K.lookup f_law_splice = some ⟨oc_law_splice, od_law_splice, .func (PySem.W.fnOf "_law_splice" "_law_splice" (C8.fnArgs s_law_splice) (C8.fnBody s_law_splice) (C8.fnScope s_law_splice) .none kV_law_splice dc_law_splice pm_law_splice an_law_splice cd_law_splice ct_law_splice), sl_law_splice⟩)
    (c_law_splice : PySem.W.codeIn K cd_law_splice "_law_splice" = true)
    (k_law_splice : PySem.W.keepIn K (.ref f_law_splice) = true)
    (a_law_same_edit : PySem.W.nsIn K mainGlobals "_law_same_edit" = some (some (.ref f_law_same_edit)))
    (l_law_same_edit : K.lookup f_law_same_edit = some ⟨oc_law_same_edit, od_law_same_edit, .func (PySem.W.fnOf "_law_same_edit" "_law_same_edit" (C8.fnArgs s_law_same_edit) (C8.fnBody s_law_same_edit) (C8.fnScope s_law_same_edit) .none kV_law_same_edit dc_law_same_edit pm_law_same_edit an_law_same_edit cd_law_same_edit ct_law_same_edit), sl_law_same_edit⟩)
    (c_law_same_edit : PySem.W.codeIn K cd_law_same_edit "_law_same_edit" = true)
    (k_law_same_edit : PySem.W.keepIn K (.ref f_law_same_edit) = true)
    (a_law_same_edits : PySem.W.nsIn K mainGlobals "_law_same_edits" = some (some (.ref f_law_same_edits)))
    (l_law_same_edits : K.lookup f_law_same_edits = some ⟨oc_law_same_edits, od_law_same_edits, .func (PySem.W.fnOf "_law_same_edits" "_law_same_edits" (C8.fnArgs s_law_same_edits) (C8.fnBody s_law_same_edits) (C8.fnScope s_law_same_edits) .none kV_law_same_edits dc_law_same_edits pm_law_same_edits an_law_same_edits cd_law_same_edits ct_law_same_edits), sl_law_same_edits⟩)
    (c_law_same_edits : PySem.W.codeIn K cd_law_same_edits "_law_same_edits" = true)
    (k_law_same_edits : PySem.W.keepIn K (.ref f_law_same_edits) = true)
    (a_law_exchanged : PySem.W.nsIn K mainGlobals "_law_exchanged" = some (some (.ref f_law_exchanged)))
    (l_law_exchanged : K.lookup f_law_exchanged = some ⟨oc_law_exchanged, od_law_exchanged, .func (PySem.W.fnOf "_law_exchanged" "_law_exchanged" (C8.fnArgs s_law_exchanged) (C8.fnBody s_law_exchanged) (C8.fnScope s_law_exchanged) .none kV_law_exchanged dc_law_exchanged pm_law_exchanged an_law_exchanged cd_law_exchanged ct_law_exchanged), sl_law_exchanged⟩)
    (c_law_exchanged : PySem.W.codeIn K cd_law_exchanged "_law_exchanged" = true)
    (k_law_exchanged : PySem.W.keepIn K (.ref f_law_exchanged) = true)
    (a_law_due : PySem.W.nsIn K mainGlobals "_law_due" = some (some (.ref f_law_due)))
    (l_law_due : K.lookup f_law_due = some ⟨oc_law_due, od_law_due, .func (PySem.W.fnOf "_law_due" "_law_due" (C8.fnArgs s_law_due) (C8.fnBody s_law_due) (C8.fnScope s_law_due) .none kV_law_due dc_law_due pm_law_due an_law_due cd_law_due ct_law_due), sl_law_due⟩)
    (c_law_due : PySem.W.codeIn K cd_law_due "_law_due" = true)
    (k_law_due : PySem.W.keepIn K (.ref f_law_due) = true)
    (a_law_told : PySem.W.nsIn K mainGlobals "_law_told" = some (some (.ref f_law_told)))
    (l_law_told : K.lookup f_law_told = some ⟨oc_law_told, od_law_told, .func (PySem.W.fnOf "_law_told" "_law_told" (C8.fnArgs s_law_told) (C8.fnBody s_law_told) (C8.fnScope s_law_told) .none kV_law_told dc_law_told pm_law_told an_law_told cd_law_told ct_law_told), sl_law_told⟩)
    (c_law_told : PySem.W.codeIn K cd_law_told "_law_told" = true)
    (k_law_told : PySem.W.keepIn K (.ref f_law_told) = true)
    (a_law_numbered : PySem.W.nsIn K mainGlobals "_law_numbered" = some (some (.ref f_law_numbered)))
    (l_law_numbered : K.lookup f_law_numbered = some ⟨oc_law_numbered, od_law_numbered, .func (PySem.W.fnOf "_law_numbered" "_law_numbered" (C8.fnArgs s_law_numbered) (C8.fnBody s_law_numbered) (C8.fnScope s_law_numbered) .none kV_law_numbered dc_law_numbered pm_law_numbered an_law_numbered cd_law_numbered ct_law_numbered), sl_law_numbered⟩)
    (c_law_numbered : PySem.W.codeIn K cd_law_numbered "_law_numbered" = true)
    (k_law_numbered : PySem.W.keepIn K (.ref f_law_numbered) = true)
    (a_law_lists_ok : PySem.W.nsIn K mainGlobals "_law_lists_ok" = some (some (.ref f_law_lists_ok)))
    (l_law_lists_ok : K.lookup f_law_lists_ok = some ⟨oc_law_lists_ok, od_law_lists_ok, .func (PySem.W.fnOf "_law_lists_ok" "_law_lists_ok" (C8.fnArgs s_law_lists_ok) (C8.fnBody s_law_lists_ok) (C8.fnScope s_law_lists_ok) .none kV_law_lists_ok dc_law_lists_ok pm_law_lists_ok an_law_lists_ok cd_law_lists_ok ct_law_lists_ok), sl_law_lists_ok⟩)
    (c_law_lists_ok : PySem.W.codeIn K cd_law_lists_ok "_law_lists_ok" = true)
    (k_law_lists_ok : PySem.W.keepIn K (.ref f_law_lists_ok) = true)
    (a_law_same_row : PySem.W.nsIn K mainGlobals "_law_same_row" = some (some (.ref f_law_same_row)))
    (l_law_same_row : K.lookup f_law_same_row = some ⟨oc_law_same_row, od_law_same_row, .func (PySem.W.fnOf "_law_same_row" "_law_same_row" (C8.fnArgs s_law_same_row) (C8.fnBody s_law_same_row) (C8.fnScope s_law_same_row) .none kV_law_same_row dc_law_same_row pm_law_same_row an_law_same_row cd_law_same_row ct_law_same_row), sl_law_same_row⟩)
    (c_law_same_row : PySem.W.codeIn K cd_law_same_row "_law_same_row" = true)
    (k_law_same_row : PySem.W.keepIn K (.ref f_law_same_row) = true)
    (a_law_asked : PySem.W.nsIn K mainGlobals "_law_asked" = some (some (.ref f_law_asked)))
    (l_law_asked : K.lookup f_law_asked = some ⟨oc_law_asked, od_law_asked, .func (PySem.W.fnOf "_law_asked" "_law_asked" (C8.fnArgs s_law_asked) (C8.fnBody s_law_asked) (C8.fnScope s_law_asked) .none kV_law_asked dc_law_asked pm_law_asked an_law_asked cd_law_asked ct_law_asked), sl_law_asked⟩)
    (c_law_asked : PySem.W.codeIn K cd_law_asked "_law_asked" = true)
    (k_law_asked : PySem.W.keepIn K (.ref f_law_asked) = true)
    (a_law_moved : PySem.W.nsIn K mainGlobals "_law_moved" = some (some (.ref f_law_moved)))
    (l_law_moved : K.lookup f_law_moved = some ⟨oc_law_moved, od_law_moved, .func (PySem.W.fnOf "_law_moved" "_law_moved" (C8.fnArgs s_law_moved) (C8.fnBody s_law_moved) (C8.fnScope s_law_moved) .none kV_law_moved dc_law_moved pm_law_moved an_law_moved cd_law_moved ct_law_moved), sl_law_moved⟩)
    (c_law_moved : PySem.W.codeIn K cd_law_moved "_law_moved" = true)
    (k_law_moved : PySem.W.keepIn K (.ref f_law_moved) = true)
    (a_law : PySem.W.nsIn K mainGlobals "law" = some (some (.ref f_law)))
    (l_law : K.lookup f_law = some ⟨oc_law, od_law, .func (PySem.W.fnOf "law" "law" (C8.fnArgs s_law) (C8.fnBody s_law) (C8.fnScope s_law) .none kV_law dc_law pm_law an_law cd_law ct_law), sl_law⟩)
    (c_law : PySem.W.codeIn K cd_law "law" = true)
    (k_law : PySem.W.keepIn K (.ref f_law) = true)
    (a_EditError : PySem.W.nsIn K mainGlobals "EditError" = some (some (.ref C_EditError)))
    (ic_EditError : PySem.W.isClsIn K C_EditError = true)
    (tc_EditError : PySem.W.typeIn K (.ref C_EditError) = some (.type "type"))
    (a_Entangled : PySem.W.nsIn K mainGlobals "Entangled" = some (some (.ref C_Entangled)))
    (ic_Entangled : PySem.W.isClsIn K C_Entangled = true)
    (tc_Entangled : PySem.W.typeIn K (.ref C_Entangled) = some (.type "type"))
    (be_Entangled : PySem.W.subIn K (.ref C_Entangled) (.type "BaseException") = some true)
    (ss_Entangled : PySem.W.subIn K (.ref C_Entangled) (.ref C_Entangled) = some true)
    (sv_Entangled : PySem.W.subIn K (.ref C_Entangled) (.type "ValueError") = some true)
    (ga_Entangled : PySem.W.findIn K (.ref C_Entangled) "__getattribute__" = some (some (.builtin "BaseException.__getattribute__")))
    (gg_Entangled : PySem.W.findIn K (.ref C_Entangled) "__getattr__" = some none)
    (hd_Entangled : PySem.W.hasDictIn K C_Entangled = true)
    (cl_Entangled : PySem.W.findIn K (.ref C_Entangled) "__class__" = some (some (.builtin "object.__class__")))
    (mo_Entangled : PySem.W.mroIn K C_Entangled (.type "object") = some true)
    (nof_Entangled_first : PySem.W.findIn K (.ref C_Entangled) "first" = some none)
    (nof_Entangled_second : PySem.W.findIn K (.ref C_Entangled) "second" = some none)
    (xl_Entangled : K.lookup C_Entangled = some (excClassObj nm_Entangled q_Entangled C_Entangled N_Entangled bs_Entangled bm_Entangled true sn_Entangled sub_Entangled ab_Entangled col_Entangled dd_Entangled m0_Entangled m1_Entangled m2_Entangled m3_Entangled m5_Entangled "ValueError.__new__"))
    (bmok_Entangled : PySem.HandSPX.refsVE bm_Entangled = true)
    (sa_Entangled : PySem.W.findIn K (.ref C_Entangled) "__setattr__" = some (some (.builtin "object.__setattr__")))
    (kc_Entangled : PySem.W.keepIn K (.ref C_Entangled) = true)
    (in_Entangled : PySem.W.findIn K (.ref C_Entangled) "__init__" = some (some (.ref g_Entangled)))
    (ti_Entangled : PySem.W.typeIn K (.ref g_Entangled) = some (.type "function"))
    (li_Entangled : K.lookup g_Entangled = some ⟨go_Entangled, ge_Entangled, .func (PySem.W.ksFn "__init__" "Entangled.__init__" (C8.fnArgs s_Entangled___init__) (C8.fnBody s_Entangled___init__) (C8.fnScope s_Entangled___init__) .none gk_Entangled gd_Entangled gp_Entangled gn_Entangled (.ref cda_Entangled) gt_Entangled cc_Entangled), gs_Entangled⟩)
    (ci_Entangled : PySem.W.codeIn K (.ref cda_Entangled) "Entangled.__init__" = true)
    (co_Entangled : K.lookup cda_Entangled = some ⟨u1_Entangled, u3_Entangled, .fields vs_Entangled, u5_Entangled⟩)
    (v2_Entangled : vs_Entangled[2]? = some (.str fl_Entangled tf_Entangled))
    (fl_ok_Entangled : ((PySem.Challenge.rw_mendedtree_k61_swap_lists.prog.main.file : Str) == fl_Entangled) = true)
    (ce_Entangled : K.lookup cc_Entangled = some ⟨u2_Entangled, u4_Entangled, .cell (some (.ref C_Entangled)), u6_Entangled⟩)
    (mr_Entangled : PySem.W.mroIn K C_Entangled (.ref C_Entangled) = some true)
    (al_Entangled : PySem.W.ks_superIn K C_Entangled C_Entangled "__init__" = some (some (.builtin "ValueError.__init__")))
    (a_MendedError : PySem.W.nsIn K mainGlobals "MendedError" = some (some (.ref C_MendedError)))
    (ic_MendedError : PySem.W.isClsIn K C_MendedError = true)
    (tc_MendedError : PySem.W.typeIn K (.ref C_MendedError) = some (.type "type"))
    (z1 : PySem.W.specialIn K (.builtin "object.__class__") "__get__" = some (some (.builtin "getset_descriptor.__get__")))
    (z2 : PySem.W.takesIn K (.builtin "object.__class__") = some true)
    (z_super : PySem.W.nsIn K mainGlobals "super" = some none)
    (z3 : PySem.W.nsIn K cStatics "thirdparty.any" = some none)
    (su_Entangled_EditError : PySem.W.subIn K (.ref C_Entangled) (.ref C_EditError) = some false)
    (su_Entangled_MendedError : PySem.W.subIn K (.ref C_Entangled) (.ref C_MendedError) = some true) :
    ∃ fd : FuncData, (∀ (s : Shared) (v : Value), BindsTo s fd ⟨[v], []⟩ [("script", v)]) ∧ ∀ base : Heap, K.In base → base.Ns mainGlobals mg → FnOk PySem.Challenge.rw_mendedtree_k61_swap_lists.prog w K mg base C8.CX0 7 fa fd ["script"] (sp_law K) := by
  have e := hfa.symm.trans (PySem.W.mg_of X G a_law)
  cases e
  have T : Txt mg := ⟨PySem.W.mg_none_of X G z_ValueError, PySem.W.mg_none_of X G z_abs, PySem.W.mg_none_of X G z_bool, PySem.W.mg_none_of X G z_int, PySem.W.mg_none_of X G z_isinstance, PySem.W.mg_none_of X G z_len, PySem.W.mg_none_of X G z_list, PySem.W.mg_none_of X G z_max, PySem.W.mg_none_of X G z_min, PySem.W.mg_none_of X G z_range, PySem.W.mg_none_of X G z_str, PySem.W.mg_none_of X G z_sum, PySem.W.mg_none_of X G z_tuple⟩
  have F_swap : C8.Def K mg "swap" s_swap f_swap _ := ⟨⟨_, _, _, _, _, _, _, _, _, _, rfl, l_swap, c_swap⟩, PySem.W.mg_of X G a_swap, k_swap⟩
  have b_swap := C8.Fun.binds F_swap.fn rfl (ps := ["first", "second"]) fun _ _ _ _ _ _ us hl => match us, hl with | [_, _], _ => rfl
  have F_swap_lists : C8.Def K mg "swap_lists" s_swap_lists f_swap_lists _ := ⟨⟨_, _, _, _, _, _, _, _, _, _, rfl, l_swap_lists, c_swap_lists⟩, PySem.W.mg_of X G a_swap_lists, k_swap_lists⟩
  have b_swap_lists := C8.Fun.binds F_swap_lists.fn rfl (ps := ["first", "second"]) fun _ _ _ _ _ _ us hl => match us, hl with | [_, _], _ => rfl
  have F_law_reel : C8.Def K mg "_law_reel" s_law_reel f_law_reel _ := ⟨⟨_, _, _, _, _, _, _, _, _, _, rfl, l_law_reel, c_law_reel⟩, PySem.W.mg_of X G a_law_reel, k_law_reel⟩
  have b_law_reel := C8.Fun.binds F_law_reel.fn rfl (ps := ["script"]) fun _ _ _ _ _ _ us hl => match us, hl with | [_], _ => rfl
  have F_law_draw : C8.Def K mg "_law_draw" s_law_draw f_law_draw _ := ⟨⟨_, _, _, _, _, _, _, _, _, _, rfl, l_law_draw, c_law_draw⟩, PySem.W.mg_of X G a_law_draw, k_law_draw⟩
  have b_law_draw := C8.Fun.binds F_law_draw.fn rfl (ps := ["reel", "size"]) fun _ _ _ _ _ _ us hl => match us, hl with | [_, _], _ => rfl
  have F_law_pick : C8.Def K mg "_law_pick" s_law_pick f_law_pick _ := ⟨⟨_, _, _, _, _, _, _, _, _, _, rfl, l_law_pick, c_law_pick⟩, PySem.W.mg_of X G a_law_pick, k_law_pick⟩
  have b_law_pick := C8.Fun.binds F_law_pick.fn rfl (ps := ["reel", "row"]) fun _ _ _ _ _ _ us hl => match us, hl with | [_, _], _ => rfl
  have F_law_word : C8.Def K mg "_law_word" s_law_word f_law_word _ := ⟨⟨_, _, _, _, _, _, _, _, _, _, rfl, l_law_word, c_law_word⟩, PySem.W.mg_of X G a_law_word, k_law_word⟩
  have b_law_word := C8.Fun.binds F_law_word.fn rfl (ps := ["reel", "letters", "least", "most"]) fun _ _ _ _ _ _ us hl => match us, hl with | [_, _, _, _], _ => rfl
  have F_law_number : C8.Def K mg "_law_number" s_law_number f_law_number _ := ⟨⟨_, _, _, _, _, _, _, _, _, _, rfl, l_law_number, c_law_number⟩, PySem.W.mg_of X G a_law_number, k_law_number⟩
  have b_law_number := C8.Fun.binds F_law_number.fn rfl (ps := ["value"]) fun _ _ _ _ _ _ us hl => match us, hl with | [_], _ => rfl
  have F_law_signs : C8.Def K mg "_law_signs" s_law_signs f_law_signs _ := ⟨⟨_, _, _, _, _, _, _, _, _, _, rfl, l_law_signs, c_law_signs⟩, PySem.W.mg_of X G a_law_signs, k_law_signs⟩
  have b_law_signs := C8.Fun.binds F_law_signs.fn rfl (ps := []) fun _ _ _ _ _ _ us hl => match us, hl with | [], _ => rfl
  have F_law_stepped : C8.Def K mg "_law_stepped" s_law_stepped f_law_stepped _ := ⟨⟨_, _, _, _, _, _, _, _, _, _, rfl, l_law_stepped, c_law_stepped⟩, PySem.W.mg_of X G a_law_stepped, k_law_stepped⟩
  have b_law_stepped := C8.Fun.binds F_law_stepped.fn rfl (ps := ["reel", "size"]) fun _ _ _ _ _ _ us hl => match us, hl with | [_, _], _ => rfl
  have F_law_new : C8.Def K mg "_law_new" s_law_new f_law_new _ := ⟨⟨_, _, _, _, _, _, _, _, _, _, rfl, l_law_new, c_law_new⟩, PySem.W.mg_of X G a_law_new, k_law_new⟩
  have b_law_new := C8.Fun.binds F_law_new.fn rfl (ps := ["reel"]) fun _ _ _ _ _ _ us hl => match us, hl with | [_], _ => rfl
  have F_law_edit_row : C8.Def K mg "_law_edit_row" s_law_edit_row f_law_edit_row _ := ⟨⟨_, _, _, _, _, _, _, _, _, _, rfl, l_law_edit_row, c_law_edit_row⟩, PySem.W.mg_of X G a_law_edit_row, k_law_edit_row⟩
  have b_law_edit_row := C8.Fun.binds F_law_edit_row.fn rfl (ps := ["reel", "text", "count"]) fun _ _ _ _ _ _ us hl => match us, hl with | [_, _, _], _ => rfl
  have F_law_splice : C8.Def K mg "_law_splice" s_law_splice f_law_splice _ := ⟨⟨_, _, _, _, _, _, _, _, _, _, rfl, l_law_splice, c_law_splice⟩, PySem.W.mg_of X G a_law_splice, k_law_splice⟩
  have b_law_splice := C8.Fun.binds F_law_splice.fn rfl (ps := ["text", "edits"]) fun _ _ _ _ _ _ us hl => match us, hl with | [_, _], _ => rfl
  have F_law_same_edit : C8.Def K mg "_law_same_edit" s_law_same_edit f_law_same_edit _ := ⟨⟨_, _, _, _, _, _, _, _, _, _, rfl, l_law_same_edit, c_law_same_edit⟩, PySem.W.mg_of X G a_law_same_edit, k_law_same_edit⟩
  have b_law_same_edit := C8.Fun.binds F_law_same_edit.fn rfl (ps := ["told", "due"]) fun _ _ _ _ _ _ us hl => match us, hl with | [_, _], _ => rfl
  have F_law_same_edits : C8.Def K mg "_law_same_edits" s_law_same_edits f_law_same_edits _ := ⟨⟨_, _, _, _, _, _, _, _, _, _, rfl, l_law_same_edits, c_law_same_edits⟩, PySem.W.mg_of X G a_law_same_edits, k_law_same_edits⟩
  have b_law_same_edits := C8.Fun.binds F_law_same_edits.fn rfl (ps := ["told", "due"]) fun _ _ _ _ _ _ us hl => match us, hl with | [_, _], _ => rfl
  have F_law_exchanged : C8.Def K mg "_law_exchanged" s_law_exchanged f_law_exchanged _ := ⟨⟨_, _, _, _, _, _, _, _, _, _, rfl, l_law_exchanged, c_law_exchanged⟩, PySem.W.mg_of X G a_law_exchanged, k_law_exchanged⟩
  have b_law_exchanged := C8.Fun.binds F_law_exchanged.fn rfl (ps := ["first", "second"]) fun _ _ _ _ _ _ us hl => match us, hl with | [_, _], _ => rfl
  have F_law_due : C8.Def K mg "_law_due" s_law_due f_law_due _ := ⟨⟨_, _, _, _, _, _, _, _, _, _, rfl, l_law_due, c_law_due⟩, PySem.W.mg_of X G a_law_due, k_law_due⟩
  have b_law_due := C8.Fun.binds F_law_due.fn rfl (ps := ["first", "second"]) fun _ _ _ _ _ _ us hl => match us, hl with | [_, _], _ => rfl
  have F_law_told : C8.Def K mg "_law_told" s_law_told f_law_told _ := ⟨⟨_, _, _, _, _, _, _, _, _, _, rfl, l_law_told, c_law_told⟩, PySem.W.mg_of X G a_law_told, k_law_told⟩
  have b_law_told := C8.Fun.binds F_law_told.fn rfl (ps := ["first", "second"]) fun _ _ _ _ _ _ us hl => match us, hl with | [_, _], _ => rfl
  have F_law_numbered : C8.Def K mg "_law_numbered" s_law_numbered f_law_numbered _ := ⟨⟨_, _, _, _, _, _, _, _, _, _, rfl, l_law_numbered, c_law_numbered⟩, PySem.W.mg_of X G a_law_numbered, k_law_numbered⟩
  have b_law_numbered := C8.Fun.binds F_law_numbered.fn rfl (ps := ["row", "edits", "base"]) fun _ _ _ _ _ _ us hl => match us, hl with | [_, _, _], _ => rfl
  have F_law_lists_ok : C8.Def K mg "_law_lists_ok" s_law_lists_ok f_law_lists_ok _ := ⟨⟨_, _, _, _, _, _, _, _, _, _, rfl, l_law_lists_ok, c_law_lists_ok⟩, PySem.W.mg_of X G a_law_lists_ok, k_law_lists_ok⟩
  have b_law_lists_ok := C8.Fun.binds F_law_lists_ok.fn rfl (ps := ["told", "due"]) fun _ _ _ _ _ _ us hl => match us, hl with | [_, _], _ => rfl
  have F_law_same_row : C8.Def K mg "_law_same_row" s_law_same_row f_law_same_row _ := ⟨⟨_, _, _, _, _, _, _, _, _, _, rfl, l_law_same_row, c_law_same_row⟩, PySem.W.mg_of X G a_law_same_row, k_law_same_row⟩
  have b_law_same_row := C8.Fun.binds F_law_same_row.fn rfl (ps := ["size", "first", "second", "due"]) fun _ _ _ _ _ _ us hl => match us, hl with | [_, _, _, _], _ => rfl
  have F_law_asked : C8.Def K mg "_law_asked" s_law_asked f_law_asked _ := ⟨⟨_, _, _, _, _, _, _, _, _, _, rfl, l_law_asked, c_law_asked⟩, PySem.W.mg_of X G a_law_asked, k_law_asked⟩
  have b_law_asked := C8.Fun.binds F_law_asked.fn rfl (ps := ["size", "first", "second"]) fun _ _ _ _ _ _ us hl => match us, hl with | [_, _, _], _ => rfl
  have F_law_moved : C8.Def K mg "_law_moved" s_law_moved f_law_moved _ := ⟨⟨_, _, _, _, _, _, _, _, _, _, rfl, l_law_moved, c_law_moved⟩, PySem.W.mg_of X G a_law_moved, k_law_moved⟩
  have b_law_moved := C8.Fun.binds F_law_moved.fn rfl (ps := ["edits", "by"]) fun _ _ _ _ _ _ us hl => match us, hl with | [_, _], _ => rfl
  have F_law : C8.Def K mg "law" s_law _ _ := ⟨⟨_, _, _, _, _, _, _, _, _, _, rfl, l_law, c_law⟩, PySem.W.mg_of X G a_law, k_law⟩
  have x_Entangled : ExcK K C_Entangled := ⟨ic_Entangled, ga_Entangled, gg_Entangled, be_Entangled, cl_Entangled, z1, z2, mo_Entangled⟩
  have f_Entangled : XfC K C_Entangled := ⟨ga_Entangled, gg_Entangled, be_Entangled, hd_Entangled⟩
  have o_Entangled : OexC K C_Entangled := ⟨⟨_, _, _, _, _, _, _, _, _, _, _, _, _, _, _, xl_Entangled, bmok_Entangled⟩, sa_Entangled, be_Entangled, tc_Entangled, kc_Entangled⟩
  have u_Entangled : SupC PySem.Challenge.rw_mendedtree_k61_swap_lists.prog K mg C_Entangled cda_Entangled cc_Entangled := ⟨o_Entangled, ⟨_, _, _, _, _, _, co_Entangled, v2_Entangled, fl_ok_Entangled⟩, ⟨_, _, _, ce_Entangled⟩, mr_Entangled, PySem.W.mg_none_of X G z_super, z3, al_Entangled, sv_Entangled, top_super⟩
  refine ⟨PySem.W.fnOf "law" "law" (C8.fnArgs s_law) (C8.fnBody s_law) (C8.fnScope s_law) .none kV_law dc_law pm_law an_law cd_law ct_law, fun s v => .of_eq rfl, fun base _ _ => ?_⟩
  have c_Entangled := init_Entangled (P := PySem.Challenge.rw_mendedtree_k61_swap_lists.prog) (w := w) (base := base) T li_Entangled ci_Entangled u_Entangled in_Entangled ti_Entangled (PySem.W.mg_of X G a_Entangled) nof_Entangled_first nof_Entangled_second
  have c_law_reel := cal_law_reel (P := PySem.Challenge.rw_mendedtree_k61_swap_lists.prog) (w := w) (base := base) T F_law_reel b_law_reel
  have c_law_draw := cal_law_draw (P := PySem.Challenge.rw_mendedtree_k61_swap_lists.prog) (w := w) (base := base) T F_law_draw b_law_draw
  have c_law_pick := cal_law_pick (P := PySem.Challenge.rw_mendedtree_k61_swap_lists.prog) (w := w) (base := base) T F_law_pick b_law_pick c_law_draw
  have c_law_signs := cal_law_signs (P := PySem.Challenge.rw_mendedtree_k61_swap_lists.prog) (w := w) (base := base) T F_law_signs b_law_signs
  have c_law_stepped := cal_law_stepped (P := PySem.Challenge.rw_mendedtree_k61_swap_lists.prog) (w := w) (base := base) T F_law_stepped b_law_stepped c_law_pick c_law_draw c_law_signs
  have c_law_word := cal_law_word (P := PySem.Challenge.rw_mendedtree_k61_swap_lists.prog) (w := w) (base := base) T F_law_word b_law_word c_law_pick c_law_draw
  have c_law_new := cal_law_new (P := PySem.Challenge.rw_mendedtree_k61_swap_lists.prog) (w := w) (base := base) T F_law_new b_law_new c_law_pick c_law_word c_law_draw c_law_stepped c_law_signs
  have c_law_edit_row := cal_law_edit_row (P := PySem.Challenge.rw_mendedtree_k61_swap_lists.prog) (w := w) (base := base) T F_law_edit_row b_law_edit_row c_law_draw c_law_new c_law_pick
  have c_law_exchanged := cal_law_exchanged (P := PySem.Challenge.rw_mendedtree_k61_swap_lists.prog) (w := w) (base := base) T F_law_exchanged b_law_exchanged
  have c_law_due := cal_law_due (P := PySem.Challenge.rw_mendedtree_k61_swap_lists.prog) (w := w) (base := base) T F_law_due b_law_due c_law_exchanged
  have c_swap := cal_swap (P := PySem.Challenge.rw_mendedtree_k61_swap_lists.prog) (w := w) (base := base) T F_swap b_swap c_Entangled
  have c_swap_lists := cal_swap_lists (P := PySem.Challenge.rw_mendedtree_k61_swap_lists.prog) (w := w) (base := base) T F_swap_lists b_swap_lists c_swap
  have c_law_told := cal_law_told (P := PySem.Challenge.rw_mendedtree_k61_swap_lists.prog) (w := w) (base := base) T F_law_told b_law_told c_swap_lists (PySem.W.mg_of X G a_Entangled) (PySem.W.mg_of X G a_MendedError) (PySem.W.mg_of X G a_EditError) (x_Entangled) (f_Entangled) (nof_Entangled_first) (nof_Entangled_second) (exm_self be_Entangled ic_Entangled tc_Entangled ss_Entangled) (kit_ref ic_MendedError tc_MendedError su_Entangled_MendedError ss_Entangled) (kit_tyV sv_Entangled) (kit_ref ic_EditError tc_EditError su_Entangled_EditError ss_Entangled)
  have c_law_number := cal_law_number (P := PySem.Challenge.rw_mendedtree_k61_swap_lists.prog) (w := w) (base := base) T F_law_number b_law_number
  have c_law_same_edit := cal_law_same_edit (P := PySem.Challenge.rw_mendedtree_k61_swap_lists.prog) (w := w) (base := base) T F_law_same_edit b_law_same_edit c_law_number
  have c_law_same_edits := cal_law_same_edits (P := PySem.Challenge.rw_mendedtree_k61_swap_lists.prog) (w := w) (base := base) T F_law_same_edits b_law_same_edits c_law_same_edit
  have c_law_lists_ok := cal_law_lists_ok (P := PySem.Challenge.rw_mendedtree_k61_swap_lists.prog) (w := w) (base := base) T F_law_lists_ok b_law_lists_ok c_law_same_edits
  have c_law_numbered := cal_law_numbered (P := PySem.Challenge.rw_mendedtree_k61_swap_lists.prog) (w := w) (base := base) T F_law_numbered b_law_numbered
  have c_law_same_row := cal_law_same_row (P := PySem.Challenge.rw_mendedtree_k61_swap_lists.prog) (w := w) (base := base) T F_law_same_row b_law_same_row c_law_numbered
  have c_law_asked := cal_law_asked (P := PySem.Challenge.rw_mendedtree_k61_swap_lists.prog) (w := w) (base := base) T F_law_asked b_law_asked c_law_due c_law_told c_law_lists_ok c_swap_lists c_law_same_edit c_law_same_row
  have c_law_splice := cal_law_splice (P := PySem.Challenge.rw_mendedtree_k61_swap_lists.prog) (w := w) (base := base) T F_law_splice b_law_splice
  have c_law_moved := cal_law_moved (P := PySem.Challenge.rw_mendedtree_k61_swap_lists.prog) (w := w) (base := base) T F_law_moved b_law_moved
  exact fn_law (P := PySem.Challenge.rw_mendedtree_k61_swap_lists.prog) (w := w) (base := base) T F_law c_law_reel c_law_draw c_law_stepped c_law_pick c_law_edit_row c_law_asked c_law_splice c_law_moved
theorem walk {q : Program} {loose : List Str} {XP : (Str → Option Value) → Heap → Prop} {YP : World → Heap → Prop} {d : DefRec} {K : Params → PySem.W.Frag} (hn : PySem.Challenge.rw_mendedtree_k61_swap_lists.most = some 63) (hdf : d.params.defaults = [])
    (hY : ∀ (w : World) (h : Heap), YP w h → (K w.params).In h)
    (F : ∀ (w : World) (mg : Str → Option Value) (fa : Addr) (h : Heap), (K w.params).In h → h.Ns mainGlobals mg → mg d.name = some (.ref fa) →
      ∃ fd : FuncData, (∀ (s : Shared) (u : Value), BindsTo s fd ⟨[u], []⟩ [("script", u)]) ∧ ∀ base : Heap, (K w.params).In base → base.Ns mainGlobals mg → FnOk PySem.Challenge.rw_mendedtree_k61_swap_lists.prog w (K w.params) mg base C8.CX0 7 fa fd ["script"] (sp_law (K w.params))) :
    PySem.W.WalkO q loose XP YP PySem.Challenge.rw_mendedtree_k61_swap_lists.row.toRowW d [] (fun f vs => PySem.call f vs) :=
  L2.walk_of (l := PySem.Challenge.rw_mendedtree_k61_swap_lists) (n := 63) (k := 7) (x := "script") (CX := fun _ => C8.CX0) (sp := fun w => sp_law (K w.params)) hn (by decide) hdf ⟨rfl, by decide, by decide⟩ hY F (fun _ _ a ns hl _ hS => ⟨a, ns, rfl, hS, hl, fun _ => rfl⟩) fun _ _ _ _ _ z => z
end Z
open PySem PySem.W PyProof.Rows in
set_option maxRecDepth 100000 in
set_option maxHeartbeats 0 in
theorem PySem.Challenge.cw_mendedtree_k61_swap_lists_holds : PySem.Challenge.rw_mendedtree_k61_swap_lists.Holds := by
  w_on; o_law; k_head; (case hw => w_witness2)
  k_fill
  refine Z.walk rfl rfl (fun w h Y => PySem.W.kIn_of Y) ?F
  case F =>
    intro w mg fa h KX G hmg
    refine' Z.all_mk KX G hmg ?z_ValueError ?z_abs ?z_bool ?z_int ?z_isinstance ?z_len ?z_list ?z_max ?z_min ?z_range ?z_str ?z_sum ?z_tuple ?a_swap ?l_swap ?c_swap ?k_swap ?a_swap_lists ?l_swap_lists ?c_swap_lists ?k_swap_lists ?a_law_reel ?l_law_reel ?c_law_reel ?k_law_reel ?a_law_draw ?l_law_draw ?c_law_draw ?k_law_draw ?a_law_pick ?l_law_pick ?c_law_pick ?k_law_pick ?a_law_word ?l_law_word ?c_law_word ?k_law_word ?a_law_number ?l_law_number ?c_law_number ?k_law_number ?a_law_signs ?l_law_signs ?c_law_signs ?k_law_signs ?a_law_stepped ?l_law_stepped ?c_law_stepped ?k_law_stepped ?a_law_new ?l_law_new ?c_law_new ?k_law_new ?a_law_edit_row ?l_law_edit_row ?c_law_edit_row ?k_law_edit_row ?a_law_splice ?l_law_splice ?c_law_splice ?k_law_splice ?a_law_same_edit ?l_law_same_edit ?c_law_same_edit ?k_law_same_edit ?a_law_same_edits ?l_law_same_edits ?c_law_same_edits ?k_law_same_edits ?a_law_exchanged ?l_law_exchanged ?c_law_exchanged ?k_law_exchanged ?a_law_due ?l_law_due ?c_law_due ?k_law_due ?a_law_told ?l_law_told ?c_law_told ?k_law_told ?a_law_numbered ?l_law_numbered ?c_law_numbered ?k_law_numbered ?a_law_lists_ok ?l_law_lists_ok ?c_law_lists_ok ?k_law_lists_ok ?a_law_same_row ?l_law_same_row ?c_law_same_row ?k_law_same_row ?a_law_asked ?l_law_asked ?c_law_asked ?k_law_asked ?a_law_moved ?l_law_moved ?c_law_moved ?k_law_moved ?a_law ?l_law ?c_law ?k_law ?a_EditError ?ic_EditError ?tc_EditError ?a_Entangled ?ic_Entangled ?tc_Entangled ?be_Entangled ?ss_Entangled ?sv_Entangled ?ga_Entangled ?gg_Entangled ?hd_Entangled ?cl_Entangled ?mo_Entangled ?nof_Entangled_first ?nof_Entangled_second ?xl_Entangled ?bmok_Entangled ?sa_Entangled ?kc_Entangled ?in_Entangled ?ti_Entangled ?li_Entangled ?ci_Entangled ?co_Entangled ?v2_Entangled ?fl_ok_Entangled ?ce_Entangled ?mr_Entangled ?al_Entangled ?a_MendedError ?ic_MendedError ?tc_MendedError ?z1 ?z2 ?z_super ?z3 ?su_Entangled_EditError ?su_Entangled_MendedError
    (case z_ValueError => k_is)
    (case z_abs => k_is)
    (case z_bool => k_is)
    (case z_int => k_is)
    (case z_isinstance => k_is)
    (case z_len => k_is)
    (case z_list => k_is)
    (case z_max => k_is)
    (case z_min => k_is)
    (case z_range => k_is)
    (case z_str => k_is)
    (case z_sum => k_is)
    (case z_tuple => k_is)
    (case a_swap => k_is)
    (case l_swap => k_is)
    (case c_swap => k_is)
    (case k_swap => k_is)
    (case a_swap_lists => k_is)
    (case l_swap_lists => k_is)
    (case c_swap_lists => k_is)
    (case k_swap_lists => k_is)
    (case a_law_reel => k_is)
    (case l_law_reel => k_is)
    (case c_law_reel => k_is)
    (case k_law_reel => k_is)
    (case a_law_draw => k_is)
    (case l_law_draw => k_is)
    (case c_law_draw => k_is)
    (case k_law_draw => k_is)
    (case a_law_pick => k_is)
    (case l_law_pick => k_is)
    (case c_law_pick => k_is)
    (case k_law_pick => k_is)
    (case a_law_word => k_is)
    (case l_law_word => k_is)
    (case c_law_word => k_is)
    (case k_law_word => k_is)
    (case a_law_number => k_is)
    (case l_law_number => k_is)
    (case c_law_number => k_is)
    (case k_law_number => k_is)
    (case a_law_signs => k_is)
    (case l_law_signs => k_is)
    (case c_law_signs => k_is)
    (case k_law_signs => k_is)
    (case a_law_stepped => k_is)
    (case l_law_stepped => k_is)
    (case c_law_stepped => k_is)
    (case k_law_stepped => k_is)
    (case a_law_new => k_is)
    (case l_law_new => k_is)
    (case c_law_new => k_is)
    (case k_law_new => k_is)
    (case a_law_edit_row => k_is)
    (case l_law_edit_row => k_is)
    (case c_law_edit_row => k_is)
    (case k_law_edit_row => k_is)
    (case a_law_splice => k_is)
    (case l_law_splice => k_is)
    (case c_law_splice => k_is)
    (case k_law_splice => k_is)
    (case a_law_same_edit => k_is)
    (case l_law_same_edit => k_is)
    (case c_law_same_edit => k_is)
    (case k_law_same_edit => k_is)
    (case a_law_same_edits => k_is)
    (case l_law_same_edits => k_is)
    (case c_law_same_edits => k_is)
    (case k_law_same_edits => k_is)
    (case a_law_exchanged => k_is)
    (case l_law_exchanged => k_is)
    (case c_law_exchanged => k_is)
    (case k_law_exchanged => k_is)
    (case a_law_due => k_is)
    (case l_law_due => k_is)
    (case c_law_due => k_is)
    (case k_law_due => k_is)
    (case a_law_told => k_is)
    (case l_law_told => k_is)
    (case c_law_told => k_is)
    (case k_law_told => k_is)
    (case a_law_numbered => k_is)
    (case l_law_numbered => k_is)
    (case c_law_numbered => k_is)
    (case k_law_numbered => k_is)
    (case a_law_lists_ok => k_is)
    (case l_law_lists_ok => k_is)
    (case c_law_lists_ok => k_is)
    (case k_law_lists_ok => k_is)
    (case a_law_same_row => k_is)
    (case l_law_same_row => k_is)
    (case c_law_same_row => k_is)
    (case k_law_same_row => k_is)
    (case a_law_asked => k_is)
    (case l_law_asked => k_is)
    (case c_law_asked => k_is)
    (case k_law_asked => k_is)
    (case a_law_moved => k_is)
    (case l_law_moved => k_is)
    (case c_law_moved => k_is)
    (case k_law_moved => k_is)
    (case a_law => k_is)
    (case l_law => k_is)
    (case c_law => k_is)
    (case k_law => k_is)
    (case a_EditError => k_is)
    (case ic_EditError => k_is)
    (case tc_EditError => k_is)
    (case a_Entangled => k_is)
    (case ic_Entangled => k_is)
    (case tc_Entangled => k_is)
    (case be_Entangled => k_is)
    (case ss_Entangled => first | rfl | k_is)
    (case sv_Entangled => k_is)
    (case ga_Entangled => k_is)
    (case gg_Entangled => k_is)
    (case hd_Entangled => k_is)
    (case cl_Entangled => k_is)
    (case mo_Entangled => k_is)
    (case nof_Entangled_first => k_is)
    (case nof_Entangled_second => k_is)
    (case xl_Entangled => k_is)
    (case bmok_Entangled => first | rfl | decide +kernel)
    (case sa_Entangled => k_is)
    (case kc_Entangled => k_is)
    (case in_Entangled => k_is)
    (case ti_Entangled => k_is)
    (case li_Entangled => k_is)
    (case ci_Entangled => k_is)
    (case co_Entangled => k_is)
    (case v2_Entangled => rfl)
    (case fl_ok_Entangled => first | rfl | decide +kernel)
    (case ce_Entangled => k_is)
    (case mr_Entangled => k_is)
    (case al_Entangled => ks_is)
    (case a_MendedError => k_is)
    (case ic_MendedError => k_is)
    (case tc_MendedError => k_is)
    (case z1 => k_is)
    (case z2 => k_is)
    (case z_super => k_is)
    (case z3 => k_is)
    (case su_Entangled_EditError => k_is)
    (case su_Entangled_MendedError => k_is)
