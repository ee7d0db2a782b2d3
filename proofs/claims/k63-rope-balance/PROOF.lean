import PyProof.Rows.All
import Wide.All
import OpenK.AllK
import Wide.FinOn
import HandS.ForMost
import HandS.Codes
import HandS.Steps
import HandS.Style
import HandS.TupAny
import HandS.Conv
import HandS.IsInst
import HandS.Flow
import HandS.ForExc
import HandS.ExcInit
import HandS.ExcField
import KE.KExcSuper
import HandS.WordsExc
import KE.KExcIs
import HandS.FStrTup
import HandS.Iter
import HandS.IterVal
import HandS.OwnIter
import OpenK.KMeth
import KE.KOpsOwn
import HandS.ClsMeth
import HandS.SortInts
import PyProof.NeKinds
import PySem.Challenge.RW_mendedtree_k63_rope_balance
set_option Elab.async false
set_option linter.all false
set_option maxRecDepth 100000
set_option maxHeartbeats 4000000
namespace Z
open PySem PySem.Spec L2

/-! ## heaps: what stays -/
/-- all that was tracked stands, but the list at l, which may be another one -/
structure SL (l : Addr) (H H' : Hp) : Prop where
  was : ∃ xs, H l = some (.lst xs)
  is : ∃ xs, H' l = some (.lst xs)
  keep : ∀ a o, a ≠ l → H a = some o → H' a = some o
theorem SL.refl {l : Addr} {H : Hp} {xs : List V} (h : H l = some (.lst xs)) : SL l H H := ⟨⟨_, h⟩, ⟨_, h⟩, fun _ _ _ e => e⟩
theorem SL.trans {l : Addr} {H H1 H2 : Hp} (a : SL l H H1) (b : SL l H1 H2) : SL l H H2 := ⟨a.was, b.is, fun x o n e => b.keep x o n (a.keep x o n e)⟩
theorem Same.at {H H' : Hp} {a : Addr} {o : HO} (s : Same H H') (h : H a = some o) : H' a = some o := s a o h
theorem SL.at {l : Addr} {H H' : Hp} {a : Addr} {o : HO} (s : SL l H H') (n : a ≠ l) (h : H a = some o) : H' a = some o := s.keep a o n h
theorem SL.tup {l p : Addr} {H H' : Hp} {ys : List V} (s : SL l H H') (h : H p = some (.tup ys)) : H' p = some (.tup ys) := by
  obtain ⟨xs, e⟩ := s.was
  exact s.keep p _ (ne_of h e (fun q => nomatch q)) h
theorem SL.frz {l p : Addr} {H H' : Hp} {ob : Obj} {u : HO} (s : SL l H H') (h : H p = some (.frz ob u)) : H' p = some (.frz ob u) := by
  obtain ⟨xs, e⟩ := s.was
  exact s.keep p _ (ne_of h e (fun q => nomatch q)) h
/-- the list at l was made behind H0 -/
theorem SL.same {l : Addr} {H0 H H' : Hp} (s0 : Same H0 H) (s : SL l H H') (n : H0 l = none) : Same H0 H' := fun a o e => s.keep a o (ne_of_none e n) (s0 a o e)
theorem Same.sl {l : Addr} {H H' : Hp} {xs : List V} (h : H l = some (.lst xs)) (s : Same H H') : SL l H H' := ⟨⟨_, h⟩, ⟨_, s _ _ h⟩, fun a o _ e => s a o e⟩
theorem SL.more {l : Addr} {H0 H H' : Hp} (s0 : SL l H0 H) (s : Same H H') : SL l H0 H' := ⟨s0.was, s0.is.imp fun _ e => s _ _ e, fun a o n e => s a o (s0.keep a o n e)⟩
theorem SL.two {l m : Addr} {H0 H H' : Hp} (s0 : SL m H0 H) (s : SL l H H') (n : H0 l = none) : SL m H0 H' := by
  obtain ⟨xs, e0⟩ := s0.was
  obtain ⟨ys, e1⟩ := s0.is
  exact ⟨s0.was, ⟨ys, s.keep m _ (ne_of_none e0 n) e1⟩, fun a o q e => s.keep a o (ne_of_none e n) (s0.keep a o q e)⟩
theorem Same.fre {H H' : Hp} {l : Addr} (e : Same H H') (h : H' l = Option.none) : H l = Option.none := e.free h
theorem SL.fre {H H' : Hp} {l m : Addr} (e : SL m H H') (h : H' l = Option.none) : H l = Option.none := by
  cases q : H l with
  | none => rfl
  | some o =>
    by_cases c : l = m
    · obtain ⟨xs, e1⟩ := e.is
      rw [c, e1] at h
      cases h
    · rw [e.keep l o c q] at h
      cases h
/-- a new object: its address, the heap behind it -/
def newO (o : HO) (H : Hp) (Q : VK) : Prop := ∀ p, H p = none → Q (.ref p) (upd H p o)
/-- p is new to H -/
def Frs (H : Hp) (p : Addr) : Prop := H p = none
theorem Frs.ne {H : Hp} {p a : Addr} {u : HO} (f : Frs H p) (h : H a = some u) : a ≠ p := ne_of_none h f
theorem Frs.ne' {H : Hp} {p a : Addr} {u : HO} (f : Frs H p) (h : H a = some u) : p ≠ a := (ne_of_none h f).symm
theorem newO_gen {o : HO} {H : Hp} {Q : VK} (h : ∀ (p : Addr) (H' : Hp), Frs H p → Same H H' → H' p = some o → Q (.ref p) H') : newO o H Q := fun p hp =>
  h p _ hp (fun b u e => by rw [upd_ne (ne_of_none e hp)]; exact e) upd_same
/-- a list that is written -/
def putO (l : Addr) (xs : List V) (H : Hp) (Q : Hp → Prop) : Prop := Q (upd H l (.lst xs))
theorem putO_gen {l : Addr} {xs ys : List V} {H : Hp} {Q : Hp → Prop} (hw : H l = some (.lst ys)) (h : ∀ H' : Hp, SL l H H' → H' l = some (.lst xs) → Q H') : putO l xs H Q :=
  h _ ⟨⟨_, hw⟩, ⟨_, upd_same⟩, fun a u n e => by rw [upd_ne n]; exact e⟩ upd_same

/-! ## statements -/
section
variable {t u : TS} {nx : L2.St → Hp → Prop} {rt : VK} {bk ct : L2.St → Hp → Prop} {σ : L2.St} {H : Hp} {te ta tb : TE} {c tA tB' : TT} {i : Nat} {Q : VK} {QT : Bool → Hp → Prop}
theorem rSeq (h : t ⟨u ⟨nx, rt, bk, ct⟩, rt, bk, ct⟩ σ H) : tSeq t u ⟨nx, rt, bk, ct⟩ σ H := h
theorem rCut (Mid : L2.St → Hp → Prop) (h : t ⟨Mid, rt, bk, ct⟩ σ H) (h2 : ∀ σ' H', Mid σ' H' → u ⟨nx, rt, bk, ct⟩ σ' H') : C8.tCut t u ⟨nx, rt, bk, ct⟩ σ H := ⟨Mid, h, h2⟩
theorem rNext (h : nx σ H) : tNext ⟨nx, rt, bk, ct⟩ σ H := h
theorem rBrk (h : bk σ H) : tBreak ⟨nx, rt, bk, ct⟩ σ H := h
theorem rCnt (h : ct σ H) : tCont ⟨nx, rt, bk, ct⟩ σ H := h
theorem rDrop (h : te σ H (fun _ H1 => nx σ H1)) : tDrop te ⟨nx, rt, bk, ct⟩ σ H := h
theorem rRet (h : te σ H rt) : tRet te ⟨nx, rt, bk, ct⟩ σ H := h
theorem rRetN (h : rt .non H) : tRetN ⟨nx, rt, bk, ct⟩ σ H := h
theorem rIfS (h : c σ H (fun b H1 => if b = true then t ⟨nx, rt, bk, ct⟩ σ H1 else u ⟨nx, rt, bk, ct⟩ σ H1)) : tIfS c t u ⟨nx, rt, bk, ct⟩ σ H := h
theorem rAsgN (h : te σ H (fun x H1 => nx (σ.set i (some x)) H1)) : tAsg te (gName i) ⟨nx, rt, bk, ct⟩ σ H := h
theorem rAsgT {K : PySem.W.Frag} {n : Nat} {gs : TGs} (h : te σ H (fun x H1 => gTup K n gs x σ H1 nx)) : tAsg te (gTup K n gs) ⟨nx, rt, bk, ct⟩ σ H := h
theorem rAsgS {r : TSet} (h : te σ H (fun x H1 => ta σ H1 fun o H2 => tb σ H2 fun k H3 => r o k x H3 fun H4 => nx σ H4)) : tAsg te (gSub ta tb r) ⟨nx, rt, bk, ct⟩ σ H := h
/-! expressions -/
theorem rVar {v : V} (hi : σ[i]? = some (some v)) (h : Q v H) : tVar i σ H Q := ⟨v, hi, h⟩
theorem rC {v : V} (h : Q v H) : tC v σ H Q := h
theorem rOp {r : R2} (h : ta σ H fun x H1 => tb σ H1 fun y H2 => r x y H2 Q) : tOp r ta tb σ H Q := h
theorem rUn {r : V → Hp → VK → Prop} (h : ta σ H fun x H1 => r x H1 Q) : tUn r ta σ H Q := h
theorem rChain {r r' : R2} {tc : TE} (h : ta σ H fun x H1 => tb σ H1 fun y H2 => r x y H2 fun z H3 => ∃ k, z = .bl k ∧ (if k = true then tc σ H3 fun w' H4 => r' y w' H4 Q else Q (.bl false) H3)) : tChain r r' ta tb tc σ H Q := h
theorem rTest (h : te σ H fun x H' => ∃ k, x = .bl k ∧ QT k H') : tTest te σ H QT := h
theorem rB (h : te σ H fun x H' => ∃ k, x = .bl k ∧ QT k H') : tB te σ H QT := h
theorem rBl {b : Bool} {R : Bool → Hp → Prop} (h : R b H) : ∃ k, V.bl b = V.bl k ∧ R k H := ⟨b, rfl, h⟩
theorem rBl' {b : Bool} {R : Bool → Prop} (h : R b) : ∃ k, V.bl b = V.bl k ∧ R k := ⟨b, rfl, h⟩
theorem rAnd (h : c σ H fun b H1 => if b = true then tA σ H1 QT else QT false H1) : tAnd c tA σ H QT := h
theorem rOr (h : c σ H fun b H1 => if b = true then QT true H1 else tA σ H1 QT) : tOr c tA σ H QT := h
theorem rNot (h : c σ H fun b H1 => QT (!b) H1) : tNot c σ H QT := h
theorem rAndV (h : ta σ H fun x H1 => ∃ k, x = .bl k ∧ if k = true then tb σ H1 Q else Q (.bl false) H1) : tAndV ta tb σ H Q := h
theorem rOrV (h : ta σ H fun x H1 => ∃ k, x = .bl k ∧ if k = true then Q (.bl true) H1 else tb σ H1 Q) : tOrV ta tb σ H Q := h
theorem rNotV (h : ta σ H fun x H1 => ∃ k, x = .bl k ∧ Q (.bl (!k)) H1) : tNotV ta σ H Q := h
theorem rIfE (h : c σ H fun b H1 => if b = true then ta σ H1 Q else tb σ H1 Q) : tIf c ta tb σ H Q := h
variable {tas : TA} {QA : List V → Hp → Prop}
theorem rNil (h : QA [] H) : tNil σ H QA := h
theorem rCons (h : ta σ H fun x H1 => tas σ H1 fun xs H2 => QA (x :: xs) H2) : tCons ta tas σ H QA := h
theorem rTup (h : tas σ H fun xs H1 => xs.length ≤ sizeLine ∧ newO (.tup xs) H1 Q) : tTup tas σ H Q := h
theorem rLst (h : tas σ H fun xs H1 => xs.length ≤ sizeLine ∧ newO (.lst xs) H1 Q) : tLst tas σ H Q := h
theorem rCall {sp : Sp} {E : XK} (h : tas σ H fun vs H1 => sp vs H1 Q E) : tCall sp [] E tas σ H Q := by
  have e : (fun vs H1 => sp vs H1 Q E) = fun vs H1 => sp (vs ++ []) H1 Q E := by
    funext vs H1
    rw [List.append_nil]
  show tas σ H fun vs H1 => sp (vs ++ []) H1 Q E
  rw [← e]
  exact h
theorem rCB {r : List V → Hp → VK → Prop} (h : tas σ H fun vs H1 => r vs H1 Q) : tCB r tas σ H Q := h
theorem rBM {K : PySem.W.Frag} {T : String} {r : V → List V → Hp → VK → Prop} (h : ta σ H fun x H1 => tyV K T x H1 ∧ tas σ H1 fun xs H2 => r x xs H2 Q) : tBM K T r ta tas σ H Q := h
theorem rBM0 {K : PySem.W.Frag} {T : String} {r : V → List V → Hp → VK → Prop} (h : ta σ H fun x H1 => tyV K T x H1 ∧ r x [] H1 Q) : tBM0 K T r ta σ H Q := h
theorem rM1 {r : V → List V → Hp → VK → Prop} (h : ta σ H fun x H1 => (∃ a, x = .str a) ∧ tb σ H1 fun y H2 => r x [y] H2 Q) : tM1 r ta tb σ H Q := h
theorem rM0 {r : V → List V → Hp → VK → Prop} (h : ta σ H fun x H1 => (∃ a, x = .str a) ∧ r x [] H1 Q) : tM0 r ta σ H Q := h
theorem rStr {z : Str} {P : Prop} (h : P) : (∃ a, V.str z = V.str a) ∧ P := ⟨⟨_, rfl⟩, h⟩
variable {QO : Option Int → Hp → Prop} {tl th : TO}
theorem rNoPart (h : QO none H) : tNoPart σ H QO := h
theorem rPart (h : ta σ H fun x H1 => ∃ i, x = .int i ∧ QO (some i) H1) : tPart ta σ H QO := h
theorem rInt {i : Int} {R : Int → Hp → Prop} (h : R i H) : ∃ k, V.int i = V.int k ∧ R k H := ⟨i, rfl, h⟩
theorem rInt' {i : Int} {R : Int → Prop} (h : R i) : ∃ k, V.int i = V.int k ∧ R k := ⟨i, rfl, h⟩
theorem rSl {r : V → Option Int → Option Int → Hp → VK → Prop} (h : ta σ H fun x H1 => tl σ H1 fun l H2 => th σ H2 fun u H3 => r x l u H3 Q) : tSl r ta tl th σ H Q := h
/-! targets -/
variable {g : TG} {gs : TGs} {R : L2.St → Hp → Prop} {v : V} {vs : List V}
theorem gN (h : R (σ.set i (some v)) H) : gName i v σ H R := h
theorem gNl (h : R σ H) : gNil [] σ H R := ⟨rfl, h⟩
theorem gC (h : g v σ H fun σ' H' => gs vs σ' H' R) : gCons g gs (v :: vs) σ H R := ⟨v, vs, rfl, h⟩
theorem gT {K : PySem.W.Frag} {n : Nat} {a : Addr} {xs : List V} (ha : H a = some (.tup xs)) (hn : xs.length = n) (h : gs xs σ H R) : gTup K n gs (.ref a) σ H R := ⟨a, xs, rfl, SqT.of ha, hn, h⟩
/-! tests -/
theorem ifT {A B : Prop} (h : A) : if true = true then A else B := by rw [if_pos rfl]; exact h
theorem ifF {A B : Prop} (h : B) : if false = true then A else B := by rw [if_neg Bool.false_ne_true]; exact h
theorem ifNF {A B : Prop} (h : A) : if (!false) = true then A else B := by rw [if_pos (show (!false) = true from rfl)]; exact h
theorem ifNT {A B : Prop} (h : B) : if (!true) = true then A else B := by rw [if_neg (by decide)]; exact h
/-- the answer is known -/
theorem ifDy {p A B : Prop} [Decidable p] (h : p) (h1 : A) : if decide p = true then A else B := by rw [if_pos (decide_eq_true h)]; exact h1
theorem ifDn {p A B : Prop} [Decidable p] (h : ¬ p) (h2 : B) : if decide p = true then A else B := by rw [if_neg (by rw [decide_eq_false h]; exact Bool.false_ne_true)]; exact h2
theorem ifNDy {p A B : Prop} [Decidable p] (h : p) (h2 : B) : if (!decide p) = true then A else B := by rw [if_neg (by rw [decide_eq_true h]; exact Bool.false_ne_true)]; exact h2
theorem ifNDn {p A B : Prop} [Decidable p] (h : ¬ p) (h1 : A) : if (!decide p) = true then A else B := by rw [if_pos (by rw [decide_eq_false h] <;> rfl)]; exact h1
theorem ifD {p A B : Prop} [Decidable p] (h1 : p → A) (h2 : ¬ p → B) : if decide p = true then A else B := by
  by_cases h : p
  · rw [if_pos (decide_eq_true h)]; exact h1 h
  · rw [if_neg (by rw [decide_eq_false h]; exact Bool.false_ne_true)]; exact h2 h
theorem ifND {p A B : Prop} [Decidable p] (h1 : ¬ p → A) (h2 : p → B) : if (!decide p) = true then A else B := by
  by_cases h : p
  · rw [if_neg (by rw [decide_eq_true h]; exact Bool.false_ne_true)]; exact h2 h
  · rw [if_pos (by rw [decide_eq_false h] <;> rfl)]; exact h1 h
theorem ifB {b : Bool} {A B : Prop} (h1 : b = true → A) (h2 : b = false → B) : if b = true then A else B := by
  cases b with
  | true => rw [if_pos rfl]; exact h1 rfl
  | false => rw [if_neg Bool.false_ne_true]; exact h2 rfl
end
end Z
namespace Z
open PySem PySem.Spec L2

/-! ## operators of several kinds of values -/
abbrev SqV (K : PySem.W.Frag) (H : Hp) (p : Addr) (xs : List V) : Prop := SqL K H p xs ∨ SqT K H p xs
def rAddU (K : PySem.W.Frag) : R2 := fun x y H Q => rI0 (fun i j => .int (i + j)) x y H Q ∨ (∃ i j, x = .str i ∧ y = .str j ∧ i.length + j.length ≤ sizeLine ∧ Q (.str (i ++ j)) H) ∨ rCat x y H Q ∨ rCatA K x y H Q
def rSubU : R2 := rI0 fun i j => .int (i - j)
def rMulU : R2 := fun x y H Q => rI CMul (fun i j => .int (i * j)) x y H Q ∨ rRep x y H Q
def rDivU : R2 := rI CDiv fun i j => .int (i / j)
def rModU : R2 := rI (fun _ j => 0 < j) fun i j => .int (i % j)
def rPowU : R2 := rI CPow fun i j => .int (i ^ j.toNat)
def rEqU (K : PySem.W.Frag) : R2 := fun x y H Q => rEq x y H Q ∨ rEqD K x y H Q
def rNeU (K : PySem.W.Frag) : R2 := fun x y H Q => rNe x y H Q ∨ rNeD K x y H Q
def rLtU : R2 := fun x y H Q => rI0 (fun i j => .bl (decide (i < j))) x y H Q ∨ (∃ i j, x = .str i ∧ y = .str j ∧ Q (.bl (decide (i.cps.toList < j.cps.toList))) H)
def rLeU : R2 := fun x y H Q => rI0 (fun i j => .bl (decide (i ≤ j))) x y H Q ∨ (∃ i j, x = .str i ∧ y = .str j ∧ Q (.bl (!decide (j.cps.toList < i.cps.toList))) H)
def rGtU : R2 := fun x y H Q => rI0 (fun i j => .bl (decide (j < i))) x y H Q ∨ (∃ i j, x = .str i ∧ y = .str j ∧ Q (.bl (decide (j.cps.toList < i.cps.toList))) H)
def rGeU : R2 := fun x y H Q => rI0 (fun i j => .bl (decide (j ≤ i))) x y H Q ∨ (∃ i j, x = .str i ∧ y = .str j ∧ Q (.bl (!decide (i.cps.toList < j.cps.toList))) H)
def rInU (K : PySem.W.Frag) (neg : Bool) : R2 := fun x y H Q => (∃ (c : Nat) (z : Str), x = .str ⟨#[c]⟩ ∧ y = .str z ∧ Q (.bl (if neg = true then !decide (c ∈ z.cps.toList) else decide (c ∈ z.cps.toList))) H) ∨ rIn K neg x y H Q
def rIsU (neg : Bool) : R2 := fun x y H Q => (y = .non ∧ Q (.bl (if neg = true then !decide (x = .non) else decide (x = .non))) H) ∨ (∃ a b : Bool, x = .bl a ∧ y = .bl b ∧ Q (.bl (if neg = true then !decide (a = b) else decide (a = b))) H)
def rSlU (K : PySem.W.Frag) : V → Option Int → Option Int → Hp → VK → Prop := fun x lo hi H Q => rSlL K x lo hi H Q ∨ rSlS x lo hi H Q ∨ rSlA K x lo hi H Q
def rLenU (K : PySem.W.Frag) : List V → Hp → VK → Prop := fun xs H Q => (∃ p ys, xs = [.ref p] ∧ (SqL K H p ys ∨ SqT K H p ys) ∧ Q (.int ys.length) H) ∨ (∃ z, xs = [.str z] ∧ z.length ≤ sizeLine ∧ Q (.int z.length) H)
def rIsiU (K : PySem.W.Frag) : List V → Hp → VK → Prop := fun xs H Q => rIsi K xs H Q ∨ rIsiT K xs H Q
def rAbs : List V → Hp → VK → Prop := fun xs H Q => ∃ i, xs = [.int i] ∧ Q (.int (if i < 0 then -i else i)) H
def rMax2 : List V → Hp → VK → Prop := fun xs H Q => ∃ i j, xs = [.int i, .int j] ∧ Q (.int (if j > i then j else i)) H
def rMin2 : List V → Hp → VK → Prop := fun xs H Q => ∃ i j, xs = [.int i, .int j] ∧ Q (.int (if j < i then j else i)) H
def rInt1 : List V → Hp → VK → Prop := fun xs H Q => (∃ i, xs = [.int i] ∧ Q (.int i) H) ∨ ∃ k, xs = [.bl k] ∧ Q (.int (if k then 1 else 0)) H
def rStrI : List V → Hp → VK → Prop := fun xs H Q => ∃ i, xs = [.int i] ∧ i.natAbs.log2 < 1920 ∧ Q (.str (toString i)) H
def rListOf (K : PySem.W.Frag) : List V → Hp → VK → Prop := fun xs H Q => ∃ p ys, xs = [.ref p] ∧ (SqL K H p ys ∨ SqT K H p ys) ∧ ∀ l, H l = none → Q (.ref l) (upd H l (.lst ys))
def rTupleOf (K : PySem.W.Frag) : List V → Hp → VK → Prop := fun xs H Q => ∃ p ys, xs = [.ref p] ∧ ((SqL K H p ys ∧ ∀ l, H l = none → Q (.ref l) (upd H l (.tup ys))) ∨ (SqT K H p ys ∧ Q (.ref p) H))
def rJoin (K : PySem.W.Frag) : V → List V → Hp → VK → Prop := fun x xs H Q => ∃ a p, ∃ ys : List Str, x = .str a ∧ xs = [.ref p] ∧ (SqL K H p (ys.map V.str) ∨ SqT K H p (ys.map V.str)) ∧ (ys.map (·.length)).sum + ys.length * a.length ≤ 16777216 ∧ Q (.str (Txt.join a ys)) H

section
variable {X : Cx} (K : PySem.W.Frag)
theorem op_addK (hK : X.K = K := by rfl) : OpR X (binaryOp .Add) (rAddU K) := by subst hK; exact OpR.or op_add (OpR.or op_add_str (OpR.or op_cat op_catA))
theorem op_subU {X : Cx} : OpR X (binaryOp .Sub) rSubU := op_sub
theorem op_mulU {X : Cx} : OpR X (binaryOp .Mult) rMulU := OpR.or op_mul op_rep
theorem op_divU {X : Cx} : OpR X (binaryOp .FloorDiv) rDivU := op_fdiv
theorem op_modU {X : Cx} : OpR X (binaryOp .Mod) rModU := op_mod
theorem op_powU {X : Cx} : OpR X (binaryOp .Pow) rPowU := op_pow
theorem op_eqK (hu : X.A.units + 64 < cLine) (hK : X.K = K := by rfl) : OpR X (compareOp .Eq) (rEqU K) := by subst hK; exact OpR.or op_eq (op_eqD hu)
theorem op_neK (hu : X.A.units + 64 < cLine) (hK : X.K = K := by rfl) : OpR X (compareOp .NotEq) (rNeU K) := by subst hK; exact OpR.or op_ne (op_neD hu)
theorem op_ltU {X : Cx} : OpR X (compareOp .Lt) rLtU := OpR.or op_lt op_lt_str
theorem op_leU {X : Cx} : OpR X (compareOp .LtE) rLeU := OpR.or op_le op_le_str
theorem op_gtU {X : Cx} : OpR X (compareOp .Gt) rGtU := OpR.or op_gt op_gt_str
theorem op_geU {X : Cx} : OpR X (compareOp .GtE) rGeU := OpR.or op_ge op_ge_str
theorem op_inK (hK : X.K = K := by rfl) : OpR X (compareOp .In) (rInU K false) := by
  subst hK
  intro pins s σ H x y v u Q I rx ry h
  rcases h with ⟨c, z, e1, e2, q⟩ | h
  · exact op_in_sign pins s σ H x y v u Q I rx ry ⟨c, z, e1, e2, by simpa using q⟩
  · exact op_in_seq pins s σ H x y v u Q I rx ry h
theorem op_notInK (hK : X.K = K := by rfl) : OpR X (compareOp .NotIn) (rInU K true) := by
  subst hK
  intro pins s σ H x y v u Q I rx ry h
  rcases h with ⟨c, z, e1, e2, q⟩ | h
  · exact op_notIn_sign pins s σ H x y v u Q I rx ry ⟨c, z, e1, e2, by simpa using q⟩
  · exact op_notIn_seq pins s σ H x y v u Q I rx ry h
theorem op_isU {X : Cx} : OpR X (compareOp .Is) (rIsU false) := by
  intro pins s σ H x y v u Q I rx ry h
  rcases h with ⟨e1, q⟩ | ⟨a, b, e1, e2, q⟩
  · exact op_isN pins s σ H x y v u Q I rx ry ⟨e1, by simpa using q⟩
  · exact op_isBl pins s σ H x y v u Q I rx ry ⟨a, b, e1, e2, by simpa using q⟩
theorem op_isNotU {X : Cx} : OpR X (compareOp .IsNot) (rIsU true) := by
  intro pins s σ H x y v u Q I rx ry h
  rcases h with ⟨e1, q⟩ | ⟨a, b, e1, e2, q⟩
  · exact op_notN pins s σ H x y v u Q I rx ry ⟨e1, by simpa using q⟩
  · exact op_notBl pins s σ H x y v u Q I rx ry ⟨a, b, e1, e2, by simpa using q⟩
theorem sl_K (hK : X.K = K := by rfl) : SlR X (rSlU K) := by subst hK; exact SlR.or sl_list (SlR.or sl_str sl_tupA)
theorem ix_K (hK : X.K = K := by rfl) : IxR X (rIx K) := by subst hK; exact ix_seq
theorem call_lenK (hK : X.K = K := by rfl) : CallR X (.builtin "len") (rLenU K) := by subst hK; exact CallR.or call_len_seq call_len_str
theorem call_isiK' (hK : X.K = K := by rfl) : CallR X (.builtin "isinstance") (rIsiU K) := by subst hK; exact CallR.or call_isi call_isiT
theorem call_absU {X : Cx} : CallR X (.builtin "abs") rAbs := call_abs
theorem call_max2U {X : Cx} (hc : X.calm = true) : CallR X (.builtin "max") rMax2 := call_max2 hc
theorem call_min2U {X : Cx} (hc : X.calm = true) : CallR X (.builtin "min") rMin2 := call_min2 hc
theorem call_intU {X : Cx} : CallR X (.type "int") rInt1 := call_int1
theorem call_strI {X : Cx} : CallR X (.type "str") rStrI := call_str_int
theorem call_sumK (hc : X.calm = true) (hK : X.K = K := by rfl) : CallR X (.builtin "sum") (rSum K) := by subst hK; exact cr_sum hc
theorem call_listK (hK : X.K = K := by rfl) : CallR X (.type "list") (rListOf K) := by subst hK; exact call_list_of
theorem call_tupleK (hK : X.K = K := by rfl) : CallR X (.type "tuple") (rTupleOf K) := by subst hK; exact call_tuple_of
theorem mt_joinK (hK : X.K = K := by rfl) : MtR X "str.join" (rJoin K) := by subst hK; exact mt_join
theorem pi_listK {tg l : Expr} {tl : TE} (hl : PE X l tl) (hK : X.K = K := by rfl) : PI X tg l (iList K tl) := by subst hK; exact pi_list hl
theorem pi_tupK {tg l : Expr} {tl : TE} (hl : PE X l tl) (hK : X.K = K := by rfl) : PI X tg l (iTup K tl) := by subst hK; exact pi_tup hl
/-- truth of any value -/
def tTru (K : PySem.W.Frag) (ta : TE) : TT := fun σ H Q => ta σ H fun x H' => ∃ k, TruV K x H' k ∧ Q k H'
theorem pt_truK {a : Expr} {ta : TE} (ha : PE X a ta) (he : ∀ whole, isTrue a X.env whole = (do let v ← whole; standAt a.pos; holding [v] (truthy v))) (hK : X.K = K := by rfl) : PT X a (tTru K ta) := by subst hK; exact pt_truth ha he
end
/-- a row of three comparisons -/
def tChain3 (r r' r'' : R2) (ta tb tc td : TE) : TT := fun σ H Q => ta σ H fun x H1 => tb σ H1 fun y H2 => r x y H2 fun z H3 => ∃ k, z = .bl k ∧ (if k = true then
  (tc σ H3 fun y2 H4 => r' y y2 H4 fun z2 H5 => ∃ k2, z2 = .bl k2 ∧ (if k2 = true then (td σ H5 fun y3 H6 => r'' y2 y3 H6 fun z3 H7 => ∃ k3, z3 = .bl k3 ∧ Q k3 H7) else Q false H5)) else Q false H3)
theorem pt_chain3 {X : Cx} {a b c d : Expr} {pos : Pos} {ta tb tc td : TE} {op op' op'' : CmpOp} {r r' r'' : R2} (ho : OpR X (compareOp op) r) (ho' : OpR X (compareOp op') r') (ho'' : OpR X (compareOp op'') r'') (ha : PE X a ta) (hb : PE X b tb) (hc : PE X c tc) (hd : PE X d td)
    (hm : lastMarks [op, op', op''] [b, c, d] = false := by with_unfolding_all rfl) : PT X (.Compare a [op, op', op''] [b, c, d] pos) (tChain3 r r' r'' ta tb tc td) := by
  refine ⟨fun pins s σ H Q I h => ?_⟩
  refine PyProof.Rows.isTrue_chain (thn (ha.run pins s σ H _ I h) fun v s1 ⟨x, H1, I1, r1, q1⟩ => PyProof.Rows.test_link (thn (hb.run pins s1 σ H1 _ I1 q1) fun u s2 ⟨y, H2, I2, r2, q2⟩ =>
    thn (ho pins s2 σ H2 x y v u _ I2 r1 r2 q2) fun e s3 ⟨z, H3, I3, r3, k, ek, q3⟩ => ?_)) hm
  subst ek
  cases r3
  refine wpAny_truthy_bool ?_
  cases k with
  | false => exact PyProof.Rows.ite_ff ⟨H3, I3, q3⟩
  | true =>
    refine PyProof.Rows.ite_tt (PyProof.Rows.test_link (thn (hc.run pins s3 σ H3 _ I3 q3) fun w' s4 ⟨y2, H4, I4, r4, q4⟩ => thn (ho' pins s4 σ H4 y y2 u w' _ I4 r2 r4 q4) fun e2 s5 ⟨z2, H5, I5, r5, k2, ek2, q5⟩ => ?_))
    subst ek2
    cases r5
    refine wpAny_truthy_bool ?_
    cases k2 with
    | false => exact PyProof.Rows.ite_ff ⟨H5, I5, q5⟩
    | true =>
      refine PyProof.Rows.ite_tt (PyProof.Rows.test_last (thn (hd.run pins s5 σ H5 _ I5 q5) fun w3 s6 ⟨y3, H6, I6, r6, q6⟩ => thn (ho'' pins s6 σ H6 y2 y3 w' w3 _ I6 r4 r6 q6) fun e3 s7 ⟨z3, H7, I7, r7, k3, ek3, q7⟩ => ?_))
      subst ek3
      cases r7
      exact wpAny_truthy_bool ⟨H7, I7, q7⟩
theorem rChain3 {r r' r'' : R2} {ta tb tc td : TE} {σ : L2.St} {H : Hp} {Q : Bool → Hp → Prop} (h : ta σ H fun x H1 => tb σ H1 fun y H2 => r x y H2 fun z H3 => ∃ k, z = .bl k ∧ (if k = true then
  (tc σ H3 fun y2 H4 => r' y y2 H4 fun z2 H5 => ∃ k2, z2 = .bl k2 ∧ (if k2 = true then (td σ H5 fun y3 H6 => r'' y2 y3 H6 fun z3 H7 => ∃ k3, z3 = .bl k3 ∧ Q k3 H7) else Q false H5)) else Q false H3)) : tChain3 r r' r'' ta tb tc td σ H Q := h
section
theorem sz_le {n : Nat} (h : n ≤ 16777216) : n ≤ sizeLine := by rw [sizeLine_eq]; exact h
theorem sz_lt {n : Nat} (h : n < 16777216) : n < sizeLine := by rw [sizeLine_eq]; exact h
end

/-! ## places -/
theorem at0 {α : Type} {x : α} {xs : List α} : atI (x :: xs) 0 = some x := by
  have := atI_nat (xs := x :: xs) (j := 0) (v := x) rfl
  exact this
theorem at1 {α : Type} {x y : α} {xs : List α} : atI (x :: y :: xs) 1 = some y := by
  have := atI_nat (xs := x :: y :: xs) (j := 1) (v := y) rfl
  exact this
theorem at2 {α : Type} {x y z : α} {xs : List α} : atI (x :: y :: z :: xs) 2 = some z := by
  have := atI_nat (xs := x :: y :: z :: xs) (j := 2) (v := z) rfl
  exact this
theorem ixN0 {α : Type} {x : α} {xs : List α} : ixN (x :: xs).length 0 = some 0 := by
  unfold ixN
  rw [if_pos (by decide), if_pos (by rw [List.length_cons]; omega)]
  rfl
theorem at_of {α : Type} {xs : List α} {z : Int} {j : Nat} {v : α} (e : z = (j : Int)) (h : xs[j]? = some v) : atI xs z = some v := by
  rw [e]; exact atI_nat h
/-- an item at a place in bounds -/
theorem at_in {α : Type} {xs : List α} {z : Int} (h0 : 0 ≤ z) (h1 : z < xs.length) : ∃ v, atI xs z = some v ∧ xs[z.toNat]? = some v ∧ v ∈ xs := by
  have hl : z.toNat < xs.length := by omega
  refine ⟨xs[z.toNat], at_of (j := z.toNat) (by omega) (List.getElem?_eq_getElem hl), List.getElem?_eq_getElem hl, List.getElem_mem hl⟩

/-! ## their readings, kind by kind -/
section
variable {K : PySem.W.Frag} {H : Hp} {Q : VK} {i j : Int} {a b : Str} {p q : Addr} {xs ys : List V} {x y v : V}
theorem add_int (h : Q (.int (i + j)) H) : rAddU K (.int i) (.int j) H Q := .inl ⟨i, j, rfl, rfl, h⟩
theorem add_str (hl : a.length + b.length ≤ sizeLine) (h : Q (.str (a ++ b)) H) : rAddU K (.str a) (.str b) H Q := .inr (.inl ⟨a, b, rfl, rfl, hl, h⟩)
theorem add_lst (h1 : H p = some (.lst xs)) (h2 : H q = some (.lst ys)) (hl : xs.length + ys.length ≤ sizeLine) (h : newO (.lst (xs ++ ys)) H Q) : rAddU K (.ref p) (.ref q) H Q := .inr (.inr (.inl ⟨p, q, xs, ys, rfl, rfl, h1, h2, hl, h⟩))
theorem add_tup (h1 : H p = some (.tup xs)) (h2 : H q = some (.tup ys)) (n1 : xs ≠ []) (n2 : ys ≠ []) (hl : xs.length + ys.length ≤ sizeLine) (h : newO (.tup (xs ++ ys)) H Q) : rAddU K (.ref p) (.ref q) H Q :=
  .inr (.inr (.inr ⟨p, q, xs, ys, rfl, rfl, SqT.of h1, SqT.of h2, hl, fun e => absurd e n1, fun _ e => absurd e n2, fun _ _ => h⟩))
theorem sub_int (h : Q (.int (i - j)) H) : rSubU (.int i) (.int j) H Q := ⟨i, j, rfl, rfl, h⟩
theorem mul_int (hc : CMul i j) (h : Q (.int (i * j)) H) : rMulU (.int i) (.int j) H Q := .inl ⟨i, j, rfl, rfl, hc, h⟩
theorem mul_intR (hc : -(2 ^ 64) < j ∧ j < 2 ^ 64) (h : Q (.int (i * j)) H) : rMulU (.int i) (.int j) H Q := .inl ⟨i, j, rfl, rfl, .inr hc, h⟩
theorem mul_intL (hc : -(2 ^ 64) < i ∧ i < 2 ^ 64) (h : Q (.int (i * j)) H) : rMulU (.int i) (.int j) H Q := .inl ⟨i, j, rfl, rfl, .inl hc, h⟩
theorem div_int (hc : 0 < j ∧ j < 1073741824) (h : Q (.int (i / j)) H) : rDivU (.int i) (.int j) H Q := ⟨i, j, rfl, rfl, hc, h⟩
theorem mod_int (hc : 0 < j) (h : Q (.int (i % j)) H) : rModU (.int i) (.int j) H Q := ⟨i, j, rfl, rfl, hc, h⟩
theorem neg_int (h : Q (.int (-i)) H) : rU (fun i => .int (-i)) (.int i) H Q := ⟨i, rfl, h⟩
theorem pow_int (hc : 0 ≤ j ∧ j ≤ 1000000 ∧ i.natAbs < 2 ^ 64) (h : Q (.int (i ^ j.toNat)) H) : rPowU (.int i) (.int j) H Q := ⟨i, j, rfl, rfl, hc, h⟩
theorem dec_int : decide (V.int i = V.int j) = decide (i = j) := by
  by_cases h : i = j
  · subst h; simp
  · rw [decide_eq_false h, decide_eq_false (fun e => h (V.int.inj e))]
theorem dec_str : decide (V.str a = V.str b) = decide (a = b) := by
  by_cases h : a = b
  · subst h; simp
  · rw [decide_eq_false h, decide_eq_false (fun e => h (V.str.inj e))]
theorem dec_bl {a b : Bool} : decide (V.bl a = V.bl b) = decide (a = b) := by
  by_cases h : a = b
  · subst h; simp
  · rw [decide_eq_false h, decide_eq_false (fun e => h (V.bl.inj e))]
theorem eq_int (h : Q (.bl (decide (i = j))) H) : rEqU K (.int i) (.int j) H Q := .inl ⟨rfl, by rw [dec_int]; exact h⟩
theorem eq_str (h : Q (.bl (decide (a = b))) H) : rEqU K (.str a) (.str b) H Q := .inl ⟨rfl, by rw [dec_str]; exact h⟩
theorem eq_bl {a b : Bool} (h : Q (.bl (decide (a = b))) H) : rEqU K (.bl a) (.bl b) H Q := .inl ⟨rfl, by rw [dec_bl]; exact h⟩
theorem eq_scal (hs : scal x y = true) (h : Q (.bl (decide (x = y))) H) : rEqU K x y H Q := .inl ⟨hs, h⟩
theorem eq_deep {d e : PyData} (h1 : Dp K H x d) (h2 : Dp K H y e) (s1 : SeqAt.shaped d = true) (s2 : SeqAt.shaped e = true) (h : Q (.bl (PyData.eqv d e)) H) : rEqU K x y H Q := .inr ⟨d, e, h1, h2, s1, s2, h⟩
theorem ne_int (h : Q (.bl (!decide (i = j))) H) : rNeU K (.int i) (.int j) H Q := .inl ⟨rfl, by rw [dec_int]; exact h⟩
theorem ne_str (h : Q (.bl (!decide (a = b))) H) : rNeU K (.str a) (.str b) H Q := .inl ⟨rfl, by rw [dec_str]; exact h⟩
theorem ne_bl {a b : Bool} (h : Q (.bl (!decide (a = b))) H) : rNeU K (.bl a) (.bl b) H Q := .inl ⟨rfl, by rw [dec_bl]; exact h⟩
theorem ne_scal (hs : scal x y = true) (h : Q (.bl (!decide (x = y))) H) : rNeU K x y H Q := .inl ⟨hs, h⟩
theorem ne_deep {d e : PyData} (h1 : Dp K H x d) (h2 : Dp K H y e) (s1 : SeqAt.shaped d = true) (s2 : SeqAt.shaped e = true) (h : Q (.bl (!PyData.eqv d e)) H) : rNeU K x y H Q := .inr ⟨d, e, h1, h2, s1, s2, h⟩
theorem lt_int (h : Q (.bl (decide (i < j))) H) : rLtU (.int i) (.int j) H Q := .inl ⟨i, j, rfl, rfl, h⟩
theorem le_int (h : Q (.bl (decide (i ≤ j))) H) : rLeU (.int i) (.int j) H Q := .inl ⟨i, j, rfl, rfl, h⟩
theorem gt_int (h : Q (.bl (decide (j < i))) H) : rGtU (.int i) (.int j) H Q := .inl ⟨i, j, rfl, rfl, h⟩
theorem ge_int (h : Q (.bl (decide (j ≤ i))) H) : rGeU (.int i) (.int j) H Q := .inl ⟨i, j, rfl, rfl, h⟩
theorem lt_str (h : Q (.bl (decide (a.cps.toList < b.cps.toList))) H) : rLtU (.str a) (.str b) H Q := .inr ⟨a, b, rfl, rfl, h⟩
theorem is_non (h : Q (.bl (decide (x = .non))) H) : rIsU false x .non H Q := .inl ⟨rfl, h⟩
theorem isnt_non (h : Q (.bl (!decide (x = .non))) H) : rIsU true x .non H Q := .inl ⟨rfl, h⟩
theorem is_bl {a b : Bool} (h : Q (.bl (decide (a = b))) H) : rIsU false (.bl a) (.bl b) H Q := .inr ⟨a, b, rfl, rfl, h⟩
theorem isnt_bl {a b : Bool} (h : Q (.bl (!decide (a = b))) H) : rIsU true (.bl a) (.bl b) H Q := .inr ⟨a, b, rfl, rfl, h⟩
theorem in_seq {neg : Bool} (h1 : SqV K H p xs) (hx : flatV x = true) (ha : xs.all flatV = true) (h : Q (.bl (if neg then !inV x xs else inV x xs)) H) : rInU K neg x (.ref p) H Q := .inr ⟨p, xs, rfl, h1, hx, ha, h⟩
theorem in_sign {c : Nat} (h : Q (.bl (decide (c ∈ a.cps.toList))) H) : rInU K false (.str ⟨#[c]⟩) (.str a) H Q := .inl ⟨c, a, rfl, rfl, h⟩
/-- an item -/
theorem ix_lst (h1 : H p = some (.lst xs)) (h2 : atI xs i = some v) (h : Q v H) : rIx K (.ref p) (.int i) H Q := .inl ⟨p, xs, i, v, rfl, rfl, SqL.of h1, h2, h⟩
theorem ix_sql (h1 : SqL K H p xs) (h2 : atI xs i = some v) (h : Q v H) : rIx K (.ref p) (.int i) H Q := .inl ⟨p, xs, i, v, rfl, rfl, h1, h2, h⟩
theorem ix_tpl (h1 : H p = some (.tup xs)) (h2 : atI xs i = some v) (h : Q v H) : rIx K (.ref p) (.int i) H Q := .inr (.inl ⟨p, xs, i, v, rfl, rfl, SqT.of h1, h2, h⟩)
theorem ix_str {c : Nat} (hl : a.length ≤ sizeLine) (h2 : atI a.cps.toList i = some c) (h : Q (.str ⟨#[c]⟩) H) : rIx K (.str a) (.int i) H Q := .inr (.inr ⟨a, i, c, rfl, rfl, hl, h2, h⟩)
variable {lo hi : Option Int}
theorem sl_lst (h1 : H p = some (.lst xs)) (h : newO (.lst (cutV xs lo hi)) H Q) : rSlU K (.ref p) lo hi H Q := .inl ⟨p, xs, rfl, SqL.of h1, h⟩
theorem sl_strU (hl : a.length ≤ sizeLine) (h : Q (.str (cutS a lo hi)) H) : rSlU K (.str a) lo hi H Q := .inr (.inl ⟨a, rfl, hl, h⟩)
theorem len_lst (h1 : H p = some (.lst xs)) (h : Q (.int xs.length) H) : rLenU K [.ref p] H Q := .inl ⟨p, xs, rfl, .inl (SqL.of h1), h⟩
theorem len_sql (h1 : SqL K H p xs) (h : Q (.int xs.length) H) : rLenU K [.ref p] H Q := .inl ⟨p, xs, rfl, .inl h1, h⟩
theorem len_tup (h1 : H p = some (.tup xs)) (h : Q (.int xs.length) H) : rLenU K [.ref p] H Q := .inl ⟨p, xs, rfl, .inr (SqT.of h1), h⟩
theorem len_str (hl : a.length ≤ sizeLine) (h : Q (.int a.length) H) : rLenU K [.str a] H Q := .inr ⟨a, rfl, hl, h⟩
theorem abs_int (h : Q (.int (if i < 0 then -i else i)) H) : rAbs [.int i] H Q := ⟨i, rfl, h⟩
theorem max_int (h : Q (.int (if j > i then j else i)) H) : rMax2 [.int i, .int j] H Q := ⟨i, j, rfl, h⟩
theorem min_int (h : Q (.int (if j < i then j else i)) H) : rMin2 [.int i, .int j] H Q := ⟨i, j, rfl, h⟩
theorem int_int (h : Q (.int i) H) : rInt1 [.int i] H Q := .inl ⟨i, rfl, h⟩
theorem list_lst (h1 : H p = some (.lst xs)) (h : newO (.lst xs) H Q) : rListOf K [.ref p] H Q := ⟨p, xs, rfl, .inl (SqL.of h1), h⟩
theorem list_tup (h1 : H p = some (.tup xs)) (h : newO (.lst xs) H Q) : rListOf K [.ref p] H Q := ⟨p, xs, rfl, .inr (SqT.of h1), h⟩
theorem tuple_lst (h1 : H p = some (.lst xs)) (h : newO (.tup xs) H Q) : rTupleOf K [.ref p] H Q := ⟨p, xs, rfl, .inl ⟨SqL.of h1, h⟩⟩
theorem tuple_tup (h1 : H p = some (.tup xs)) (h : Q (.ref p) H) : rTupleOf K [.ref p] H Q := ⟨p, xs, rfl, .inr ⟨SqT.of h1, h⟩⟩
theorem sum_lst {ns : List Int} (h1 : H p = some (.lst (ns.map V.int))) (h : Q (.int ns.sum) H) : rSum K [.ref p] H Q := ⟨p, ns, rfl, SqL.of h1, h⟩
theorem join_lst {zs : List Str} (h1 : H p = some (.lst (zs.map V.str))) (hl : (zs.map (·.length)).sum + zs.length * a.length ≤ 16777216) (h : Q (.str (Txt.join a zs)) H) : rJoin K (.str a) [.ref p] H Q := ⟨a, p, zs, rfl, rfl, .inl (SqL.of h1), hl, h⟩
/-! methods of a list -/
theorem tyL {P : Prop} (h1 : H p = some (.lst xs)) (h : P) : tyV K "list" (.ref p) H ∧ P := ⟨.inl ⟨rfl, _, SqL.of h1⟩, h⟩
theorem append_lst (h1 : H p = some (.lst xs)) (hl : xs.length < sizeLine) (h : putO p (xs ++ [x]) H (Q .non)) : rAppend (.ref p) [x] H Q := ⟨p, xs, x, rfl, rfl, h1, hl, h⟩
theorem pop_lst (h1 : H p = some (.lst xs)) (h2 : xs[xs.length - 1]? = some v) (h : putO p xs.dropLast H (Q v)) : rPop (.ref p) [] H Q := ⟨p, xs, v, rfl, rfl, h1, h2, h⟩
theorem clear_lst (h1 : H p = some (.lst xs)) (h : putO p [] H (Q .non)) : rClear (.ref p) [] H Q := ⟨p, xs, rfl, rfl, h1, h⟩
theorem set_lst {k : Nat} {R : Hp → Prop} (h1 : H p = some (.lst xs)) (h2 : ixN xs.length i = some k) (h : putO p (xs.set k v) H R) : rSetL (.ref p) (.int i) v H R := ⟨p, xs, i, k, rfl, rfl, h1, h2, h⟩
/-! isinstance -/
theorem isi_ty {n m : String} {b : Bool} (ty : TyX K H x (.type n)) (e : kitB n m = some b) (h : Q (.bl b) H) : rIsiU K [x, .ty m] H Q := .inl ⟨x, .ty m, _, _, b, rfl, .ty m, ty, kit_ty e, h⟩
theorem kb_ii : kitB "int" "int" = some true := by decide +kernel
theorem kb_ib : kitB "int" "bool" = some false := by decide +kernel
theorem kb_bi : kitB "bool" "int" = some true := by decide +kernel
theorem kb_bb : kitB "bool" "bool" = some true := by decide +kernel
theorem kb_ss : kitB "str" "str" = some true := by decide +kernel
theorem kb_tt : kitB "tuple" "tuple" = some true := by decide +kernel
theorem kb_ll : kitB "list" "list" = some true := by decide +kernel
theorem isi_ii (h : Q (.bl true) H) : rIsiU K [.int i, .ty "int"] H Q := isi_ty (.base (.int i)) kb_ii h
theorem isi_ib (h : Q (.bl false) H) : rIsiU K [.int i, .ty "bool"] H Q := isi_ty (.base (.int i)) kb_ib h
theorem isi_bb {c : Bool} (h : Q (.bl true) H) : rIsiU K [.bl c, .ty "bool"] H Q := isi_ty (.base (.bl c)) kb_bb h
theorem isi_bi {c : Bool} (h : Q (.bl true) H) : rIsiU K [.bl c, .ty "int"] H Q := isi_ty (.base (.bl c)) kb_bi h
theorem isi_ss (h : Q (.bl true) H) : rIsiU K [.str a, .ty "str"] H Q := isi_ty (.base (.str a)) kb_ss h
theorem isi_tt (h1 : H p = some (.tup xs)) (h : Q (.bl true) H) : rIsiU K [.ref p, .ty "tuple"] H Q := isi_ty (.base (.tup h1)) kb_tt h
theorem isi_ll (h1 : H p = some (.lst xs)) (h : Q (.bl true) H) : rIsiU K [.ref p, .ty "list"] H Q := isi_ty (.base (.lst h1)) kb_ll h
/-! truth -/
variable {QT : Bool → Hp → Prop}
theorem rTru {σ : L2.St} {ta : TE} (h : ta σ H fun x H' => ∃ k, TruV K x H' k ∧ QT k H') : tTru K ta σ H QT := h
theorem tru_bl {c : Bool} {R : Bool → Prop} (h : R c) : ∃ k, TruV K (.bl c) H k ∧ R k := ⟨c, rfl, h⟩
theorem tru_int {R : Bool → Prop} (h : R (i != 0)) : ∃ k, TruV K (.int i) H k ∧ R k := ⟨_, rfl, h⟩
theorem tru_str {R : Bool → Prop} (hl : a.length ≤ sizeLine) (h : R ((a.length : Int) != 0)) : ∃ k, TruV K (.str a) H k ∧ R k := ⟨_, ⟨hl, rfl⟩, h⟩
theorem tru_lst {R : Bool → Prop} (h1 : H p = some (.lst xs)) (h : R (!xs.isEmpty)) : ∃ k, TruV K (.ref p) H k ∧ R k := ⟨_, .inl ⟨xs, SqL.of h1, rfl⟩, h⟩
theorem tru_tup {R : Bool → Prop} (h1 : H p = some (.tup xs)) (h : R (!xs.isEmpty)) : ∃ k, TruV K (.ref p) H k ∧ R k := ⟨_, .inr (.inl ⟨xs, SqT.of h1, rfl⟩), h⟩
end
end Z
namespace Z
open PySem PySem.Spec L2
local macro_rules | `(tactic| walk_at "ne") => `(tactic| first
  | with_reducible assumption
  | with_reducible exact Ne.symm (by assumption)
  | exact Frs.ne (by with_reducible assumption) (by walk_at "hp")
  | exact Frs.ne' (by with_reducible assumption) (by walk_at "hp"))
local macro_rules | `(tactic| walk_at "hp") => `(tactic| first
  | with_reducible assumption
  | (with_reducible refine Same.at (by assumption) ?_; walk_at "hp")
  | (with_reducible refine SL.tup (by assumption) ?_; walk_at "hp")
  | (with_reducible refine SL.at (by assumption) (by walk_at "ne") ?_; walk_at "hp"))
local macro_rules | `(tactic| walk_at "sz") => `(tactic| first
  | with_reducible assumption
  | exact Nat.le_of_ble_eq_true rfl
  | (refine sz_le ?_; omega)
  | (refine sz_lt ?_; omega)
  | decide +kernel)
local macro_rules | `(tactic| walk_at "at") => `(tactic| first
  | with_reducible assumption
  | with_reducible exact at0
  | with_reducible exact at1
  | with_reducible exact at2
  | with_reducible exact ixN0)
local macro_rules | `(tactic| walk_at "nn") => `(tactic| first
  | omega
  | decide
  | exact ⟨by decide, by decide⟩
  | exact ⟨by omega, by omega⟩
  | exact ⟨by omega, by omega, by omega, by omega⟩)
local macro_rules | `(tactic| walk_at "rdv") => `(tactic| first
  | (with_reducible refine add_int ?_)
  | (with_reducible refine sub_int ?_)
  | (with_reducible refine neg_int ?_)
  | ((with_reducible refine ix_tpl (xs := ?xs) (v := ?v) ?h1 ?h2 ?_); (case h1 => walk_at "hp"); (case h2 => walk_at "at"))
  | ((with_reducible refine ix_lst (xs := ?xs) (v := ?v) ?h1 ?h2 ?_); (case h1 => walk_at "hp"); (case h2 => walk_at "at"))
  | (with_reducible refine eq_int ?_)
  | (with_reducible refine ne_int ?_)
  | (with_reducible refine lt_int ?_)
  | (with_reducible refine le_int ?_)
  | (with_reducible refine gt_int ?_)
  | (with_reducible refine ge_int ?_)
  | (with_reducible refine eq_str ?_)
  | (with_reducible refine ne_str ?_)
  | (with_reducible refine eq_bl ?_)
  | (with_reducible refine ne_bl ?_)
  | ((with_reducible refine mod_int ?hc ?_); (case hc => walk_at "nn"))
  | ((with_reducible refine div_int ?hc ?_); (case hc => walk_at "nn"))
  | ((with_reducible refine mul_intR ?hc ?_); (case hc => exact ⟨by decide, by decide⟩))
  | ((with_reducible refine mul_intR ?hc ?_); (case hc => exact ⟨by omega, by omega⟩))
  | ((with_reducible refine mul_intL ?hc ?_); (case hc => exact ⟨by omega, by omega⟩))
  | ((with_reducible refine pow_int ?hc ?_); (case hc => exact ⟨by decide, by decide, by decide⟩))
  | ((with_reducible refine add_str ?hc ?_); (case hc => walk_at "sz"))
  | ((with_reducible refine add_lst (xs := ?xs) (ys := ?ys) ?h1 ?h2 ?hc ?_); (case h1 => walk_at "hp"); (case h2 => walk_at "hp"); (case hc => walk_at "sz"))
  | ((with_reducible refine sl_strU ?hc ?_); (case hc => walk_at "sz"))
  | ((with_reducible refine sl_lst (xs := ?xs) ?h1 ?_); (case h1 => walk_at "hp"))
  | (with_reducible refine is_bl ?_)
  | (with_reducible refine isnt_bl ?_)
  | (with_reducible refine is_non ?_)
  | (with_reducible refine isnt_non ?_))
local macro_rules | `(tactic| walk_at "rdc") => `(tactic| first
  | ((with_reducible refine len_lst (xs := ?xs) ?h1 ?_); (case h1 => walk_at "hp"))
  | ((with_reducible refine len_tup (xs := ?xs) ?h1 ?_); (case h1 => walk_at "hp"))
  | ((with_reducible refine len_str ?hc ?_); (case hc => walk_at "sz"))
  | (with_reducible refine int_int ?_)
  | (with_reducible refine max_int ?_)
  | (with_reducible refine min_int ?_)
  | (with_reducible refine abs_int ?_)
  | (with_reducible refine isi_ii ?_)
  | (with_reducible refine isi_ib ?_)
  | (with_reducible refine isi_ss ?_)
  | (with_reducible refine isi_bb ?_)
  | ((with_reducible refine isi_tt (xs := ?xs) ?h1 ?_); (case h1 => walk_at "hp"))
  | ((with_reducible refine isi_ll (xs := ?xs) ?h1 ?_); (case h1 => walk_at "hp"))
  | ((with_reducible refine list_lst (xs := ?xs) ?h1 ?_); (case h1 => walk_at "hp"))
  | ((with_reducible refine list_tup (xs := ?xs) ?h1 ?_); (case h1 => walk_at "hp"))
  | ((with_reducible refine tuple_lst (xs := ?xs) ?h1 ?_); (case h1 => walk_at "hp"))
  | ((with_reducible refine tuple_tup (xs := ?xs) ?h1 ?_); (case h1 => walk_at "hp"))
  | ((with_reducible refine append_lst (xs := ?xs) ?h1 ?hc ?_); (case h1 => walk_at "hp"); (case hc => walk_at "sz"))
  | ((with_reducible refine clear_lst (xs := ?xs) ?h1 ?_); (case h1 => walk_at "hp"))
  | ((with_reducible refine set_lst (xs := ?xs) (k := ?k) ?h1 ?h2 ?_); (case h1 => walk_at "hp"); (case h2 => walk_at "at")))
local macro_rules | `(tactic| walk_at "rd1") => `(tactic| first
  | ((with_reducible refine rVar (v := ?v) ?h ?_); (case h => exact rfl))
  | (with_reducible refine rC ?_)
  | (with_reducible refine rCons ?_)
  | (with_reducible refine rNil ?_)
  | (with_reducible refine rOp ?_)
  | (with_reducible refine rSeq ?_)
  | (with_reducible refine rAsgN ?_)
  | (with_reducible refine rAsgT ?_)
  | (with_reducible refine rAsgS ?_)
  | (with_reducible refine rTest ?_)
  | (with_reducible refine rBl ?_)
  | (with_reducible refine rBl' ?_)
  | (with_reducible refine rInt ?_)
  | (with_reducible refine rInt' ?_)
  | (with_reducible refine rCall ?_)
  | (with_reducible refine rCB ?_)
  | (with_reducible refine rRet ?_)
  | (with_reducible refine rDrop ?_)
  | (with_reducible refine rIfS ?_)
  | (with_reducible refine rTup ?_)
  | (with_reducible refine rLst ?_)
  | (with_reducible refine ⟨Nat.le_of_ble_eq_true rfl, ?_⟩)
  | (with_reducible refine rSl ?_)
  | (with_reducible refine rPart ?_)
  | (with_reducible refine rNoPart ?_)
  | (with_reducible refine rBM ?_)
  | (with_reducible refine rBM0 ?_)
  | ((with_reducible refine tyL (xs := ?xs) ?h1 ?_); (case h1 => walk_at "hp"))
  | (with_reducible refine rM1 ?_)
  | (with_reducible refine rM0 ?_)
  | (with_reducible refine rStr ?_)
  | (with_reducible refine rTru ?_)
  | (with_reducible refine tru_bl ?_)
  | (with_reducible refine tru_int ?_)
  | ((with_reducible refine tru_lst (xs := ?xs) ?h1 ?_); (case h1 => walk_at "hp"))
  | ((with_reducible refine tru_tup (xs := ?xs) ?h1 ?_); (case h1 => walk_at "hp"))
  | ((with_reducible refine tru_str ?hc ?_); (case hc => walk_at "sz"))
  | (with_reducible refine rAnd ?_)
  | (with_reducible refine rOr ?_)
  | (with_reducible refine rNot ?_)
  | (with_reducible refine rAndV ?_)
  | (with_reducible refine rOrV ?_)
  | (with_reducible refine rNotV ?_)
  | (with_reducible refine rIfE ?_)
  | (with_reducible refine rChain ?_)
  | (with_reducible refine rChain3 ?_)
  | (with_reducible refine ifT ?_)
  | (with_reducible refine ifF ?_)
  | (with_reducible refine ifNF ?_)
  | (with_reducible refine ifNT ?_)
  | (with_reducible refine rNext ?_)
  | (with_reducible refine rBrk ?_)
  | (with_reducible refine rCnt ?_)
  | (with_reducible refine rRetN ?_)
  | (with_reducible refine rForR1 ?_)
  | (with_reducible refine rForR2 ?_)
  | (with_reducible refine rForL ?_)
  | ((with_reducible refine rRg1 ?hb ?_); (case hb => walk_at "nn"))
  | ((with_reducible refine rRg2 ?hb ?_); (case hb => walk_at "nn"))
  | ((with_reducible refine rRf (xs := ?xs) ?h1 ?_); (case h1 => walk_at "hp"))
  | (with_reducible refine rLcR1 ?_)
  | (with_reducible refine rLcR2 ?_)
  | (with_reducible refine rLcL ?_)
  | (with_reducible refine gN ?_)
  | (with_reducible refine gNl ?_)
  | (with_reducible refine gC ?_)
  | ((with_reducible refine gT (xs := ?xs) ?h1 ?h2 ?_); (case h1 => walk_at "hp"); (case h2 => exact rfl))
  | (with_reducible refine rUn ?_)
  | walk_at "rdv"
  | walk_at "rdc")
local macro_rules | `(tactic| walk_at "rd") => `(tactic| repeat walk_at "rd1")

def top (i : Nat) : Stmt := PySem.Challenge.pw_mendedtree_k63_rope_balance.main.body.getD i (.Pass ⟨0, 0, 0, 0⟩)
abbrev s_wall : Stmt := top 0
abbrev s_EditError___init__ : Stmt := (inClass (top 3) 0)
abbrev s_first_unfit : Stmt := top 5
abbrev s_check_edits : Stmt := top 6
abbrev s_Rope___init__ : Stmt := (inClass (top 9) 0)
abbrev s_Rope_of : Stmt := (inClass (top 9) 1)
abbrev s_Rope_whole : Stmt := (inClass (top 9) 2)
abbrev s_Rope_char : Stmt := (inClass (top 9) 3)
abbrev s_Rope_cut : Stmt := (inClass (top 9) 4)
abbrev s_Rope_joined : Stmt := (inClass (top 9) 5)
abbrev s_Rope_edited : Stmt := (inClass (top 9) 6)
abbrev s_empty_rope : Stmt := top 10
abbrev s_rope_of_row : Stmt := top 11
abbrev s_join_ropes : Stmt := top 12
abbrev s_balanced_rope : Stmt := top 13
abbrev s_cut_rope : Stmt := top 14
abbrev s_law_reel : Stmt := top 16
abbrev s_law_draw : Stmt := top 17
abbrev s_law_pick : Stmt := top 18
abbrev s_law_word : Stmt := top 19
abbrev s_law_number : Stmt := top 20
abbrev s_law_signs : Stmt := top 21
abbrev s_law_stepped : Stmt := top 22
abbrev s_law_text : Stmt := top 23
abbrev s_law_new : Stmt := top 24
abbrev s_law_edit_row : Stmt := top 25
abbrev s_law_part_ok : Stmt := top 26
abbrev s_law_pieces : Stmt := top 27
abbrev s_law_right : Stmt := top 28
abbrev s_law_many_edits : Stmt := top 29
abbrev s_law_many_joins : Stmt := top 30
abbrev s_law_unlike_joins : Stmt := top 31
abbrev s_law_cut_ones : Stmt := top 32
abbrev s_law : Stmt := top 33
theorem sc_wall : FnScope ["k"] ["k"] (C8.fnScope s_wall) := C8.fnScope_by (by decide +kernel)
theorem sc_first_unfit : FnScope ["length", "edits", "size", "index", "start", "end", "new"] ["length", "edits"] (C8.fnScope s_first_unfit) := C8.fnScope_by (by decide +kernel)
theorem sc_check_edits : FnScope ["length", "edits", "index"] ["length", "edits"] (C8.fnScope s_check_edits) := C8.fnScope_by (by decide +kernel)
theorem sc_Rope___init__ : FnScope ["self", "piece", "left", "right"] ["self", "piece", "left", "right"] (C8.fnScope s_Rope___init__) := C8.fnScope_by (by decide +kernel)
theorem sc_Rope_of : FnScope ["text", "pieces", "at"] ["text"] (C8.fnScope s_Rope_of) := C8.fnScope_by (by decide +kernel)
theorem sc_Rope_whole : FnScope ["self"] ["self"] (C8.fnScope s_Rope_whole) := C8.fnScope_by (by decide +kernel)
theorem sc_Rope_char : FnScope ["self", "index"] ["self", "index"] (C8.fnScope s_Rope_char) := C8.fnScope_by (by decide +kernel)
theorem sc_Rope_cut : FnScope ["self", "start", "end"] ["self", "start", "end"] (C8.fnScope s_Rope_cut) := C8.fnScope_by (by decide +kernel)
theorem sc_Rope_joined : FnScope ["self", "other"] ["self", "other"] (C8.fnScope s_Rope_joined) := C8.fnScope_by (by decide +kernel)
theorem sc_Rope_edited : FnScope ["self", "edits", "rope", "start", "end", "new", "head"] ["self", "edits"] (C8.fnScope s_Rope_edited) := C8.fnScope_by (by decide +kernel)
theorem sc_empty_rope : FnScope [] [] (C8.fnScope s_empty_rope) := C8.fnScope_by (by decide +kernel)
theorem sc_rope_of_row : FnScope ["pieces", "middle"] ["pieces"] (C8.fnScope s_rope_of_row) := C8.fnScope_by (by decide +kernel)
theorem sc_join_ropes : FnScope ["left", "right"] ["left", "right"] (C8.fnScope s_join_ropes) := C8.fnScope_by (by decide +kernel)
theorem sc_balanced_rope : FnScope ["left", "right", "middle"] ["left", "right"] (C8.fnScope s_balanced_rope) := C8.fnScope_by (by decide +kernel)
theorem sc_cut_rope : FnScope ["rope", "start", "end", "middle"] ["rope", "start", "end"] (C8.fnScope s_cut_rope) := C8.fnScope_by (by decide +kernel)
theorem sc_law_reel : FnScope ["script", "reel", "k", "cell", "rest", "turn", "mixed"] ["script"] (C8.fnScope s_law_reel) := C8.fnScope_by (by decide +kernel)
theorem sc_law_draw : FnScope ["reel", "size", "count", "at"] ["reel", "size"] (C8.fnScope s_law_draw) := C8.fnScope_by (by decide +kernel)
theorem sc_law_pick : FnScope ["reel", "row"] ["reel", "row"] (C8.fnScope s_law_pick) := C8.fnScope_by (by decide +kernel)
theorem sc_law_word : FnScope ["reel", "letters", "least", "most", "k"] ["reel", "letters", "least", "most"] (C8.fnScope s_law_word) := C8.fnScope_by (by decide +kernel)
theorem sc_law_number : FnScope ["value"] ["value"] (C8.fnScope s_law_number) := C8.fnScope_by (by decide +kernel)
theorem sc_law_signs : FnScope ["signs"] [] (C8.fnScope s_law_signs) := C8.fnScope_by (by decide +kernel)
theorem sc_law_stepped : FnScope ["reel", "size", "letters", "first", "step", "k"] ["reel", "size"] (C8.fnScope s_law_stepped) := C8.fnScope_by (by decide +kernel)
theorem sc_law_text : FnScope ["reel", "form", "size"] ["reel"] (C8.fnScope s_law_text) := C8.fnScope_by (by decide +kernel)
theorem sc_law_new : FnScope ["reel", "size"] ["reel"] (C8.fnScope s_law_new) := C8.fnScope_by (by decide +kernel)
theorem sc_law_edit_row : FnScope ["reel", "text", "count", "edits", "now", "near", "turn", "form", "start", "end", "new"] ["reel", "text", "count"] (C8.fnScope s_law_edit_row) := C8.fnScope_by (by decide +kernel)
theorem sc_law_part_ok : FnScope ["part", "size", "low", "high", "half"] ["part"] (C8.fnScope s_law_part_ok) := C8.fnScope_by (by decide +kernel)
theorem sc_law_pieces : FnScope ["rope", "text", "found", "todo", "turn", "part"] ["rope", "text"] (C8.fnScope s_law_pieces) := C8.fnScope_by (by decide +kernel)
theorem sc_law_right : FnScope ["rope", "text"] ["rope", "text"] (C8.fnScope s_law_right) := C8.fnScope_by (by decide +kernel)
theorem sc_law_many_edits : FnScope ["reel", "now", "rope", "edits", "at_once", "k"] ["reel"] (C8.fnScope s_law_many_edits) := C8.fnScope_by (by decide +kernel)
theorem sc_law_many_joins : FnScope ["reel", "way", "rope", "now", "k", "word"] ["reel"] (C8.fnScope s_law_many_joins) := C8.fnScope_by (by decide +kernel)
theorem sc_law_unlike_joins : FnScope ["reel", "texts", "k", "size", "ropes", "turn", "at", "text"] ["reel"] (C8.fnScope s_law_unlike_joins) := C8.fnScope_by (by decide +kernel)
theorem sc_law_cut_ones : FnScope ["reel", "now", "rope", "turn", "at", "head", "tail", "places"] ["reel"] (C8.fnScope s_law_cut_ones) := C8.fnScope_by (by decide +kernel)
theorem sc_law : FnScope ["script", "reel", "form"] ["script"] (C8.fnScope s_law) := C8.fnScope_by (by decide +kernel)
structure Txt (mg : Str → Option Value) : Prop where
  n_ValueError : mg "ValueError" = none
  n_abs : mg "abs" = none
  n_bool : mg "bool" = none
  n_int : mg "int" = none
  n_isinstance : mg "isinstance" = none
  n_len : mg "len" = none
  n_list : mg "list" = none
  n_max : mg "max" = none
  n_min : mg "min" = none
  n_range : mg "range" = none
  n_sorted : mg "sorted" = none
  n_str : mg "str" = none
  n_sum : mg "sum" = none
  c_PIECE_SIZE : ∃ t, mg "PIECE_SIZE" = some (.int 16 t)
end Z
namespace Z
open PySem PySem.Spec L2

theorem hu64 {k : Nat} {A : Around} (r : Room k A) : A.units + 64 < cLine := by have := r.un; omega
theorem pe_c0 {X : Cx} {k j : Nat} {x : Str} {sp : Sp} {p pos : Pos} (c : C8.Cal X.prog X.w X.K X.mg X.base k x sp []) (hr : Room j X.A) (hk : k ≤ j) (hg : Gl X x) (hdb : (x == ("__debug__" : Str)) = false := by decide) :
    PE X (.Call (.Name x p) [] [] pos) (tCall sp [] C8.E0 tNil) := by
  obtain ⟨f, fd, ps, ds, F, hm, kp, b, d⟩ := c.ex
  exact pe_call0 F (hr.mono hk) hg hm kp b d C8.pass0 hdb
/-! ## loops -/
section
variable {g : TG} {tb : TS} {nx : L2.St → Hp → Prop} {rt : VK} {bk ct : L2.St → Hp → Prop} {σ : L2.St} {H : Hp} {ta : TA} {te tl : TE} {K : PySem.W.Frag} {Q : VK} {tt : TT} {vs : List Nat}
/-- a loop over what J walks -/
def loopJ (J : It) (g : TG) (tb : TS) (nx : L2.St → Hp → Prop) (rt : VK) (σ : L2.St) (H : Hp) : Prop :=
  ∃ W : Nat → Nat → L2.St → Hp → Prop, (∃ m, W 0 m σ H) ∧ ∀ i m σ H, W i m σ H →
    (J.stop i H ∧ nx σ H) ∨ (J.go i H ∧ ∃ N : L2.St → Hp → Prop, (∀ σ' H', N σ' H' → ∃ m', m' < m ∧ W (i + 1) m' σ' H') ∧ ∀ x H', J.yld i H x H' → g x σ H' fun σ2 H2 => tb ⟨N, rt, nx, N⟩ σ2 H2)
abbrev loopR (lo : Int) (n : Nat) := loopJ (Itr lo n)
abbrev loopL (K : PySem.W.Frag) (a : Addr) := loopJ (Itl K a)
theorem rForR1 (h : ta σ H fun as H1 => ∃ j : Int, as = [.int j] ∧ -(2 ^ 62) ≤ j ∧ j < 2 ^ 62 ∧ loopJ (Itr 0 j.toNat) g tb nx rt σ H1) : tFor (iRng1 ta) g tb ⟨nx, rt, bk, ct⟩ σ H := h
theorem rForR2 (h : ta σ H fun as H1 => ∃ i j : Int, as = [.int i, .int j] ∧ (-(2 ^ 62) ≤ i ∧ i < 2 ^ 62 ∧ -(2 ^ 62) ≤ j ∧ j < 2 ^ 62) ∧ loopJ (Itr i (j - i).toNat) g tb nx rt σ H1) : tFor (iRng2 ta) g tb ⟨nx, rt, bk, ct⟩ σ H := h
theorem rForL (h : tl σ H fun x H1 => ∃ a, x = .ref a ∧ (∃ xs, SqL K H1 a xs) ∧ loopJ (Itl K a) g tb nx rt σ H1) : tFor (iList K tl) g tb ⟨nx, rt, bk, ct⟩ σ H := h
theorem rRg1 {n : Int} {R : Int → Prop} (b : -(2 ^ 62) ≤ n ∧ n < 2 ^ 62) (h : R n) : ∃ j : Int, [V.int n] = [V.int j] ∧ -(2 ^ 62) ≤ j ∧ j < 2 ^ 62 ∧ R j := ⟨n, rfl, b.1, b.2, h⟩
theorem rRg2 {n m : Int} {R : Int → Int → Prop} (b : -(2 ^ 62) ≤ n ∧ n < 2 ^ 62 ∧ -(2 ^ 62) ≤ m ∧ m < 2 ^ 62) (h : R n m) : ∃ i j : Int, [V.int n, V.int m] = [V.int i, V.int j] ∧ (-(2 ^ 62) ≤ i ∧ i < 2 ^ 62 ∧ -(2 ^ 62) ≤ j ∧ j < 2 ^ 62) ∧ R i j := ⟨n, m, rfl, b, h⟩
theorem rRf {p : Addr} {xs : List V} {R : Addr → Prop} (h1 : H p = some (.lst xs)) (h : R p) : ∃ a, V.ref p = V.ref a ∧ (∃ xs, SqL K H a xs) ∧ R a := ⟨p, rfl, ⟨xs, SqL.of h1⟩, h⟩
theorem loopR_by {lo : Int} {n : Nat} (Pv : Nat → L2.St → Hp → Prop) (h0 : Pv 0 σ H)
    (hs : ∀ (i : Nat) σ H, i < n → Pv i σ H → g (.int (lo + i)) σ H fun σ2 H2 => tb ⟨Pv (i + 1), rt, nx, Pv (i + 1)⟩ σ2 H2) (hd : ∀ σ H, Pv n σ H → nx σ H) : loopJ (Itr lo n) g tb nx rt σ H :=
  for_range (D := ⟨nx, rt, fun _ _ => False, fun _ _ => False⟩) Pv h0 hs hd
theorem loopL_by {a : Addr} {xs : List V} (Pv : Nat → L2.St → Hp → Prop) (h0 : Pv 0 σ H) (hl : ∀ i σ H, i ≤ xs.length → Pv i σ H → H a = some (.lst xs))
    (hs : ∀ i x σ H, xs[i]? = some x → Pv i σ H → g x σ H fun σ2 H2 => tb ⟨Pv (i + 1), rt, nx, Pv (i + 1)⟩ σ2 H2) (hd : ∀ σ H, Pv xs.length σ H → nx σ H) : loopJ (Itl K a) g tb nx rt σ H :=
  for_list (K := K) (D := ⟨nx, rt, fun _ _ => False, fun _ _ => False⟩) Pv h0 (fun i σ H hi p => SqL.of (hl i σ H hi p)) hs hd
/-! a while -/
def loopW (c : TT) (tb : TS) (nx : L2.St → Hp → Prop) (rt : VK) (σ : L2.St) (H : Hp) : Prop :=
  tWhile c tb ⟨nx, rt, fun _ _ => False, fun _ _ => False⟩ σ H
theorem rWhile {c : TT} (h : tWhile c tb ⟨nx, rt, bk, ct⟩ σ H) : tWhile c tb ⟨nx, rt, bk, ct⟩ σ H := h

/-! ## comprehensions -/
/-- a comprehension over what J walks, the list at a new address -/
def compJ (J : It) (g : TG) (tt : TT) (te : TE) (vs : List Nat) (σ : L2.St) (H1 : Hp) (Q : VK) : Prop := ∀ D, H1 D = none → ∃ W : Nat → Nat → Hp → Prop, (∃ m, W 0 m (upd H1 D (.lst []))) ∧ ∀ i m H, W i m H →
  (J.stop i H ∧ Q (.ref D) H) ∨ (J.go i H ∧ ∃ Nx : Hp → Prop, (∀ H', Nx H' → ∃ m', m' < m ∧ W (i + 1) m' H') ∧ ∀ x H', J.yld i H x H' → g x (wipe σ vs) H' fun σ2 H2 => wipe σ2 vs = wipe σ vs ∧ tt σ2 H2 fun b H3 =>
    if b = true then te σ2 H3 fun y H4 => ∃ acc, H4 D = some (.lst acc) ∧ acc.length < sizeLine ∧ Nx (upd H4 D (.lst (acc ++ [y]))) else Nx H3)
theorem rLcR1 (h : ta σ H fun as H1 => ∃ j : Int, as = [.int j] ∧ -(2 ^ 62) ≤ j ∧ j < 2 ^ 62 ∧ compJ (Itr 0 j.toNat) g tt te vs σ H1 Q) : tLc (iRng1 ta) g tt te vs σ H Q := h
theorem rLcR2 (h : ta σ H fun as H1 => ∃ i j : Int, as = [.int i, .int j] ∧ (-(2 ^ 62) ≤ i ∧ i < 2 ^ 62 ∧ -(2 ^ 62) ≤ j ∧ j < 2 ^ 62) ∧ compJ (Itr i (j - i).toNat) g tt te vs σ H1 Q) : tLc (iRng2 ta) g tt te vs σ H Q := h
theorem rLcL (h : tl σ H fun x H1 => ∃ a, x = .ref a ∧ (∃ xs, SqL K H1 a xs) ∧ compJ (Itl K a) g tt te vs σ H1 Q) : tLc (iList K tl) g tt te vs σ H Q := h
theorem wipe1 (σ : L2.St) (i : Nat) (x : V) : wipe ((wipe σ [i]).set i (some x)) [i] = wipe σ [i] := by
  show (((σ.set i none).set i (some x)).set i none) = σ.set i none
  rw [List.set_set, List.set_set]
end

/-! ## the reel -/
/-- the reel: a list of whole numbers, at least 41 of them -/
def Reel (H : Hp) (r : Addr) : Prop := ∃ (p : Int) (ns : List Int), H r = some (.lst (V.int p :: ns.map V.int)) ∧ 40 ≤ ns.length ∧ ns.length ≤ 5000
theorem Reel.lst {H : Hp} {r : Addr} (h : Reel H r) : ∃ xs, H r = some (.lst xs) := let ⟨_, _, e, _⟩ := h; ⟨_, e⟩
theorem Reel.same {H H' : Hp} {r : Addr} (h : Reel H r) (s : Same H H') : Reel H' r := let ⟨p, ns, e, l⟩ := h; ⟨p, ns, s _ _ e, l⟩
theorem Reel.sl {H H' : Hp} {r l : Addr} (h : Reel H r) (s : SL l H H') (n : r ≠ l) : Reel H' r := let ⟨p, ns, e, q⟩ := h; ⟨p, ns, s.keep _ _ n e, q⟩
theorem Reel.refl {H : Hp} {r : Addr} (h : Reel H r) : SL r H H := let ⟨_, e⟩ := h.lst; SL.refl e
theorem Reel.ne {H : Hp} {r p : Addr} (h : Reel H r) (f : Frs H p) : r ≠ p := let ⟨_, e⟩ := h.lst; f.ne e
theorem Reel.ne_tup {H : Hp} {r p : Addr} {xs : List V} (h : Reel H r) (f : H p = Option.some (.tup xs)) : p ≠ r := by
  obtain ⟨_, e⟩ := h.lst
  exact ne_of f e (fun q => nomatch q)
theorem Reel.sl0 {H H' : Hp} {r : Addr} (h : Reel H r) (s : Same H H') : SL r H H' := let ⟨_, e⟩ := h.lst; Same.sl e s
theorem SL.upd_new {r D : Addr} {H H' : Hp} {o : HO} (s : SL r H H') (f : H D = Option.none) : SL r H (upd H' D o) := by
  obtain ⟨xs, e⟩ := s.was
  obtain ⟨ys, e'⟩ := s.is
  refine ⟨s.was, ⟨ys, by rw [upd_ne (ne_of_none e f)]; exact e'⟩, fun a u n q => ?_⟩
  rw [upd_ne (ne_of_none q f)]
  exact s.keep a u n q
theorem Reel.upd_ne {H : Hp} {r D : Addr} {o : HO} (h : Reel H r) (n : r ≠ D) : Reel (upd H D o) r := let ⟨p, ns, e, q⟩ := h; ⟨p, ns, by rw [L2.upd_ne n]; exact e, q⟩
section
variable {lo : Int} {n i : Nat} {te : TE} {σ : L2.St} {H : Hp} {Q : VK} {r : Addr}
/-- within a comprehension: the list so far at D, the heap H2, since H at its start -/
structure cIn (r : Addr) (H : Hp) (D : Addr) (n : Nat) (acc : List V) (H2 : Hp) : Prop where
  at_D : H2 D = some (.lst acc)
  fresh : Frs H D
  since : SL r H H2
  reel : Reel H2 r
  lt : acc.length < n
/-- the turn's end -/
def cD (r : Addr) (H : Hp) (D : Addr) (Pa : List V → Prop) (k : Nat) (y : V) (H4 : Hp) : Prop :=
  ∃ acc, H4 D = some (.lst acc) ∧ acc.length < sizeLine ∧ ∃ acc', acc'.length = k + 1 ∧ Pa acc' ∧ SL r H (upd H4 D (.lst (acc ++ [y]))) ∧ Reel (upd H4 D (.lst (acc ++ [y]))) r ∧ upd H4 D (.lst (acc ++ [y])) D = some (.lst acc')
theorem cD_of {D : Addr} {acc : List V} {H2 H4 : Hp} {Pa : List V → Prop} {y : V} (c : cIn r H D n acc H2) (hn : n < 16777216) (s : SL r H2 H4) (hr : Reel H4 r) (pa : Pa (acc ++ [y])) : cD r H D Pa acc.length y H4 := by
  have hrD : r ≠ D := by
    obtain ⟨_, e⟩ := c.since.was
    exact c.fresh.ne e
  have l := c.lt
  exact ⟨acc, s.keep D _ hrD.symm c.at_D, sz_lt (by omega), acc ++ [y], by simp, pa, (c.since.trans s).upd_new c.fresh, hr.upd_ne hrD, upd_same⟩
/-- a comprehension over a range whose element draws from the reel -/
theorem compR_draw (hR : Reel H r) (Pa : List V → Prop) (h0 : Pa [])
    (hs : ∀ acc H2 D, cIn r H D n acc H2 → Pa acc → te ((σ.set i none).set i (some (.int (lo + acc.length)))) H2 (fun y H3 => cD r H D Pa acc.length y H3))
    (hd : ∀ acc H2 D, acc.length = n → Pa acc → SL r H H2 → Reel H2 r → H2 D = some (.lst acc) → Frs H D → Q (.ref D) H2) : compJ (Itr lo n) (gName i) tYes te [i] σ H Q := by
  intro D hD
  have hrD : r ≠ D := hR.ne hD
  refine lc_range (Qd := fun H' => Q (.ref D) H') (fun k H' => ∃ acc, acc.length = k ∧ Pa acc ∧ SL r H H' ∧ Reel H' r ∧ H' D = some (.lst acc)) ⟨[], rfl, h0, hR.refl.upd_new hD, hR.upd_ne hrD, upd_same⟩ ?_ ?_
  · rintro k H' hk ⟨acc, rfl, pa, s, hr, hDl⟩
    exact ⟨wipe1 σ i _, (hs acc H' D ⟨hDl, hD, s, hr, hk⟩ pa)⟩
  · rintro H' ⟨acc, e, pa, s, hr, hDl⟩
    exact hd acc H' D e pa s hr hDl hD
end
section
variable {lo : Int} {n i : Nat} {te : TE} {σ : L2.St} {H : Hp} {Q : VK} {K : PySem.W.Frag}
/-- the same where the element leaves all as it was -/
structure pIn (H : Hp) (D : Addr) (n : Nat) (acc : List V) (H2 : Hp) : Prop where
  at_D : H2 D = some (.lst acc)
  fresh : Frs H D
  since : Same H H2
  lt : acc.length < n
def pD (H : Hp) (D : Addr) (Pa : List V → Hp → Prop) (k : Nat) (y : V) (H4 : Hp) : Prop :=
  ∃ acc, H4 D = some (.lst acc) ∧ acc.length < sizeLine ∧ ∃ acc', acc'.length = k + 1 ∧ Pa acc' (upd H4 D (.lst (acc ++ [y]))) ∧ Same H (upd H4 D (.lst (acc ++ [y]))) ∧ upd H4 D (.lst (acc ++ [y])) D = some (.lst acc')
theorem Same.upd_new {D : Addr} {H H' : Hp} {o : HO} (s : Same H H') (f : H D = none) : Same H (upd H' D o) := fun a u q => by
  rw [upd_ne (ne_of_none q f)]
  exact s a u q
theorem pD_of {D : Addr} {acc : List V} {H2 H4 : Hp} {Pa : List V → Hp → Prop} {y : V} (c : pIn H D n acc H2) (hn : n < 16777216) (s : Same H2 H4) (pa : ∀ H5, SL D H4 H5 → Pa (acc ++ [y]) H5) : pD H D Pa acc.length y H4 := by
  have l := c.lt
  have e4 := s _ _ c.at_D
  exact ⟨acc, e4, sz_lt (by omega), acc ++ [y], by simp, pa _ ⟨⟨_, e4⟩, ⟨_, upd_same⟩, fun a u n e => by rw [upd_ne n]; exact e⟩, Same.upd_new (Same.trans c.since s) c.fresh, upd_same⟩
theorem compR_pure (Pa : List V → Hp → Prop) (h0 : ∀ H2, Same H H2 → Pa [] H2)
    (hs : ∀ acc H2 D, pIn H D n acc H2 → Pa acc H2 → te ((σ.set i none).set i (some (.int (lo + acc.length)))) H2 (fun y H3 => pD H D Pa acc.length y H3))
    (hd : ∀ acc H2 D, acc.length = n → Pa acc H2 → Same H H2 → H2 D = some (.lst acc) → Frs H D → Q (.ref D) H2) : compJ (Itr lo n) (gName i) tYes te [i] σ H Q := by
  intro D hD
  refine lc_range (Qd := fun H' => Q (.ref D) H') (fun k H' => ∃ acc, acc.length = k ∧ Pa acc H' ∧ Same H H' ∧ H' D = some (.lst acc)) ⟨[], rfl, h0 _ (Same.upd_new (Same.refl H) hD), Same.upd_new (Same.refl H) hD, upd_same⟩ ?_ ?_
  · rintro k H' hk ⟨acc, rfl, pa, s, hDl⟩
    exact ⟨wipe1 σ i _, (hs acc H' D ⟨hDl, hD, s, hk⟩ pa)⟩
  · rintro H' ⟨acc, e, pa, s, hDl⟩
    exact hd acc H' D e pa s hDl hD
theorem compL_pure {a : Addr} {xs : List V} (ha : H a = some (.lst xs)) (Pa : List V → Hp → Prop) (h0 : ∀ H2, Same H H2 → Pa [] H2)
    (hs : ∀ acc x H2 D, pIn H D xs.length acc H2 → xs[acc.length]? = some x → Pa acc H2 → te ((σ.set i none).set i (some x)) H2 (fun y H3 => pD H D Pa acc.length y H3))
    (hd : ∀ acc H2 D, acc.length = xs.length → Pa acc H2 → Same H H2 → H2 D = some (.lst acc) → Frs H D → Q (.ref D) H2) : compJ (Itl K a) (gName i) tYes te [i] σ H Q := by
  intro D hD
  refine lc_list (K := K) (a := a) (xs := xs) (Qd := fun H' => Q (.ref D) H') (fun k H' => ∃ acc, acc.length = k ∧ Pa acc H' ∧ Same H H' ∧ H' D = some (.lst acc)) ⟨[], rfl, h0 _ (Same.upd_new (Same.refl H) hD), Same.upd_new (Same.refl H) hD, upd_same⟩ (fun i H' _ ⟨_, _, _, s, _⟩ => SqL.of (s _ _ ha)) ?_ ?_
  · rintro k x H' hx ⟨acc, rfl, pa, s, hDl⟩
    exact ⟨wipe1 σ i _, (hs acc x H' D ⟨hDl, hD, s, (List.getElem?_eq_some_iff.mp hx).1⟩ hx pa)⟩
  · rintro H' ⟨acc, e, pa, s, hDl⟩
    exact hd acc H' D e pa s hDl hD
end
/-! ## texts -/
theorem len_app (x y : Str) : (x ++ y).length = x.length + y.length := by
  rw [TL.len_tl, TL.tl_append, List.length_append, ← TL.len_tl, ← TL.len_tl]
theorem joinL_nil : ∀ ps : List (List Nat), TL.joinL [] ps = ps.flatten
  | [] => rfl
  | [p] => by simp [TL.joinL]
  | p :: q :: r => by
    show p ++ ([] ++ TL.joinL [] (q :: r)) = _
    rw [List.nil_append, joinL_nil (q :: r)]
    rfl
theorem tl_join0 (ys : List Str) : TL.tl (Txt.join Str.empty ys) = (ys.map TL.tl).flatten := by
  rw [TL.join_eq, TL.tl_join, show TL.tl Str.empty = [] from rfl, joinL_nil]
/-- all signs are signs -/
abbrev Ok (x : Str) : Prop := ∀ c ∈ TL.tl x, c < 1114112
theorem Ok.strOk {x : Str} (h : Ok x) : PyData.strOk x = true := by
  show x.cps.all (fun c => decide (c < 0x110000)) = true
  rw [← Array.all_toList, List.all_eq_true]
  exact fun c hc => decide_eq_true (h c hc)
theorem Ok.app {x y : Str} (h : Ok x) (h' : Ok y) : Ok (x ++ y) := fun c hc => by
  rw [TL.tl_append] at hc
  rcases List.mem_append.mp hc with hc | hc
  · exact h c hc
  · exact h' c hc
theorem Ok.join {ys : List Str} (h : ∀ y ∈ ys, Ok y) : Ok (Txt.join Str.empty ys) := fun c hc => by
  rw [tl_join0] at hc
  obtain ⟨l, hl, hcl⟩ := List.mem_flatten.mp hc
  obtain ⟨y, hy, rfl⟩ := List.mem_map.mp hl
  exact h y hy c hcl
/-- the list form of a slice -/
def cut {α : Type} (l : List α) (lo hi : Option Int) : List α := (l.drop (HT.sIx l.length 0 lo)).take (HT.sIx l.length l.length hi - HT.sIx l.length 0 lo)
theorem cutV_cut (xs : List V) (lo hi : Option Int) : cutV xs lo hi = cut xs lo hi := rfl
theorem tl_cutS (z : Str) (lo hi : Option Int) : TL.tl (cutS z lo hi) = cut (TL.tl z) lo hi := by
  unfold cutS cut
  rw [TL.len_tl z]
theorem Ok.cut {x : Str} (h : Ok x) (lo hi : Option Int) : Ok (cutS x lo hi) := fun c hc => by
  rw [tl_cutS] at hc
  exact h c (List.mem_of_mem_drop (List.mem_of_mem_take hc))
theorem sIx_pos {n d : Nat} {i : Int} (h : 0 ≤ i) : HT.sIx n d (some i) = min i.toNat n := by
  show (if i < 0 then (i + (n : Int)).toNat else min i.toNat n) = min i.toNat n
  rw [if_neg (by omega)]
theorem cut_to {α : Type} {l : List α} {i : Int} (h : 0 ≤ i) : cut l none (some i) = l.take i.toNat := by
  unfold cut
  rw [HT.sIx_none, sIx_pos h, List.drop_zero, Nat.sub_zero]
  by_cases c : i.toNat ≤ l.length
  · rw [Nat.min_eq_left c]
  · rw [Nat.min_eq_right (by omega), List.take_of_length_le (Nat.le_refl _), List.take_of_length_le (by omega)]
theorem cut_from {α : Type} {l : List α} {i : Int} (h : 0 ≤ i) : cut l (some i) none = l.drop i.toNat := by
  unfold cut
  rw [HT.sIx_none, sIx_pos h]
  by_cases c : i.toNat ≤ l.length
  · rw [Nat.min_eq_left c, List.take_of_length_le (by rw [List.length_drop]; omega)]
  · rw [Nat.min_eq_right (by omega), List.drop_eq_nil_of_le (Nat.le_refl _), List.drop_eq_nil_of_le (by omega)]
    simp
theorem cut_mid {α : Type} {l : List α} {i j : Int} (h : 0 ≤ i) (h' : 0 ≤ j) : cut l (some i) (some j) = (l.take j.toNat).drop i.toNat := by
  unfold cut
  rw [sIx_pos h, sIx_pos h', List.drop_take]
  by_cases c : i.toNat ≤ l.length
  · rw [Nat.min_eq_left c]
    by_cases c2 : j.toNat ≤ l.length
    · rw [Nat.min_eq_left c2]
    · rw [Nat.min_eq_right (by omega)]
      rw [List.take_of_length_le (by rw [List.length_drop]; omega), List.take_of_length_le (by rw [List.length_drop]; omega)]
  · rw [Nat.min_eq_right (show l.length ≤ i.toNat by omega), List.drop_eq_nil_of_le (Nat.le_refl _), List.drop_eq_nil_of_le (by omega)]
    simp
theorem cut_len {α : Type} (l : List α) (lo hi : Option Int) : (cut l lo hi).length ≤ l.length := by
  unfold cut
  rw [List.length_take, List.length_drop]
  omega
end Z
namespace Z
open PySem PySem.Spec L2
local macro_rules | `(tactic| walk_at "ne") => `(tactic| first
  | with_reducible assumption
  | with_reducible exact Ne.symm (by assumption)
  | exact Frs.ne (by with_reducible assumption) (by walk_at "hp")
  | exact Frs.ne' (by with_reducible assumption) (by walk_at "hp"))
local macro_rules | `(tactic| walk_at "hp") => `(tactic| first
  | with_reducible assumption
  | (with_reducible refine Same.at (by assumption) ?_; walk_at "hp")
  | (with_reducible refine SL.tup (by assumption) ?_; walk_at "hp")
  | (with_reducible refine SL.at (by assumption) (by walk_at "ne") ?_; walk_at "hp"))
local macro_rules | `(tactic| walk_at "sz") => `(tactic| first
  | with_reducible assumption
  | exact Nat.le_of_ble_eq_true rfl
  | (refine sz_le ?_; omega)
  | (refine sz_lt ?_; omega)
  | decide +kernel)
local macro_rules | `(tactic| walk_at "at") => `(tactic| first
  | with_reducible assumption
  | with_reducible exact at0
  | with_reducible exact at1
  | with_reducible exact at2
  | with_reducible exact ixN0)
local macro_rules | `(tactic| walk_at "nn") => `(tactic| first
  | omega
  | decide
  | exact ⟨by decide, by decide⟩
  | exact ⟨by omega, by omega⟩
  | exact ⟨by omega, by omega, by omega, by omega⟩)
local macro_rules | `(tactic| walk_at "rdv") => `(tactic| first
  | (with_reducible refine add_int ?_)
  | (with_reducible refine sub_int ?_)
  | (with_reducible refine neg_int ?_)
  | ((with_reducible refine ix_tpl (xs := ?xs) (v := ?v) ?h1 ?h2 ?_); (case h1 => walk_at "hp"); (case h2 => walk_at "at"))
  | ((with_reducible refine ix_lst (xs := ?xs) (v := ?v) ?h1 ?h2 ?_); (case h1 => walk_at "hp"); (case h2 => walk_at "at"))
  | (with_reducible refine eq_int ?_)
  | (with_reducible refine ne_int ?_)
  | (with_reducible refine lt_int ?_)
  | (with_reducible refine le_int ?_)
  | (with_reducible refine gt_int ?_)
  | (with_reducible refine ge_int ?_)
  | (with_reducible refine eq_str ?_)
  | (with_reducible refine ne_str ?_)
  | (with_reducible refine eq_bl ?_)
  | (with_reducible refine ne_bl ?_)
  | ((with_reducible refine mod_int ?hc ?_); (case hc => walk_at "nn"))
  | ((with_reducible refine div_int ?hc ?_); (case hc => walk_at "nn"))
  | ((with_reducible refine mul_intR ?hc ?_); (case hc => exact ⟨by decide, by decide⟩))
  | ((with_reducible refine mul_intR ?hc ?_); (case hc => exact ⟨by omega, by omega⟩))
  | ((with_reducible refine mul_intL ?hc ?_); (case hc => exact ⟨by omega, by omega⟩))
  | ((with_reducible refine pow_int ?hc ?_); (case hc => exact ⟨by decide, by decide, by decide⟩))
  | ((with_reducible refine add_str ?hc ?_); (case hc => walk_at "sz"))
  | ((with_reducible refine add_lst (xs := ?xs) (ys := ?ys) ?h1 ?h2 ?hc ?_); (case h1 => walk_at "hp"); (case h2 => walk_at "hp"); (case hc => walk_at "sz"))
  | ((with_reducible refine sl_strU ?hc ?_); (case hc => walk_at "sz"))
  | ((with_reducible refine sl_lst (xs := ?xs) ?h1 ?_); (case h1 => walk_at "hp"))
  | (with_reducible refine is_bl ?_)
  | (with_reducible refine isnt_bl ?_)
  | (with_reducible refine is_non ?_)
  | (with_reducible refine isnt_non ?_))
local macro_rules | `(tactic| walk_at "rdc") => `(tactic| first
  | ((with_reducible refine len_lst (xs := ?xs) ?h1 ?_); (case h1 => walk_at "hp"))
  | ((with_reducible refine len_tup (xs := ?xs) ?h1 ?_); (case h1 => walk_at "hp"))
  | ((with_reducible refine len_str ?hc ?_); (case hc => walk_at "sz"))
  | (with_reducible refine int_int ?_)
  | (with_reducible refine max_int ?_)
  | (with_reducible refine min_int ?_)
  | (with_reducible refine abs_int ?_)
  | (with_reducible refine isi_ii ?_)
  | (with_reducible refine isi_ib ?_)
  | (with_reducible refine isi_ss ?_)
  | (with_reducible refine isi_bb ?_)
  | ((with_reducible refine isi_tt (xs := ?xs) ?h1 ?_); (case h1 => walk_at "hp"))
  | ((with_reducible refine isi_ll (xs := ?xs) ?h1 ?_); (case h1 => walk_at "hp"))
  | ((with_reducible refine list_lst (xs := ?xs) ?h1 ?_); (case h1 => walk_at "hp"))
  | ((with_reducible refine list_tup (xs := ?xs) ?h1 ?_); (case h1 => walk_at "hp"))
  | ((with_reducible refine tuple_lst (xs := ?xs) ?h1 ?_); (case h1 => walk_at "hp"))
  | ((with_reducible refine tuple_tup (xs := ?xs) ?h1 ?_); (case h1 => walk_at "hp"))
  | ((with_reducible refine append_lst (xs := ?xs) ?h1 ?hc ?_); (case h1 => walk_at "hp"); (case hc => walk_at "sz"))
  | ((with_reducible refine clear_lst (xs := ?xs) ?h1 ?_); (case h1 => walk_at "hp"))
  | ((with_reducible refine set_lst (xs := ?xs) (k := ?k) ?h1 ?h2 ?_); (case h1 => walk_at "hp"); (case h2 => walk_at "at")))
local macro_rules | `(tactic| walk_at "rd1") => `(tactic| first
  | ((with_reducible refine rVar (v := ?v) ?h ?_); (case h => exact rfl))
  | (with_reducible refine rC ?_)
  | (with_reducible refine rCons ?_)
  | (with_reducible refine rNil ?_)
  | (with_reducible refine rOp ?_)
  | (with_reducible refine rSeq ?_)
  | (with_reducible refine rAsgN ?_)
  | (with_reducible refine rAsgT ?_)
  | (with_reducible refine rAsgS ?_)
  | (with_reducible refine rTest ?_)
  | (with_reducible refine rBl ?_)
  | (with_reducible refine rBl' ?_)
  | (with_reducible refine rInt ?_)
  | (with_reducible refine rInt' ?_)
  | (with_reducible refine rCall ?_)
  | (with_reducible refine rCB ?_)
  | (with_reducible refine rRet ?_)
  | (with_reducible refine rDrop ?_)
  | (with_reducible refine rIfS ?_)
  | (with_reducible refine rTup ?_)
  | (with_reducible refine rLst ?_)
  | (with_reducible refine ⟨Nat.le_of_ble_eq_true rfl, ?_⟩)
  | (with_reducible refine rSl ?_)
  | (with_reducible refine rPart ?_)
  | (with_reducible refine rNoPart ?_)
  | (with_reducible refine rBM ?_)
  | (with_reducible refine rBM0 ?_)
  | ((with_reducible refine tyL (xs := ?xs) ?h1 ?_); (case h1 => walk_at "hp"))
  | (with_reducible refine rM1 ?_)
  | (with_reducible refine rM0 ?_)
  | (with_reducible refine rStr ?_)
  | (with_reducible refine rTru ?_)
  | (with_reducible refine tru_bl ?_)
  | (with_reducible refine tru_int ?_)
  | ((with_reducible refine tru_lst (xs := ?xs) ?h1 ?_); (case h1 => walk_at "hp"))
  | ((with_reducible refine tru_tup (xs := ?xs) ?h1 ?_); (case h1 => walk_at "hp"))
  | ((with_reducible refine tru_str ?hc ?_); (case hc => walk_at "sz"))
  | (with_reducible refine rAnd ?_)
  | (with_reducible refine rOr ?_)
  | (with_reducible refine rNot ?_)
  | (with_reducible refine rAndV ?_)
  | (with_reducible refine rOrV ?_)
  | (with_reducible refine rNotV ?_)
  | (with_reducible refine rIfE ?_)
  | (with_reducible refine rChain ?_)
  | (with_reducible refine rChain3 ?_)
  | (with_reducible refine ifT ?_)
  | (with_reducible refine ifF ?_)
  | (with_reducible refine ifNF ?_)
  | (with_reducible refine ifNT ?_)
  | (with_reducible refine rNext ?_)
  | (with_reducible refine rBrk ?_)
  | (with_reducible refine rCnt ?_)
  | (with_reducible refine rRetN ?_)
  | (with_reducible refine rForR1 ?_)
  | (with_reducible refine rForR2 ?_)
  | (with_reducible refine rForL ?_)
  | ((with_reducible refine rRg1 ?hb ?_); (case hb => walk_at "nn"))
  | ((with_reducible refine rRg2 ?hb ?_); (case hb => walk_at "nn"))
  | ((with_reducible refine rRf (xs := ?xs) ?h1 ?_); (case h1 => walk_at "hp"))
  | (with_reducible refine rLcR1 ?_)
  | (with_reducible refine rLcR2 ?_)
  | (with_reducible refine rLcL ?_)
  | (with_reducible refine gN ?_)
  | (with_reducible refine gNl ?_)
  | (with_reducible refine gC ?_)
  | ((with_reducible refine gT (xs := ?xs) ?h1 ?h2 ?_); (case h1 => walk_at "hp"); (case h2 => exact rfl))
  | (with_reducible refine rUn ?_)
  | walk_at "rdv"
  | walk_at "rdc")
local macro_rules | `(tactic| walk_at "rd") => `(tactic| repeat walk_at "rd1")

/-! ## promises of the draws -/
def sp_law_draw : Sp := fun vs H Q _ => ∃ (r : Addr) (n : Int), vs = [.ref r, .int n] ∧ Reel H r ∧ 0 < n ∧ ∀ (i : Int) (H' : Hp), 0 ≤ i → i < n → SL r H H' → Reel H' r → Q (.int i) H'
theorem use_draw {r : Addr} {n : Int} {H : Hp} {Q : VK} {E : XK} (hR : Reel H r) (hn : 0 < n) (h : ∀ (i : Int) (H' : Hp), 0 ≤ i → i < n → SL r H H' → Reel H' r → Q (.int i) H') : sp_law_draw [.ref r, .int n] H Q E := ⟨r, n, rfl, hR, hn, h⟩
def sp_law_pick : Sp := fun vs H Q _ => ∃ (r : Addr) (row : V), vs = [.ref r, row] ∧ Reel H r ∧
  ((∃ p xs, row = .ref p ∧ H p = some (.lst xs) ∧ p ≠ r ∧ 0 < xs.length ∧ ∀ v H', v ∈ xs → SL r H H' → Reel H' r → Q v H') ∨
   (∃ z : Str, row = .str z ∧ 0 < z.length ∧ z.length ≤ 16777216 ∧ ∀ c H', c ∈ TL.tl z → SL r H H' → Reel H' r → Q (.str ⟨#[c]⟩) H'))
inductive AllI (lo hi : Int) : List V → Prop where
  | nil : AllI lo hi []
  | cons {i : Int} {xs : List V} (h1 : lo ≤ i ∧ i ≤ hi) (h : AllI lo hi xs) : AllI lo hi (.int i :: xs)
theorem AllI.mem {lo hi : Int} {v : V} : ∀ {xs : List V}, AllI lo hi xs → v ∈ xs → ∃ i, v = .int i ∧ lo ≤ i ∧ i ≤ hi
  | _, .cons h1 h, hm => by
    rcases List.mem_cons.mp hm with e | hm
    · exact ⟨_, e, h1⟩
    · exact AllI.mem h hm
inductive AllS (P : Str → Prop) : List V → Prop where
  | nil : AllS P []
  | cons {z : Str} {xs : List V} (h1 : P z) (h : AllS P xs) : AllS P (.str z :: xs)
theorem AllS.mem {P : Str → Prop} {v : V} : ∀ {xs : List V}, AllS P xs → v ∈ xs → ∃ z, v = .str z ∧ P z
  | _, .cons h1 h, hm => by
    rcases List.mem_cons.mp hm with e | hm
    · exact ⟨_, e, h1⟩
    · exact AllS.mem h hm
theorem use_pickI {r p : Addr} {xs : List V} {lo hi : Int} {H : Hp} {Q : VK} {E : XK} (hR : Reel H r) (hp : H p = some (.lst xs)) (hn : p ≠ r) (h0 : 0 < xs.length) (ha : AllI lo hi xs)
    (h : ∀ (i : Int) (H' : Hp), lo ≤ i → i ≤ hi → SL r H H' → Reel H' r → Q (.int i) H') : sp_law_pick [.ref r, .ref p] H Q E :=
  ⟨r, _, rfl, hR, .inl ⟨p, xs, rfl, hp, hn, h0, fun v H' hm s hr => by
    obtain ⟨i, rfl, h1, h2⟩ := ha.mem hm
    exact h i H' h1 h2 s hr⟩⟩
theorem use_pickS {r p : Addr} {xs : List V} {P : Str → Prop} {H : Hp} {Q : VK} {E : XK} (hR : Reel H r) (hp : H p = some (.lst xs)) (hn : p ≠ r) (h0 : 0 < xs.length) (ha : AllS P xs)
    (h : ∀ (z : Str) (H' : Hp), P z → SL r H H' → Reel H' r → Q (.str z) H') : sp_law_pick [.ref r, .ref p] H Q E :=
  ⟨r, _, rfl, hR, .inl ⟨p, xs, rfl, hp, hn, h0, fun v H' hm s hr => by
    obtain ⟨i, rfl, h1⟩ := ha.mem hm
    exact h i H' h1 s hr⟩⟩
theorem use_pickC {r : Addr} {z : Str} {H : Hp} {Q : VK} {E : XK} (hR : Reel H r) (h0 : 0 < z.length) (h1 : z.length ≤ 16777216)
    (h : ∀ (c : Nat) (H' : Hp), c ∈ TL.tl z → SL r H H' → Reel H' r → Q (.str ⟨#[c]⟩) H') : sp_law_pick [.ref r, .str z] H Q E := ⟨r, _, rfl, hR, .inr ⟨z, rfl, h0, h1, h⟩⟩
def sp_law_word : Sp := fun vs H Q _ => ∃ (r : Addr) (z : Str) (l m : Int), vs = [.ref r, .str z, .int l, .int m] ∧ Reel H r ∧ 0 < z.length ∧ z.length ≤ 1000 ∧ 0 ≤ l ∧ l ≤ m ∧ m ≤ 100000 ∧
  ∀ (x : Str) (H' : Hp), l ≤ x.length → x.length ≤ m → (∀ c ∈ TL.tl x, c ∈ TL.tl z) → SL r H H' → Reel H' r → Q (.str x) H'
theorem use_word {r : Addr} {z : Str} {l m : Int} {H : Hp} {Q : VK} {E : XK} (hR : Reel H r) (hz : 0 < z.length ∧ z.length ≤ 1000) (hl : 0 ≤ l ∧ l ≤ m ∧ m ≤ 100000)
    (h : ∀ (x : Str) (H' : Hp), l ≤ x.length → x.length ≤ m → (∀ c ∈ TL.tl x, c ∈ TL.tl z) → SL r H H' → Reel H' r → Q (.str x) H') : sp_law_word [.ref r, .str z, .int l, .int m] H Q E := ⟨r, z, l, m, rfl, hR, hz.1, hz.2, hl.1, hl.2.1, hl.2.2, h⟩
section
variable {P : Program} {w : World} {K : PySem.W.Frag} {mg : Str → Option Value} {base : Heap}
theorem reel_at {p z : Int} {ns : List Int} (h0 : 0 ≤ z) (h1 : z < ns.length) : ∃ j, atI (V.int p :: ns.map V.int) (1 + z) = some (V.int j) := by
  obtain ⟨v, h, _, hm⟩ := at_in (xs := V.int p :: ns.map V.int) (z := 1 + z) (by omega) (by rw [List.length_cons, List.length_map]; omega)
  rcases List.mem_cons.mp hm with e | hm
  · exact ⟨p, by rw [h, e]⟩
  · obtain ⟨j, _, e⟩ := List.mem_map.mp hm
    exact ⟨j, by rw [h, e]⟩
theorem cal_law_draw {f : Addr} {fd : FuncData} (T : Txt mg) (FD : C8.Def K mg "_law_draw" s_law_draw f fd) (b : Binds K fd ["reel", "size"] []) : C8.Cal P w K mg base 1 "_law_draw" sp_law_draw [] := by
  refine C8.cal0 FD b .nil sc_law_draw (fun vs H Q E h => ?_) (fun cdv A outer s H vs Q E hr h => ?_)
  · obtain ⟨r, n, rfl, _⟩ := h; rfl
  · obtain ⟨r, n, rfl, ⟨p, ns, hR, l1, l2⟩, hn, k⟩ := h
    refine ⟨_, (pss_cons (ps_set (i := 2) sc_law_draw.nd rfl (.inl rfl) (pe_op op_subU (pe_callB (call_lenK K) (by rfl) T.n_len PySem.boot_len (pa_cons (pv 0) pa_nil)) pe_int))
  (pss_cons (ps_set (i := 3) sc_law_draw.nd rfl (.inl rfl) (pe_ix (ix_K K) (pv 0) pe_int (fun _ _ => rfl)))
  (pss_cons (ps_asg (pe_op (op_addK K) (pv 3) pe_int) (pg_sub (pv 0) pe_int set_list))
  (pss_one (ps_ret (pe_op op_modU (pe_callTy call_intU (by rfl) T.n_int (by decide +kernel) (pa_cons (pe_op (op_addK K) (pe_ix (ix_K K) (pv 0) (pe_op (op_addK K) pe_int (pe_op op_modU (pe_callTy call_intU (by rfl) T.n_int (by decide +kernel) (pa_cons (pv 3) pa_nil)) (pv 2))) (fun _ _ => rfl)) (pe_op op_mulU (pe_op op_divU (pv 3) (pv 2)) pe_int)) pa_nil)) (pv 1))))))), ?_⟩
    show (_ : TS) _ [some (.ref r), some (.int n), none, none] H
    have hc : (((V.int p :: ns.map V.int).length : Int) - 1) = (ns.length : Int) := by rw [List.length_cons, List.length_map]; omega
    walk_at "rd"
    refine putO_gen hR fun H1 s1 h1 => ?_
    replace h1 : H1 r = some (.lst (V.int (p + 1) :: ns.map V.int)) := h1
    rw [hc]
    have c0 := Int.emod_nonneg p (show (ns.length : Int) ≠ 0 by omega)
    have c1 := Int.emod_lt_of_pos p (show (0 : Int) < (ns.length : Int) by omega)
    obtain ⟨j, hj⟩ := reel_at (p := p + 1) c0 c1
    walk_at "rd"
    exact k _ _ (Int.emod_nonneg _ (by omega)) (Int.emod_lt_of_pos _ hn) s1 ⟨_, _, h1, l1, l2⟩
theorem cal_law_pick {f : Addr} {fd : FuncData} (T : Txt mg) (FD : C8.Def K mg "_law_pick" s_law_pick f fd) (b : Binds K fd ["reel", "row"] [])
    (c_law_draw : C8.Cal P w K mg base 1 "_law_draw" sp_law_draw []) : C8.Cal P w K mg base 2 "_law_pick" sp_law_pick [] := by
  refine C8.cal0 FD b .nil sc_law_pick (fun vs H Q E h => ?_) (fun cdv A outer s H vs Q E hr h => ?_)
  · obtain ⟨r, n, rfl, _⟩ := h; rfl
  · obtain ⟨r, row, rfl, hR, h⟩ := h
    refine ⟨_, (pss_one (ps_ret (pe_ix (ix_K K) (pv 1) (C8.pe_c c_law_draw hr (by decide) (by rfl) (pa_cons (pv 0) (pa_cons (pe_callB (call_lenK K) (by rfl) T.n_len PySem.boot_len (pa_cons (pv 1) pa_nil)) pa_nil))) (fun _ _ => rfl)))), ?_⟩
    show (_ : TS) _ [some (.ref r), some row] H
    rcases h with ⟨p, xs, rfl, hp, hn, h0, k⟩ | ⟨z, rfl, h0, h1, k⟩
    · walk_at "rd"
      refine use_draw hR (by omega) fun i H1 i0 i1 s1 r1 => ?_
      obtain ⟨v, hv, _, hm⟩ := at_in i0 i1
      walk_at "rd"
      exact k v H1 hm s1 r1
    · walk_at "rd"
      refine use_draw hR (by omega) fun i H1 i0 i1 s1 r1 => ?_
      obtain ⟨c, hv, _, hm⟩ := at_in (xs := z.cps.toList) i0 (by rw [← TL.len_tl]; exact i1)
      refine ix_str (sz_le h1) hv ?_
      exact k c H1 hm s1 r1
theorem cal_law_word {f : Addr} {fd : FuncData} (T : Txt mg) (FD : C8.Def K mg "_law_word" s_law_word f fd) (b : Binds K fd ["reel", "letters", "least", "most"] [])
    (c_law_pick : C8.Cal P w K mg base 2 "_law_pick" sp_law_pick [])
    (c_law_draw : C8.Cal P w K mg base 1 "_law_draw" sp_law_draw []) : C8.Cal P w K mg base 3 "_law_word" sp_law_word [] := by
  refine C8.cal0 FD b .nil sc_law_word (fun vs H Q E h => ?_) (fun cdv A outer s H vs Q E hr h => ?_)
  · obtain ⟨r, z, l, m, rfl, _⟩ := h; rfl
  · obtain ⟨r, z, l, m, rfl, hR, z0, z1, l0, l1, l2, k⟩ := h
    refine ⟨_, (pss_one (ps_ret (pe_m1 F.slot_str_join F.type_str_join (mt_joinK K) pe_str (pe_lc (own := [("k", 4)]) rfl sc_law_word.nd (pi_range1 rfl T.n_range (pa_cons (pe_op (op_addK K) (pv 2) (C8.pe_c c_law_draw hr (by decide) (by rfl) (pa_cons (pv 0) (pa_cons (pe_op (op_addK K) (pe_op op_subU (pv 3) (pv 2)) pe_int) pa_nil)))) pa_nil)) (blkOk_by (own := [("k", 4)]) (N := ["reel", "letters", "least", "most", "k"]) (sc := C8.fnScope s_law_word) (by decide +kernel)) (fun _ _ _ _ _ => (pg_name (i := 4) sc_law_word.nd rfl (.inl rfl))) (fun _ _ _ _ _ => pts_nil) (fun _ _ _ _ _ => (C8.pe_c c_law_pick hr (by decide) (by rfl) (pa_cons (pv 0) (pa_cons (pv 1) pa_nil)))))))), ?_⟩
    show (_ : TS) _ [some (.ref r), some (.str z), some (.int l), some (.int m), none] H
    walk_at "rd"
    refine use_draw hR (by omega) fun i H1 i0 i1 s1 r1 => ?_
    walk_at "rd"
    refine compR_draw (r := r) r1 (fun acc => ∃ ys : List Str, acc = ys.map V.str ∧ ∀ y ∈ ys, ∃ c ∈ TL.tl z, y = ⟨#[c]⟩) ⟨[], rfl, fun _ h => nomatch h⟩ ?_ ?_
    · rintro acc H2 D c ⟨ys, rfl, hy⟩
      walk_at "rd"
      refine use_pickC c.reel z0 (by omega) fun ch H3 hc s3 r3 => ?_
      refine cD_of c (by omega) s3 r3 ⟨ys ++ [⟨#[ch]⟩], by simp, fun y hm => ?_⟩
      rcases List.mem_append.mp hm with hm | hm
      · exact hy y hm
      · exact ⟨ch, hc, List.mem_singleton.mp hm⟩
    · rintro acc H2 D hl ⟨ys, rfl, hy⟩ s2 r2 hD _
      rw [List.length_map] at hl
      have hlen : ∀ ys : List Str, (∀ y ∈ ys, ∃ c ∈ TL.tl z, y = ⟨#[c]⟩) → (ys.map (·.length)).sum = ys.length ∧ ((ys.map TL.tl).flatten).length = ys.length ∧ ∀ c ∈ (ys.map TL.tl).flatten, c ∈ TL.tl z := by
        intro ys
        induction ys with
        | nil => intro _; exact ⟨rfl, rfl, fun _ h => nomatch h⟩
        | cons y ys ih =>
          intro h
          obtain ⟨e1, e2, e3⟩ := ih fun q hq => h q (List.mem_cons_of_mem _ hq)
          obtain ⟨c, hc, rfl⟩ := h y (List.mem_cons_self ..)
          refine ⟨?_, ?_, ?_⟩
          · rw [List.map_cons, List.sum_cons, e1]; show 1 + ys.length = ys.length + 1; omega
          · rw [List.map_cons, List.flatten_cons, List.length_append, e2]; show 1 + ys.length = ys.length + 1; omega
          · intro q hq
            rw [List.map_cons, List.flatten_cons] at hq
            rcases List.mem_append.mp hq with hq | hq
            · have : q = c := by simpa using hq
              rw [this]; exact hc
            · exact e3 q hq
      obtain ⟨e1, e2, e3⟩ := hlen ys hy
      have e : TL.tl (Txt.join (Str.ofString "") ys) = (ys.map TL.tl).flatten := tl_join0 ys
      refine join_lst hD (by rw [e1]; show ys.length + ys.length * 0 ≤ _; omega) ?_
      refine k _ H2 ?_ ?_ ?_ (s1.trans s2) r2
      · rw [TL.len_tl, e, e2]; omega
      · rw [TL.len_tl, e, e2]; omega
      · rw [e]; exact e3
end
end Z
namespace Z
open PySem PySem.Spec L2
local macro_rules | `(tactic| walk_at "ne") => `(tactic| first
  | with_reducible assumption
  | with_reducible exact Ne.symm (by assumption)
  | exact Frs.ne (by with_reducible assumption) (by walk_at "hp")
  | exact Frs.ne' (by with_reducible assumption) (by walk_at "hp"))
local macro_rules | `(tactic| walk_at "hp") => `(tactic| first
  | with_reducible assumption
  | (with_reducible refine Same.at (by assumption) ?_; walk_at "hp")
  | (with_reducible refine SL.tup (by assumption) ?_; walk_at "hp")
  | (with_reducible refine SL.at (by assumption) (by walk_at "ne") ?_; walk_at "hp"))
local macro_rules | `(tactic| walk_at "sz") => `(tactic| first
  | with_reducible assumption
  | exact Nat.le_of_ble_eq_true rfl
  | (refine sz_le ?_; omega)
  | (refine sz_lt ?_; omega)
  | decide +kernel)
local macro_rules | `(tactic| walk_at "at") => `(tactic| first
  | with_reducible assumption
  | with_reducible exact at0
  | with_reducible exact at1
  | with_reducible exact at2
  | with_reducible exact ixN0)
local macro_rules | `(tactic| walk_at "nn") => `(tactic| first
  | omega
  | decide
  | exact ⟨by decide, by decide⟩
  | exact ⟨by omega, by omega⟩
  | exact ⟨by omega, by omega, by omega, by omega⟩)
local macro_rules | `(tactic| walk_at "rdv") => `(tactic| first
  | (with_reducible refine add_int ?_)
  | (with_reducible refine sub_int ?_)
  | (with_reducible refine neg_int ?_)
  | ((with_reducible refine ix_tpl (xs := ?xs) (v := ?v) ?h1 ?h2 ?_); (case h1 => walk_at "hp"); (case h2 => walk_at "at"))
  | ((with_reducible refine ix_lst (xs := ?xs) (v := ?v) ?h1 ?h2 ?_); (case h1 => walk_at "hp"); (case h2 => walk_at "at"))
  | (with_reducible refine eq_int ?_)
  | (with_reducible refine ne_int ?_)
  | (with_reducible refine lt_int ?_)
  | (with_reducible refine le_int ?_)
  | (with_reducible refine gt_int ?_)
  | (with_reducible refine ge_int ?_)
  | (with_reducible refine eq_str ?_)
  | (with_reducible refine ne_str ?_)
  | (with_reducible refine eq_bl ?_)
  | (with_reducible refine ne_bl ?_)
  | ((with_reducible refine mod_int ?hc ?_); (case hc => walk_at "nn"))
  | ((with_reducible refine div_int ?hc ?_); (case hc => walk_at "nn"))
  | ((with_reducible refine mul_intR ?hc ?_); (case hc => exact ⟨by decide, by decide⟩))
  | ((with_reducible refine mul_intR ?hc ?_); (case hc => exact ⟨by omega, by omega⟩))
  | ((with_reducible refine mul_intL ?hc ?_); (case hc => exact ⟨by omega, by omega⟩))
  | ((with_reducible refine pow_int ?hc ?_); (case hc => exact ⟨by decide, by decide, by decide⟩))
  | ((with_reducible refine add_str ?hc ?_); (case hc => walk_at "sz"))
  | ((with_reducible refine add_lst (xs := ?xs) (ys := ?ys) ?h1 ?h2 ?hc ?_); (case h1 => walk_at "hp"); (case h2 => walk_at "hp"); (case hc => walk_at "sz"))
  | ((with_reducible refine sl_strU ?hc ?_); (case hc => walk_at "sz"))
  | ((with_reducible refine sl_lst (xs := ?xs) ?h1 ?_); (case h1 => walk_at "hp"))
  | (with_reducible refine is_bl ?_)
  | (with_reducible refine isnt_bl ?_)
  | (with_reducible refine is_non ?_)
  | (with_reducible refine isnt_non ?_))
local macro_rules | `(tactic| walk_at "rdc") => `(tactic| first
  | ((with_reducible refine len_lst (xs := ?xs) ?h1 ?_); (case h1 => walk_at "hp"))
  | ((with_reducible refine len_tup (xs := ?xs) ?h1 ?_); (case h1 => walk_at "hp"))
  | ((with_reducible refine len_str ?hc ?_); (case hc => walk_at "sz"))
  | (with_reducible refine int_int ?_)
  | (with_reducible refine max_int ?_)
  | (with_reducible refine min_int ?_)
  | (with_reducible refine abs_int ?_)
  | (with_reducible refine isi_ii ?_)
  | (with_reducible refine isi_ib ?_)
  | (with_reducible refine isi_ss ?_)
  | (with_reducible refine isi_bb ?_)
  | ((with_reducible refine isi_tt (xs := ?xs) ?h1 ?_); (case h1 => walk_at "hp"))
  | ((with_reducible refine isi_ll (xs := ?xs) ?h1 ?_); (case h1 => walk_at "hp"))
  | ((with_reducible refine list_lst (xs := ?xs) ?h1 ?_); (case h1 => walk_at "hp"))
  | ((with_reducible refine list_tup (xs := ?xs) ?h1 ?_); (case h1 => walk_at "hp"))
  | ((with_reducible refine tuple_lst (xs := ?xs) ?h1 ?_); (case h1 => walk_at "hp"))
  | ((with_reducible refine tuple_tup (xs := ?xs) ?h1 ?_); (case h1 => walk_at "hp"))
  | ((with_reducible refine append_lst (xs := ?xs) ?h1 ?hc ?_); (case h1 => walk_at "hp"); (case hc => walk_at "sz"))
  | ((with_reducible refine clear_lst (xs := ?xs) ?h1 ?_); (case h1 => walk_at "hp"))
  | ((with_reducible refine set_lst (xs := ?xs) (k := ?k) ?h1 ?h2 ?_); (case h1 => walk_at "hp"); (case h2 => walk_at "at")))
local macro_rules | `(tactic| walk_at "rd1") => `(tactic| first
  | ((with_reducible refine rVar (v := ?v) ?h ?_); (case h => exact rfl))
  | (with_reducible refine rC ?_)
  | (with_reducible refine rCons ?_)
  | (with_reducible refine rNil ?_)
  | (with_reducible refine rOp ?_)
  | (with_reducible refine rSeq ?_)
  | (with_reducible refine rAsgN ?_)
  | (with_reducible refine rAsgT ?_)
  | (with_reducible refine rAsgS ?_)
  | (with_reducible refine rTest ?_)
  | (with_reducible refine rBl ?_)
  | (with_reducible refine rBl' ?_)
  | (with_reducible refine rInt ?_)
  | (with_reducible refine rInt' ?_)
  | (with_reducible refine rCall ?_)
  | (with_reducible refine rCB ?_)
  | (with_reducible refine rRet ?_)
  | (with_reducible refine rDrop ?_)
  | (with_reducible refine rIfS ?_)
  | (with_reducible refine rTup ?_)
  | (with_reducible refine rLst ?_)
  | (with_reducible refine ⟨Nat.le_of_ble_eq_true rfl, ?_⟩)
  | (with_reducible refine rSl ?_)
  | (with_reducible refine rPart ?_)
  | (with_reducible refine rNoPart ?_)
  | (with_reducible refine rBM ?_)
  | (with_reducible refine rBM0 ?_)
  | ((with_reducible refine tyL (xs := ?xs) ?h1 ?_); (case h1 => walk_at "hp"))
  | (with_reducible refine rM1 ?_)
  | (with_reducible refine rM0 ?_)
  | (with_reducible refine rStr ?_)
  | (with_reducible refine rTru ?_)
  | (with_reducible refine tru_bl ?_)
  | (with_reducible refine tru_int ?_)
  | ((with_reducible refine tru_lst (xs := ?xs) ?h1 ?_); (case h1 => walk_at "hp"))
  | ((with_reducible refine tru_tup (xs := ?xs) ?h1 ?_); (case h1 => walk_at "hp"))
  | ((with_reducible refine tru_str ?hc ?_); (case hc => walk_at "sz"))
  | (with_reducible refine rAnd ?_)
  | (with_reducible refine rOr ?_)
  | (with_reducible refine rNot ?_)
  | (with_reducible refine rAndV ?_)
  | (with_reducible refine rOrV ?_)
  | (with_reducible refine rNotV ?_)
  | (with_reducible refine rIfE ?_)
  | (with_reducible refine rChain ?_)
  | (with_reducible refine rChain3 ?_)
  | (with_reducible refine ifT ?_)
  | (with_reducible refine ifF ?_)
  | (with_reducible refine ifNF ?_)
  | (with_reducible refine ifNT ?_)
  | (with_reducible refine rNext ?_)
  | (with_reducible refine rBrk ?_)
  | (with_reducible refine rCnt ?_)
  | (with_reducible refine rRetN ?_)
  | (with_reducible refine rForR1 ?_)
  | (with_reducible refine rForR2 ?_)
  | (with_reducible refine rForL ?_)
  | ((with_reducible refine rRg1 ?hb ?_); (case hb => walk_at "nn"))
  | ((with_reducible refine rRg2 ?hb ?_); (case hb => walk_at "nn"))
  | ((with_reducible refine rRf (xs := ?xs) ?h1 ?_); (case h1 => walk_at "hp"))
  | (with_reducible refine rLcR1 ?_)
  | (with_reducible refine rLcR2 ?_)
  | (with_reducible refine rLcL ?_)
  | (with_reducible refine gN ?_)
  | (with_reducible refine gNl ?_)
  | (with_reducible refine gC ?_)
  | ((with_reducible refine gT (xs := ?xs) ?h1 ?h2 ?_); (case h1 => walk_at "hp"); (case h2 => exact rfl))
  | (with_reducible refine rUn ?_)
  | walk_at "rdv"
  | walk_at "rdc")
local macro_rules | `(tactic| walk_at "rd") => `(tactic| repeat walk_at "rd1")

def sp_law_signs : Sp := fun vs H Q _ => vs = [] ∧ ∀ z : Str, 0 < z.length ∧ z.length ≤ 200 ∧ Ok z → Q (.str z) H
theorem use_signs {H : Hp} {Q : VK} {E : XK} (h : ∀ z : Str, 0 < z.length ∧ z.length ≤ 200 ∧ Ok z → Q (.str z) H) : sp_law_signs [] H Q E := ⟨rfl, h⟩
def sp_law_stepped : Sp := fun vs H Q _ => ∃ (r : Addr) (n : Int), vs = [.ref r, .int n] ∧ Reel H r ∧ 0 ≤ n ∧ n ≤ 5000 ∧ ∀ (x : Str) (H' : Hp), (x.length : Int) = n → Ok x → SL r H H' → Reel H' r → Q (.str x) H'
theorem use_stepped {r : Addr} {n : Int} {H : Hp} {Q : VK} {E : XK} (hR : Reel H r) (hn : 0 ≤ n ∧ n ≤ 5000) (h : ∀ (x : Str) (H' : Hp), (x.length : Int) = n → Ok x → SL r H H' → Reel H' r → Q (.str x) H') : sp_law_stepped [.ref r, .int n] H Q E := ⟨r, n, rfl, hR, hn.1, hn.2, h⟩
/-- a drawn text of a bounded length -/
def spTxt (m : Nat) : Sp := fun vs H Q _ => ∃ (r : Addr), vs = [.ref r] ∧ Reel H r ∧ ∀ (x : Str) (H' : Hp), x.length ≤ m → Ok x → SL r H H' → Reel H' r → Q (.str x) H'
abbrev sp_law_text : Sp := spTxt 2000
abbrev sp_law_new : Sp := spTxt 300
theorem use_txt {m : Nat} {r : Addr} {H : Hp} {Q : VK} {E : XK} (hR : Reel H r) (h : ∀ (x : Str) (H' : Hp), x.length ≤ m → Ok x → SL r H H' → Reel H' r → Q (.str x) H') : spTxt m [.ref r] H Q E := ⟨r, rfl, hR, h⟩
theorem ones : ∀ ys : List Str, (∀ y ∈ ys, y.length = 1 ∧ Ok y) → (ys.map (·.length)).sum = ys.length ∧ ((ys.map TL.tl).flatten).length = ys.length := by
  intro ys
  induction ys with
  | nil => intro _; exact ⟨rfl, rfl⟩
  | cons y ys ih =>
    intro h
    obtain ⟨e1, e2⟩ := ih fun q hq => h q (List.mem_cons_of_mem _ hq)
    have e := (h y (List.mem_cons_self ..)).1
    refine ⟨?_, ?_⟩
    · rw [List.map_cons, List.sum_cons, e1, e]; show 1 + ys.length = ys.length + 1; omega
    · rw [List.map_cons, List.flatten_cons, List.length_append, e2, ← TL.len_tl, e]; show 1 + ys.length = ys.length + 1; omega
section
variable {P : Program} {w : World} {K : PySem.W.Frag} {mg : Str → Option Value} {base : Heap}
theorem cal_law_signs {f : Addr} {fd : FuncData} (T : Txt mg) (FD : C8.Def K mg "_law_signs" s_law_signs f fd) (b : Binds K fd [] []) : C8.Cal P w K mg base 1 "_law_signs" sp_law_signs [] := by
  refine C8.cal0 FD b .nil sc_law_signs (fun vs H Q E h => ?_) (fun cdv A outer s H vs Q E hr h => ?_)
  · obtain ⟨rfl, _⟩ := h; rfl
  · obtain ⟨rfl, k⟩ := h
    refine ⟨_, (pss_cons (ps_set (i := 0) sc_law_signs.nd rfl (.inl rfl) pe_str)
  (pss_one (ps_ret (pe_op (op_addK K) (pv 0) pe_str)))), ?_⟩
    show (_ : TS) _ [none] H
    walk_at "rd"
    exact k _ (by decide +kernel)
theorem cal_law_stepped {f : Addr} {fd : FuncData} (T : Txt mg) (FD : C8.Def K mg "_law_stepped" s_law_stepped f fd) (b : Binds K fd ["reel", "size"] [])
    (c_law_pick : C8.Cal P w K mg base 2 "_law_pick" sp_law_pick [])
    (c_law_draw : C8.Cal P w K mg base 1 "_law_draw" sp_law_draw [])
    (c_law_signs : C8.Cal P w K mg base 1 "_law_signs" sp_law_signs []) : C8.Cal P w K mg base 3 "_law_stepped" sp_law_stepped [] := by
  refine C8.cal0 FD b .nil sc_law_stepped (fun vs H Q E h => ?_) (fun cdv A outer s H vs Q E hr h => ?_)
  · obtain ⟨r, n, rfl, _⟩ := h; rfl
  · obtain ⟨r, n, rfl, hR, hn, hn2, k⟩ := h
    refine ⟨_, (pss_cons (ps_set (i := 2) sc_law_stepped.nd rfl (.inr rfl) (C8.pe_c c_law_pick hr (by decide) (by rfl) (pa_cons (pv 0) (pa_cons (pe_lst (pa_cons (pe_c0 c_law_signs hr (by decide) (by rfl)) (pa_cons (pe_c0 c_law_signs hr (by decide) (by rfl)) (pa_cons pe_str (pa_cons pe_str pa_nil))))) pa_nil))))
  (pss_cons (ps_set (i := 3) sc_law_stepped.nd rfl (.inr rfl) (C8.pe_c c_law_draw hr (by decide) (by rfl) (pa_cons (pv 0) (pa_cons pe_int pa_nil))))
  (pss_cons (ps_set (i := 4) sc_law_stepped.nd rfl (.inr rfl) (C8.pe_c c_law_pick hr (by decide) (by rfl) (pa_cons (pv 0) (pa_cons (pe_lst (pa_cons pe_int (pa_cons pe_int (pa_cons pe_int (pa_cons pe_int pa_nil))))) pa_nil))))
  (pss_one (ps_ret (pe_m1 F.slot_str_join F.type_str_join (mt_joinK K) pe_str (pe_lc (own := [("k", 5)]) rfl sc_law_stepped.nd (pi_range1 rfl T.n_range (pa_cons (pv 1) pa_nil)) (blkOk_by (own := [("k", 5)]) (N := ["reel", "size", "letters", "first", "step", "k"]) (sc := C8.fnScope s_law_stepped) (by decide +kernel)) (fun _ _ _ _ _ => (pg_name (i := 5) sc_law_stepped.nd rfl (.inl rfl))) (fun _ _ _ _ _ => pts_nil) (fun _ _ _ _ _ => (pe_ix (ix_K K) (pv 2) (pe_op op_modU (pe_callTy call_intU (by rfl) T.n_int (by decide +kernel) (pa_cons (pe_op (op_addK K) (pv 3) (pe_op op_mulU (pv 5) (pv 4))) pa_nil)) (pe_callB (call_lenK K) (by rfl) T.n_len PySem.boot_len (pa_cons (pv 2) pa_nil))) (fun _ _ => rfl)))))))))), ?_⟩
    show (_ : TS) _ [some (.ref r), some (.int n), none, none, none, none] H
    walk_at "rd"
    refine use_signs fun z1 hz1 => ?_
    walk_at "rd"
    refine use_signs fun z2 hz2 => ?_
    walk_at "rd"
    refine newO_gen fun p H1 f1 s1 h1 => ?_
    walk_at "rd"
    refine use_pickS (P := fun z => 0 < z.length ∧ z.length ≤ 200 ∧ Ok z) (hR.same s1) h1 (hR.ne f1).symm (Nat.zero_lt_succ _) (.cons hz1 (.cons hz2 (.cons (by decide +kernel) (.cons (by decide +kernel) .nil)))) fun lt H2 hlt s2 r2 => ?_
    walk_at "rd"
    refine use_draw r2 (by omega) fun fi H3 i0 i1 s3 r3 => ?_
    walk_at "rd"
    refine newO_gen fun p4 H4 f4 s4 h4 => ?_
    walk_at "rd"
    refine use_pickI (lo := 0) (hi := 95) (r3.same s4) h4 (r3.ne f4).symm (Nat.zero_lt_succ _) (by repeat (first | exact AllI.nil | refine AllI.cons (by omega) ?_)) fun st H5 t0 t1 s5 r5 => ?_
    walk_at "rd"
    refine compR_pure (fun acc _ => ∃ ys : List Str, acc = ys.map V.str ∧ ∀ y ∈ ys, y.length = 1 ∧ Ok y) (fun _ _ => ⟨[], rfl, fun _ h => nomatch h⟩) ?_ ?_
    · rintro acc H6 D c ⟨ys, rfl, hy⟩
      have hc := c.lt
      walk_at "rd"
      have c0 := Int.emod_nonneg (fi + (0 + ((ys.map V.str).length : Int)) * st) (show (lt.length : Int) ≠ 0 by omega)
      have c1 := Int.emod_lt_of_pos (fi + (0 + ((ys.map V.str).length : Int)) * st) (show (0 : Int) < (lt.length : Int) by omega)
      obtain ⟨ch, hv, _, hmc⟩ := at_in (xs := lt.cps.toList) c0 (by rw [← TL.len_tl]; exact c1)
      refine ix_str (sz_le (by omega)) hv ?_
      refine pD_of c (by omega) (Same.refl _) fun _ _ => ⟨ys ++ [⟨#[ch]⟩], by simp, fun y hm => ?_⟩
      rcases List.mem_append.mp hm with hm | hm
      · exact hy y hm
      · rw [List.mem_singleton.mp hm]
        exact ⟨rfl, fun c hc => by rw [List.mem_singleton.mp (show c ∈ [ch] from hc)]; exact hlt.2.2 ch hmc⟩
    · rintro acc H6 D hl ⟨ys, rfl, hy⟩ s6 hD _
      rw [List.length_map] at hl
      obtain ⟨e1, e2⟩ := ones ys hy
      have e : TL.tl (Txt.join (Str.ofString "") ys) = (ys.map TL.tl).flatten := tl_join0 ys
      refine join_lst hD (by rw [e1]; show ys.length + ys.length * 0 ≤ _; omega) ?_
      refine k _ H6 (by rw [TL.len_tl, e, e2]; omega) (Ok.join fun y hy' => (hy y hy').2) ?_ (r5.same s6)
      exact ((((hR.sl0 s1).trans s2).trans s3).trans ((r3.sl0 s4).trans s5)).more s6
theorem cal_law_new {f : Addr} {fd : FuncData} (T : Txt mg) (FD : C8.Def K mg "_law_new" s_law_new f fd) (b : Binds K fd ["reel"] [])
    (c_law_pick : C8.Cal P w K mg base 2 "_law_pick" sp_law_pick [])
    (c_law_word : C8.Cal P w K mg base 3 "_law_word" sp_law_word [])
    (c_law_draw : C8.Cal P w K mg base 1 "_law_draw" sp_law_draw [])
    (c_law_stepped : C8.Cal P w K mg base 3 "_law_stepped" sp_law_stepped [])
    (c_law_signs : C8.Cal P w K mg base 1 "_law_signs" sp_law_signs []) : C8.Cal P w K mg base 4 "_law_new" sp_law_new [] := by
  refine C8.cal0 FD b .nil sc_law_new (fun vs H Q E h => ?_) (fun cdv A outer s H vs Q E hr h => ?_)
  · obtain ⟨r, rfl, _⟩ := h; rfl
  · obtain ⟨r, rfl, hR, k⟩ := h
    refine ⟨_, (pss_cons (ps_if (pt_cmpR (op_eqK K (hu64 hr)) (C8.pe_c c_law_draw hr (by decide) (by rfl) (pa_cons (pv 0) (pa_cons pe_int pa_nil))) pe_int (nomark _)) (pss_one (ps_ret (C8.pe_c c_law_stepped hr (by decide) (by rfl) (pa_cons (pv 0) (pa_cons (C8.pe_c c_law_pick hr (by decide) (by rfl) (pa_cons (pv 0) (pa_cons (pe_lst (pa_cons pe_int (pa_cons pe_int (pa_cons pe_int (pa_cons pe_int (pa_cons pe_int (pa_cons pe_int (pa_cons pe_int (pa_cons pe_int (pa_cons pe_int pa_nil)))))))))) pa_nil))) pa_nil))))) pss_nil)
  (pss_cons (ps_set (i := 1) sc_law_new.nd rfl (.inl rfl) (C8.pe_c c_law_pick hr (by decide) (by rfl) (pa_cons (pv 0) (pa_cons (pe_lst (pa_cons pe_int (pa_cons pe_int (pa_cons pe_int (pa_cons pe_int (pa_cons pe_int (pa_cons pe_int (pa_cons pe_int (pa_cons pe_int pa_nil))))))))) pa_nil))))
  (pss_one (ps_ret (C8.pe_c c_law_word hr (by decide) (by rfl) (pa_cons (pv 0) (pa_cons (C8.pe_c c_law_pick hr (by decide) (by rfl) (pa_cons (pv 0) (pa_cons (pe_lst (pa_cons (pe_c0 c_law_signs hr (by decide) (by rfl)) (pa_cons (pe_c0 c_law_signs hr (by decide) (by rfl)) (pa_cons pe_str (pa_cons pe_str pa_nil))))) pa_nil))) (pa_cons (pv 1) (pa_cons (pv 1) pa_nil))))))))), ?_⟩
    show (_ : TS) _ [some (.ref r), none] H
    walk_at "rd"
    refine use_draw hR (by omega) fun i1 H1 _ _ s1 r1 => ?_
    walk_at "rd"
    refine ifD (fun c => ?_) (fun c => ?_)
    · walk_at "rd"
      refine newO_gen fun p2 H2 f2 s2 h2 => ?_
      walk_at "rd"
      refine use_pickI (lo := 0) (hi := 300) (r1.same s2) h2 (r1.ne f2).symm (Nat.zero_lt_succ _) (by repeat (first | exact AllI.nil | refine AllI.cons (by omega) ?_)) fun st H3 t0 t1 s3 r3 => ?_
      walk_at "rd"
      refine use_stepped r3 (by omega) fun x H4 hx ok4 s4 r4 => ?_
      exact k x H4 (by omega) ok4 (((s1.more s2).trans s3).trans s4) r4
    · walk_at "rd"
      refine newO_gen fun p2 H2 f2 s2 h2 => ?_
      walk_at "rd"
      refine use_pickI (lo := 0) (hi := 5) (r1.same s2) h2 (r1.ne f2).symm (Nat.zero_lt_succ _) (by repeat (first | exact AllI.nil | refine AllI.cons (by omega) ?_)) fun st H3 t0 t1 s3 r3 => ?_
      walk_at "rd"
      refine use_signs fun z1 hz1 => ?_
      walk_at "rd"
      refine use_signs fun z2 hz2 => ?_
      walk_at "rd"
      refine newO_gen fun p4 H4 f4 s4 h4 => ?_
      walk_at "rd"
      refine use_pickS (P := fun z => 0 < z.length ∧ z.length ≤ 200 ∧ Ok z) (r3.same s4) h4 (r3.ne f4).symm (Nat.zero_lt_succ _) (.cons hz1 (.cons hz2 (.cons (by decide +kernel) (.cons (by decide +kernel) .nil)))) fun lt H5 hlt s5 r5 => ?_
      walk_at "rd"
      refine use_word r5 ⟨hlt.1, by omega⟩ (by omega) fun x H6 l1 l2 lc s6 r6 => ?_
      exact k x H6 (by omega) (fun c hc => hlt.2.2 c (lc c hc)) ((((s1.more s2).trans s3).more s4).trans (s5.trans s6)) r6
end
end Z
namespace Z
open PySem PySem.Spec L2

/-! ## paired lists -/
section
variable {α β : Type} {F G : α → β → Prop}
theorem Paired.len : ∀ {xs : List α} {ys : List β}, Paired F xs ys → xs.length = ys.length
  | _, _, .nil => rfl
  | _, _, .cons _ t => congrArg Nat.succ (Paired.len t)
theorem Paired.imp (f : ∀ a b, F a b → G a b) : ∀ {xs : List α} {ys : List β}, Paired F xs ys → Paired G xs ys
  | _, _, .nil => .nil
  | _, _, .cons r t => .cons (f _ _ r) (Paired.imp f t)
theorem Paired.app : ∀ {xs xs' : List α} {ys ys' : List β}, Paired F xs ys → Paired F xs' ys' → Paired F (xs ++ xs') (ys ++ ys')
  | _, _, _, _, .nil, h => h
  | _, _, _, _, .cons r t, h => .cons r (Paired.app t h)
theorem Paired.snoc {xs : List α} {ys : List β} {x : α} {y : β} (h : Paired F xs ys) (r : F x y) : Paired F (xs ++ [x]) (ys ++ [y]) := Paired.app h (.cons r .nil)
theorem Paired.tk : ∀ (n : Nat) {xs : List α} {ys : List β}, Paired F xs ys → Paired F (xs.take n) (ys.take n)
  | 0, _, _, _ => by rw [List.take_zero, List.take_zero]; exact .nil
  | _ + 1, _, _, .nil => .nil
  | n + 1, _, _, .cons r t => .cons r (Paired.tk n t)
theorem Paired.dr : ∀ (n : Nat) {xs : List α} {ys : List β}, Paired F xs ys → Paired F (xs.drop n) (ys.drop n)
  | 0, _, _, h => h
  | _ + 1, _, _, .nil => .nil
  | n + 1, _, _, .cons _ t => Paired.dr n t
theorem Paired.cut {xs : List α} {ys : List β} (h : Paired F xs ys) (lo hi : Option Int) : Paired F (cut xs lo hi) (cut ys lo hi) := by
  unfold Z.cut
  rw [Paired.len h]
  exact Paired.tk _ (Paired.dr _ h)
theorem Paired.rev : ∀ {xs : List α} {ys : List β}, Paired F xs ys → Paired F xs.reverse ys.reverse
  | _, _, .nil => .nil
  | _, _, .cons r t => by rw [List.reverse_cons, List.reverse_cons]; exact Paired.snoc (Paired.rev t) r
theorem Paired.at : ∀ {xs : List α} {ys : List β} {i : Nat} {x : α}, Paired F xs ys → xs[i]? = some x → ∃ y, ys[i]? = some y ∧ F x y
  | _, _, _, _, .nil, e => by simp at e
  | _, _, 0, x, .cons r _, e => by simp at e; subst e; exact ⟨_, rfl, r⟩
  | _, _, i + 1, x, .cons _ t, e => by
    obtain ⟨u, h1, h2⟩ := Paired.at (i := i) (x := x) t (by simpa using e)
    exact ⟨u, by simpa using h1, h2⟩
theorem Paired.at' : ∀ {xs : List α} {ys : List β} {i : Nat} {y : β}, Paired F xs ys → ys[i]? = some y → ∃ x, xs[i]? = some x ∧ F x y
  | _, _, _, _, .nil, e => by simp at e
  | _, _, 0, x, .cons r _, e => by simp at e; subst e; exact ⟨_, rfl, r⟩
  | _, _, i + 1, x, .cons _ t, e => by
    obtain ⟨u, h1, h2⟩ := Paired.at' (i := i) (y := x) t (by simpa using e)
    exact ⟨u, by simpa using h1, h2⟩
end

theorem Paired.last {α β : Type} {F : α → β → Prop} {x : α} : ∀ {xs : List α} {ys : List β}, Paired F (xs ++ [x]) ys → ∃ ys' y, ys = ys' ++ [y] ∧ Paired F xs ys' ∧ F x y
  | [], _, .cons r .nil => ⟨[], _, rfl, .nil, r⟩
  | a :: xs, _, .cons r t => by
    obtain ⟨ys', y, e, h, q⟩ := Paired.last (xs := xs) t
    exact ⟨_ :: ys', y, by rw [e]; rfl, .cons r h, q⟩
/-! ## edits -/
structure Ed where
  s : Int
  e : Int
  n : Str
deriving DecidableEq
def EdAt (H : Hp) (v : V) (x : Ed) : Prop := ∃ p, v = .ref p ∧ H p = some (.tup [.int x.s, .int x.e, .str x.n])
abbrev Edits (H : Hp) : List V → List Ed → Prop := Paired (EdAt H)
/-- tuples stay -/
def TpS (H H' : Hp) : Prop := ∀ p xs, H p = some (.tup xs) → H' p = some (.tup xs)
theorem TpS.same {H H' : Hp} (s : Same H H') : TpS H H' := fun _ _ e => s _ _ e
theorem TpS.sl {l : Addr} {H H' : Hp} (s : SL l H H') : TpS H H' := fun _ _ e => s.tup e
theorem TpS.trans {H H1 H2 : Hp} (a : TpS H H1) (b : TpS H1 H2) : TpS H H2 := fun p xs e => b p xs (a p xs e)
theorem EdAt.ts {H H' : Hp} {v : V} {x : Ed} (s : TpS H H') (h : EdAt H v x) : EdAt H' v x := let ⟨p, e, q⟩ := h; ⟨p, e, s _ _ q⟩
theorem Edits.ts {H H' : Hp} {vs : List V} {es : List Ed} (s : TpS H H') (h : Edits H vs es) : Edits H' vs es := Paired.imp (fun _ _ r => r.ts s) h

/-- it fits a text of this size -/
abbrev fit1 (sz : Int) (x : Ed) : Prop := 0 ≤ x.s ∧ x.s ≤ x.e ∧ x.e ≤ sz
/-- the size behind it -/
abbrev nsz (sz : Int) (x : Ed) : Int := sz - (x.e - x.s) + x.n.length
def fits : Int → List Ed → Prop
  | _, [] => True
  | sz, x :: xs => fit1 sz x ∧ fits (nsz sz x) xs
def sza (sz : Int) (es : List Ed) : Int := es.foldl nsz sz
theorem sza_snoc (sz : Int) (es : List Ed) (x : Ed) : sza sz (es ++ [x]) = nsz (sza sz es) x := by
  unfold sza
  rw [List.foldl_append]
  rfl
theorem fits_app : ∀ {sz : Int} {es fs : List Ed}, fits sz (es ++ fs) ↔ fits sz es ∧ fits (sza sz es) fs
  | sz, [], fs => ⟨fun h => ⟨trivial, h⟩, fun h => h.2⟩
  | sz, x :: es, fs => by
    show fit1 sz x ∧ fits (nsz sz x) (es ++ fs) ↔ (fit1 sz x ∧ fits (nsz sz x) es) ∧ fits (sza (nsz sz x) es) fs
    rw [fits_app]
    constructor
    · rintro ⟨a, b, c⟩; exact ⟨⟨a, b⟩, c⟩
    · rintro ⟨⟨a, b⟩, c⟩; exact ⟨a, b, c⟩
theorem fits_snoc {sz : Int} {es : List Ed} {x : Ed} (h : fits sz es) (h1 : fit1 (sza sz es) x) : fits sz (es ++ [x]) := fits_app.mpr ⟨h, h1, trivial⟩
theorem fits_take {sz : Int} {es : List Ed} (h : fits sz es) (k : Nat) : fits sz (es.take k) := by
  have e := List.take_append_drop k es
  rw [← e] at h
  exact (fits_app.mp h).1
/-- the place of the first that does not fit, or -1 -/
def fuAt : Int → List Ed → Nat → Int
  | _, [], _ => -1
  | sz, x :: xs, k => if fit1 sz x then fuAt (nsz sz x) xs (k + 1) else k
def fu (sz : Int) (es : List Ed) : Int := fuAt sz es 0
theorem fuAt_cases : ∀ (es : List Ed) (sz : Int) (k : Nat), (fuAt sz es k = -1 ∧ fits sz es) ∨ ∃ j, j < es.length ∧ fuAt sz es k = ((k + j : Nat) : Int) ∧ fits sz (es.take j) ∧ ¬ fits sz (es.take (j + 1))
  | [], sz, k => .inl ⟨rfl, trivial⟩
  | x :: xs, sz, k => by
    by_cases c : fit1 sz x
    · rcases fuAt_cases xs (nsz sz x) (k + 1) with ⟨h1, h2⟩ | ⟨j, h0, h1, h2, h3⟩
      · exact .inl ⟨by unfold fuAt; rw [if_pos c]; exact h1, c, h2⟩
      · refine .inr ⟨j + 1, by simpa using h0, ?_, ⟨c, h2⟩, fun h => h3 h.2⟩
        unfold fuAt
        rw [if_pos c, h1]
        omega
    · refine .inr ⟨0, by simp, ?_, by rw [List.take_zero]; exact trivial, fun h => c h.1⟩
      unfold fuAt
      rw [if_neg c]
      simp
theorem fu_cases (sz : Int) (es : List Ed) : (fu sz es = -1 ∧ fits sz es) ∨ ∃ j, j < es.length ∧ fu sz es = ((j : Nat) : Int) ∧ fits sz (es.take j) ∧ ¬ fits sz (es.take (j + 1)) := by
  have h := fuAt_cases es sz 0
  simpa [fu] using h
theorem fu_fits {sz : Int} {es : List Ed} (h : fits sz es) : fu sz es = -1 := by
  rcases fu_cases sz es with ⟨h1, _⟩ | ⟨j, _, _, _, h3⟩
  · exact h1
  · exact absurd (fits_take h _) h3
theorem drop_cons {α : Type} {l : List α} {i : Nat} {x : α} (h : l[i]? = some x) : l.drop i = x :: l.drop (i + 1) := by
  obtain ⟨h1, e⟩ := List.getElem?_eq_some_iff.mp h
  rw [List.drop_eq_getElem_cons h1, e]
theorem take_snoc {α : Type} {l : List α} {i : Nat} {x : α} (h : l[i]? = some x) : l.take (i + 1) = l.take i ++ [x] := by
  obtain ⟨h1, e⟩ := List.getElem?_eq_some_iff.mp h
  rw [List.take_add_one, h]
  rfl
/-- one step of the search -/
theorem fu_step {sz z : Int} {es : List Ed} {i : Nat} {x : Ed} (h : es[i]? = some x) (e : fu sz es = fuAt z (es.drop i) i) : fu sz es = if fit1 z x then fuAt (nsz z x) (es.drop (i + 1)) (i + 1) else (i : Int) := by
  rw [e, drop_cons h]
  rfl
theorem fu_end {sz z : Int} {es : List Ed} (e : fu sz es = fuAt z (es.drop es.length) es.length) : fu sz es = -1 := by
  rw [e, List.drop_length]
  rfl

/-! ## texts under edits -/
abbrev Nm (x : Ed) : Prop := x.n.length ≤ 2000 ∧ Ok x.n
def ap (t : Str) (x : Ed) : Str := cutS t none (some x.s) ++ x.n ++ cutS t (some x.e) none
def aps (t : Str) (es : List Ed) : Str := es.foldl ap t
theorem Ok.ap {t : Str} {x : Ed} (h : Ok t) (h' : Ok x.n) : Ok (ap t x) := ((h.cut _ _).app h').app (h.cut _ _)
theorem Ok.aps : ∀ {es : List Ed} {t : Str}, Ok t → (∀ x ∈ es, Ok x.n) → Ok (aps t es)
  | [], _, h, _ => h
  | x :: es, t, h, hn => Ok.aps (es := es) (h.ap (hn x (List.mem_cons_self ..))) fun y hy => hn y (List.mem_cons_of_mem _ hy)
theorem aps_snoc (t : Str) (es : List Ed) (x : Ed) : aps t (es ++ [x]) = ap (aps t es) x := by
  unfold aps
  rw [List.foldl_append]
  rfl
theorem tl_ap {t : Str} {x : Ed} (h : fit1 t.length x) : TL.tl (ap t x) = (TL.tl t).take x.s.toNat ++ TL.tl x.n ++ (TL.tl t).drop x.e.toNat := by
  unfold ap
  rw [TL.tl_append, TL.tl_append, tl_cutS, tl_cutS, cut_to h.1, cut_from (by omega)]
theorem len_ap {t : Str} {x : Ed} (h : fit1 t.length x) : ((ap t x).length : Int) = nsz t.length x := by
  have hl := TL.len_tl t
  rw [TL.len_tl, tl_ap h, List.length_append, List.length_append, List.length_take, List.length_drop, ← TL.len_tl t, ← TL.len_tl x.n]
  unfold nsz
  omega
theorem len_aps : ∀ {es : List Ed} {t : Str}, fits t.length es → ((aps t es).length : Int) = sza t.length es
  | [], _, _ => rfl
  | x :: es, t, h => by
    have e := len_ap h.1
    show ((aps (ap t x) es).length : Int) = sza (nsz t.length x) es
    rw [len_aps (es := es) (t := ap t x) (by rw [e]; exact h.2), e]
/-- what is asked of a list of edits beside: few, and none puts in much -/
structure Small (es : List Ed) : Prop where
  len : es.length ≤ 400
  new : ∀ x ∈ es, Nm x
theorem Small.take {es : List Ed} (h : Small es) (k : Nat) : Small (es.take k) := ⟨by rw [List.length_take]; have := h.len; omega, fun x hx => h.new x (List.mem_of_mem_take hx)⟩
theorem sza_le : ∀ {es : List Ed} {sz : Int}, fits sz es → (∀ x ∈ es, x.n.length ≤ 2000) → sza sz es ≤ sz + 2000 * es.length
  | [], sz, _, _ => by show sz ≤ _; simp
  | x :: es, sz, h, hn => by
    have h1 := sza_le (es := es) h.2 (fun y hy => hn y (List.mem_cons_of_mem _ hy))
    have h2 := hn x (List.mem_cons_self ..)
    have h3 := h.1
    show sza (nsz sz x) es ≤ _
    rw [List.length_cons]
    have : nsz sz x ≤ sz + 2000 := by unfold nsz; omega
    omega
theorem sza_nonneg : ∀ {es : List Ed} {sz : Int}, 0 ≤ sz → fits sz es → 0 ≤ sza sz es
  | [], _, h, _ => h
  | x :: es, sz, h, hf => by
    have h3 := hf.1
    exact sza_nonneg (es := es) (by unfold nsz; omega) hf.2
end Z
namespace Z
open PySem PySem.Spec L2
local macro_rules | `(tactic| walk_at "ne") => `(tactic| first
  | with_reducible assumption
  | with_reducible exact Ne.symm (by assumption)
  | exact Frs.ne (by with_reducible assumption) (by walk_at "hp")
  | exact Frs.ne' (by with_reducible assumption) (by walk_at "hp"))
local macro_rules | `(tactic| walk_at "hp") => `(tactic| first
  | with_reducible assumption
  | (with_reducible refine Same.at (by assumption) ?_; walk_at "hp")
  | (with_reducible refine SL.tup (by assumption) ?_; walk_at "hp")
  | (with_reducible refine SL.at (by assumption) (by walk_at "ne") ?_; walk_at "hp"))
local macro_rules | `(tactic| walk_at "sz") => `(tactic| first
  | with_reducible assumption
  | exact Nat.le_of_ble_eq_true rfl
  | (refine sz_le ?_; omega)
  | (refine sz_lt ?_; omega)
  | decide +kernel)
local macro_rules | `(tactic| walk_at "at") => `(tactic| first
  | with_reducible assumption
  | with_reducible exact at0
  | with_reducible exact at1
  | with_reducible exact at2
  | with_reducible exact ixN0)
local macro_rules | `(tactic| walk_at "nn") => `(tactic| first
  | omega
  | decide
  | exact ⟨by decide, by decide⟩
  | exact ⟨by omega, by omega⟩
  | exact ⟨by omega, by omega, by omega, by omega⟩)
local macro_rules | `(tactic| walk_at "rdv") => `(tactic| first
  | (with_reducible refine add_int ?_)
  | (with_reducible refine sub_int ?_)
  | (with_reducible refine neg_int ?_)
  | ((with_reducible refine ix_tpl (xs := ?xs) (v := ?v) ?h1 ?h2 ?_); (case h1 => walk_at "hp"); (case h2 => walk_at "at"))
  | ((with_reducible refine ix_lst (xs := ?xs) (v := ?v) ?h1 ?h2 ?_); (case h1 => walk_at "hp"); (case h2 => walk_at "at"))
  | (with_reducible refine eq_int ?_)
  | (with_reducible refine ne_int ?_)
  | (with_reducible refine lt_int ?_)
  | (with_reducible refine le_int ?_)
  | (with_reducible refine gt_int ?_)
  | (with_reducible refine ge_int ?_)
  | (with_reducible refine eq_str ?_)
  | (with_reducible refine ne_str ?_)
  | (with_reducible refine eq_bl ?_)
  | (with_reducible refine ne_bl ?_)
  | ((with_reducible refine mod_int ?hc ?_); (case hc => walk_at "nn"))
  | ((with_reducible refine div_int ?hc ?_); (case hc => walk_at "nn"))
  | ((with_reducible refine mul_intR ?hc ?_); (case hc => exact ⟨by decide, by decide⟩))
  | ((with_reducible refine mul_intR ?hc ?_); (case hc => exact ⟨by omega, by omega⟩))
  | ((with_reducible refine mul_intL ?hc ?_); (case hc => exact ⟨by omega, by omega⟩))
  | ((with_reducible refine pow_int ?hc ?_); (case hc => exact ⟨by decide, by decide, by decide⟩))
  | ((with_reducible refine add_str ?hc ?_); (case hc => walk_at "sz"))
  | ((with_reducible refine add_lst (xs := ?xs) (ys := ?ys) ?h1 ?h2 ?hc ?_); (case h1 => walk_at "hp"); (case h2 => walk_at "hp"); (case hc => walk_at "sz"))
  | ((with_reducible refine sl_strU ?hc ?_); (case hc => walk_at "sz"))
  | ((with_reducible refine sl_lst (xs := ?xs) ?h1 ?_); (case h1 => walk_at "hp"))
  | (with_reducible refine is_bl ?_)
  | (with_reducible refine isnt_bl ?_)
  | (with_reducible refine is_non ?_)
  | (with_reducible refine isnt_non ?_))
local macro_rules | `(tactic| walk_at "rdc") => `(tactic| first
  | ((with_reducible refine len_lst (xs := ?xs) ?h1 ?_); (case h1 => walk_at "hp"))
  | ((with_reducible refine len_tup (xs := ?xs) ?h1 ?_); (case h1 => walk_at "hp"))
  | ((with_reducible refine len_str ?hc ?_); (case hc => walk_at "sz"))
  | (with_reducible refine int_int ?_)
  | (with_reducible refine max_int ?_)
  | (with_reducible refine min_int ?_)
  | (with_reducible refine abs_int ?_)
  | (with_reducible refine isi_ii ?_)
  | (with_reducible refine isi_ib ?_)
  | (with_reducible refine isi_ss ?_)
  | (with_reducible refine isi_bb ?_)
  | ((with_reducible refine isi_tt (xs := ?xs) ?h1 ?_); (case h1 => walk_at "hp"))
  | ((with_reducible refine isi_ll (xs := ?xs) ?h1 ?_); (case h1 => walk_at "hp"))
  | ((with_reducible refine list_lst (xs := ?xs) ?h1 ?_); (case h1 => walk_at "hp"))
  | ((with_reducible refine list_tup (xs := ?xs) ?h1 ?_); (case h1 => walk_at "hp"))
  | ((with_reducible refine tuple_lst (xs := ?xs) ?h1 ?_); (case h1 => walk_at "hp"))
  | ((with_reducible refine tuple_tup (xs := ?xs) ?h1 ?_); (case h1 => walk_at "hp"))
  | ((with_reducible refine append_lst (xs := ?xs) ?h1 ?hc ?_); (case h1 => walk_at "hp"); (case hc => walk_at "sz"))
  | ((with_reducible refine clear_lst (xs := ?xs) ?h1 ?_); (case h1 => walk_at "hp"))
  | ((with_reducible refine set_lst (xs := ?xs) (k := ?k) ?h1 ?h2 ?_); (case h1 => walk_at "hp"); (case h2 => walk_at "at")))
local macro_rules | `(tactic| walk_at "rd1") => `(tactic| first
  | ((with_reducible refine rVar (v := ?v) ?h ?_); (case h => exact rfl))
  | (with_reducible refine rC ?_)
  | (with_reducible refine rCons ?_)
  | (with_reducible refine rNil ?_)
  | (with_reducible refine rOp ?_)
  | (with_reducible refine rSeq ?_)
  | (with_reducible refine rAsgN ?_)
  | (with_reducible refine rAsgT ?_)
  | (with_reducible refine rAsgS ?_)
  | (with_reducible refine rTest ?_)
  | (with_reducible refine rBl ?_)
  | (with_reducible refine rBl' ?_)
  | (with_reducible refine rInt ?_)
  | (with_reducible refine rInt' ?_)
  | (with_reducible refine rCall ?_)
  | (with_reducible refine rCB ?_)
  | (with_reducible refine rRet ?_)
  | (with_reducible refine rDrop ?_)
  | (with_reducible refine rIfS ?_)
  | (with_reducible refine rTup ?_)
  | (with_reducible refine rLst ?_)
  | (with_reducible refine ⟨Nat.le_of_ble_eq_true rfl, ?_⟩)
  | (with_reducible refine rSl ?_)
  | (with_reducible refine rPart ?_)
  | (with_reducible refine rNoPart ?_)
  | (with_reducible refine rBM ?_)
  | (with_reducible refine rBM0 ?_)
  | ((with_reducible refine tyL (xs := ?xs) ?h1 ?_); (case h1 => walk_at "hp"))
  | (with_reducible refine rM1 ?_)
  | (with_reducible refine rM0 ?_)
  | (with_reducible refine rStr ?_)
  | (with_reducible refine rTru ?_)
  | (with_reducible refine tru_bl ?_)
  | (with_reducible refine tru_int ?_)
  | ((with_reducible refine tru_lst (xs := ?xs) ?h1 ?_); (case h1 => walk_at "hp"))
  | ((with_reducible refine tru_tup (xs := ?xs) ?h1 ?_); (case h1 => walk_at "hp"))
  | ((with_reducible refine tru_str ?hc ?_); (case hc => walk_at "sz"))
  | (with_reducible refine rAnd ?_)
  | (with_reducible refine rOr ?_)
  | (with_reducible refine rNot ?_)
  | (with_reducible refine rAndV ?_)
  | (with_reducible refine rOrV ?_)
  | (with_reducible refine rNotV ?_)
  | (with_reducible refine rIfE ?_)
  | (with_reducible refine rChain ?_)
  | (with_reducible refine rChain3 ?_)
  | (with_reducible refine ifT ?_)
  | (with_reducible refine ifF ?_)
  | (with_reducible refine ifNF ?_)
  | (with_reducible refine ifNT ?_)
  | (with_reducible refine rNext ?_)
  | (with_reducible refine rBrk ?_)
  | (with_reducible refine rCnt ?_)
  | (with_reducible refine rRetN ?_)
  | (with_reducible refine rForR1 ?_)
  | (with_reducible refine rForR2 ?_)
  | (with_reducible refine rForL ?_)
  | ((with_reducible refine rRg1 ?hb ?_); (case hb => walk_at "nn"))
  | ((with_reducible refine rRg2 ?hb ?_); (case hb => walk_at "nn"))
  | ((with_reducible refine rRf (xs := ?xs) ?h1 ?_); (case h1 => walk_at "hp"))
  | (with_reducible refine rLcR1 ?_)
  | (with_reducible refine rLcR2 ?_)
  | (with_reducible refine rLcL ?_)
  | (with_reducible refine gN ?_)
  | (with_reducible refine gNl ?_)
  | (with_reducible refine gC ?_)
  | ((with_reducible refine gT (xs := ?xs) ?h1 ?h2 ?_); (case h1 => walk_at "hp"); (case h2 => exact rfl))
  | (with_reducible refine rUn ?_)
  | walk_at "rdv"
  | walk_at "rdc")
local macro_rules | `(tactic| walk_at "rd") => `(tactic| repeat walk_at "rd1")

/-- a list of edits, as it comes of a def -/
def sp_law_edit_row : Sp := fun vs H Q _ => ∃ (r : Addr) (t : Str) (n : Int), vs = [.ref r, .str t, .int n] ∧ Reel H r ∧ t.length ≤ 5000 ∧ Ok t ∧ 0 ≤ n ∧ n ≤ 300 ∧
  ∀ (p : Addr) (us : List V) (es : List Ed) (H' : Hp), SL r H H' → Reel H' r → Frs H p → H' p = some (.lst us) → Edits H' us es → es.length = n.toNat → (∀ x ∈ es, Nm x) → fits t.length es → sza t.length es ≤ 5000 → (∀ k, sza t.length (es.take k) ≤ 5000) → Q (.ref p) H'
theorem use_edit_row {r : Addr} {t : Str} {n : Int} {H : Hp} {Q : VK} {E : XK} (hR : Reel H r) (ht : t.length ≤ 5000 ∧ Ok t) (hn : 0 ≤ n ∧ n ≤ 300)
    (h : ∀ (p : Addr) (us : List V) (es : List Ed) (H' : Hp), SL r H H' → Reel H' r → Frs H p → H' p = some (.lst us) → Edits H' us es → es.length = n.toNat → (∀ x ∈ es, Nm x) → fits t.length es → sza t.length es ≤ 5000 → Q (.ref p) H') :
    sp_law_edit_row [.ref r, .str t, .int n] H Q E := ⟨r, t, n, rfl, hR, ht.1, ht.2, hn.1, hn.2, fun p us es H' h1 h2 h3 h4 h5 h6 h7 h8 h9 _ => h p us es H' h1 h2 h3 h4 h5 h6 h7 h8 h9⟩
theorem use_edit_rowK {r : Addr} {t : Str} {n : Int} {H : Hp} {Q : VK} {E : XK} (hR : Reel H r) (ht : t.length ≤ 5000 ∧ Ok t) (hn : 0 ≤ n ∧ n ≤ 300)
    (h : ∀ (p : Addr) (us : List V) (es : List Ed) (H' : Hp), SL r H H' → Reel H' r → Frs H p → H' p = some (.lst us) → Edits H' us es → es.length = n.toNat → (∀ x ∈ es, Nm x) → fits t.length es → (∀ k, sza t.length (es.take k) ≤ 5000) → Q (.ref p) H') :
    sp_law_edit_row [.ref r, .str t, .int n] H Q E := ⟨r, t, n, rfl, hR, ht.1, ht.2, hn.1, hn.2, fun p us es H' h1 h2 h3 h4 h5 h6 h7 h8 _ h9 => h p us es H' h1 h2 h3 h4 h5 h6 h7 h8 h9⟩
section
variable {P : Program} {w : World} {K : PySem.W.Frag} {mg : Str → Option Value} {base : Heap}
theorem cal_law_edit_row {f : Addr} {fd : FuncData} (T : Txt mg) (FD : C8.Def K mg "_law_edit_row" s_law_edit_row f fd) (b : Binds K fd ["reel", "text", "count"] [])
    (c_law_draw : C8.Cal P w K mg base 1 "_law_draw" sp_law_draw [])
    (c_law_new : C8.Cal P w K mg base 4 "_law_new" sp_law_new [])
    (c_law_pick : C8.Cal P w K mg base 2 "_law_pick" sp_law_pick []) : C8.Cal P w K mg base 5 "_law_edit_row" sp_law_edit_row [] := by
  refine C8.cal0 FD b .nil sc_law_edit_row (fun vs H Q E h => ?_) (fun cdv A outer s H vs Q E hr h => ?_)
  · obtain ⟨r, t, n, rfl, _⟩ := h; rfl
  · obtain ⟨r, t, n, rfl, hR, ht, htk, hn0, hn1, k⟩ := h
    refine ⟨_, (pss_cons (ps_set (i := 3) sc_law_edit_row.nd rfl (.inl rfl) (pe_lst pa_nil))
  (pss_cons (ps_set (i := 4) sc_law_edit_row.nd rfl (.inl rfl) (pv 1))
  (pss_cons (ps_set (i := 5) sc_law_edit_row.nd rfl (.inl rfl) pe_int)
  (pss_cons (ps_for PassesOwn.never rfl (pi_range1 rfl T.n_range (pa_cons (pv 2) pa_nil)) (pg_name (i := 6) sc_law_edit_row.nd rfl (.inl rfl)) (pss_cons (ps_set (i := 7) sc_law_edit_row.nd rfl (.inl rfl) (C8.pe_c c_law_draw hr (by decide) (by rfl) (pa_cons (pv 0) (pa_cons pe_int pa_nil))))
  (pss_cons (ps_set (i := 8) sc_law_edit_row.nd rfl (.inl rfl) (C8.pe_c c_law_draw hr (by decide) (by rfl) (pa_cons (pv 0) (pa_cons (pe_op (op_addK K) (pe_callB (call_lenK K) (by rfl) T.n_len PySem.boot_len (pa_cons (pv 4) pa_nil)) pe_int) pa_nil))))
  (C8.pss_cut (ps_if (pt_cmpR op_ltU (pv 7) pe_int (nomark _)) (pss_one (ps_set (i := 8) sc_law_edit_row.nd rfl (.inl rfl) (pe_callB (call_min2U rfl) (by rfl) T.n_min (by decide +kernel) (pa_cons (pe_callB (call_lenK K) (by rfl) T.n_len PySem.boot_len (pa_cons (pv 4) pa_nil)) (pa_cons (pe_callB (call_max2U rfl) (by rfl) T.n_max (by decide +kernel) (pa_cons pe_int (pa_cons (pe_op op_subU (pe_op (op_addK K) (pv 5) (C8.pe_c c_law_draw hr (by decide) (by rfl) (pa_cons (pv 0) (pa_cons pe_int pa_nil)))) pe_int) pa_nil))) pa_nil))))) (pss_one (ps_if (pt_cmpR (op_eqK K (hu64 hr)) (pv 7) pe_int (nomark _)) (pss_one (ps_set (i := 8) sc_law_edit_row.nd rfl (.inl rfl) (pe_callB (call_max2U rfl) (by rfl) T.n_max (by decide +kernel) (pa_cons pe_int (pa_cons (pe_op op_subU (pe_callB (call_lenK K) (by rfl) T.n_len PySem.boot_len (pa_cons (pv 4) pa_nil)) (C8.pe_c c_law_draw hr (by decide) (by rfl) (pa_cons (pv 0) (pa_cons pe_int pa_nil)))) pa_nil))))) pss_nil)))
  (pss_cons (ps_set (i := 9) sc_law_edit_row.nd rfl (.inl rfl) (pe_callB (call_min2U rfl) (by rfl) T.n_min (by decide +kernel) (pa_cons (pe_callB (call_lenK K) (by rfl) T.n_len PySem.boot_len (pa_cons (pv 4) pa_nil)) (pa_cons (pe_op (op_addK K) (pv 8) (C8.pe_c c_law_pick hr (by decide) (by rfl) (pa_cons (pv 0) (pa_cons (pe_lst (pa_cons pe_int (pa_cons pe_int (pa_cons pe_int (pa_cons pe_int (pa_cons pe_int (pa_cons pe_int (pa_cons pe_int (pa_cons pe_int (pa_cons (pe_op op_divU (pe_callB (call_lenK K) (by rfl) T.n_len PySem.boot_len (pa_cons (pv 4) pa_nil)) pe_int) pa_nil)))))))))) pa_nil)))) pa_nil))))
  (pss_cons (ps_set (i := 10) sc_law_edit_row.nd rfl (.inl rfl) (C8.pe_c c_law_new hr (by decide) (by rfl) (pa_cons (pv 0) pa_nil)))
  (C8.pss_cut (ps_if (PW.pt (pw_and (pt_cmpR (op_eqK K (hu64 hr)) (pv 7) pe_int (nomark _)) (pw_and1 (pt_truK K (pv 3) (by intro _; rfl))))) (pss_cons (ps_set (i := 8) sc_law_edit_row.nd rfl (.inl rfl) (pe_ix (ix_K K) (pe_ix (ix_K K) (pv 3) (pe_un un_neg pe_int) (fun _ _ => rfl)) pe_int (fun _ _ => rfl)))
  (pss_cons (ps_set (i := 9) sc_law_edit_row.nd rfl (.inl rfl) (pe_op (op_addK K) (pv 8) (pe_callB (call_lenK K) (by rfl) T.n_len PySem.boot_len (pa_cons (pe_ix (ix_K K) (pe_ix (ix_K K) (pv 3) (pe_un un_neg pe_int) (fun _ _ => rfl)) pe_int (fun _ _ => rfl)) pa_nil))))
  (pss_one (ps_set (i := 10) sc_law_edit_row.nd rfl (.inl rfl) pe_str)))) (pss_one (ps_if (pt_cmpR (op_eqK K (hu64 hr)) (pv 7) pe_int (nomark _)) (pss_one (ps_set (i := 10) sc_law_edit_row.nd rfl (.inl rfl) (pe_slice (sl_K K) (pv 4) (po_some (pv 8)) (po_some (pv 9))))) (pss_one (ps_if (pt_cmpR (op_eqK K (hu64 hr)) (pv 7) pe_int (nomark _)) (pss_cons (ps_set (i := 8) sc_law_edit_row.nd rfl (.inl rfl) pe_int)
  (pss_one (ps_set (i := 9) sc_law_edit_row.nd rfl (.inl rfl) (C8.pe_c c_law_pick hr (by decide) (by rfl) (pa_cons (pv 0) (pa_cons (pe_lst (pa_cons pe_int (pa_cons (pe_callB (call_min2U rfl) (by rfl) T.n_min (by decide +kernel) (pa_cons pe_int (pa_cons (pe_callB (call_lenK K) (by rfl) T.n_len PySem.boot_len (pa_cons (pv 4) pa_nil)) pa_nil))) (pa_cons (pe_callB (call_lenK K) (by rfl) T.n_len PySem.boot_len (pa_cons (pv 4) pa_nil)) pa_nil)))) pa_nil)))))) pss_nil)))))
  (C8.pss_cut (ps_if (pt_cmpR op_gtU (pe_op (op_addK K) (pe_callB (call_lenK K) (by rfl) T.n_len PySem.boot_len (pa_cons (pv 4) pa_nil)) (pe_callB (call_lenK K) (by rfl) T.n_len PySem.boot_len (pa_cons (pv 10) pa_nil))) pe_int (nomark _)) (pss_one (ps_set (i := 10) sc_law_edit_row.nd rfl (.inl rfl) pe_str)) pss_nil)
  (pss_cons (ps_expr (pe_bm F.plainAttrs_list F.slot_list_append F.type_list_append mt_append (pv 3) (pa_cons (pe_tup (pa_cons (pv 8) (pa_cons (pv 9) (pa_cons (pv 10) pa_nil)))) pa_nil)))
  (pss_cons (ps_set (i := 5) sc_law_edit_row.nd rfl (.inl rfl) (pe_op (op_addK K) (pv 8) (C8.pe_c c_law_draw hr (by decide) (by rfl) (pa_cons (pv 0) (pa_cons (pe_op (op_addK K) (pe_callB (call_lenK K) (by rfl) T.n_len PySem.boot_len (pa_cons (pv 10) pa_nil)) pe_int) pa_nil)))))
  (pss_one (ps_set (i := 4) sc_law_edit_row.nd rfl (.inl rfl) (pe_op (op_addK K) (pe_op (op_addK K) (pe_slice (sl_K K) (pv 4) po_none (po_some (pv 8))) (pv 10)) (pe_slice (sl_K K) (pv 4) (po_some (pv 9)) po_none))))))))))))))
  (pss_one (ps_ret (pv 3))))))), ?_⟩
    show (_ : TS) _ [some (.ref r), some (.str t), some (.int n), none, none, none, none, none, none, none, none] H
    walk_at "rd"
    refine newO_gen fun e H0 f0 s0 h0 => ?_
    have her : e ≠ r := (hR.ne f0).symm
    walk_at "rd"
    refine loopR_by (fun i σ' H' => ∃ (us : List V) (es : List Ed) (now : Str) (near : Int) (o6 o7 o8 o9 o10 : Option V), σ' = [some (.ref r), some (.str t), some (.int n), some (.ref e), some (.str now), some (.int near), o6, o7, o8, o9, o10] ∧
      SL r H H' ∧ Reel H' r ∧ H' e = some (.lst us) ∧ Edits H' us es ∧ es.length = i ∧ (∀ x ∈ es, Nm x) ∧ fits t.length es ∧ (now.length : Int) = sza t.length es ∧ now.length ≤ 5000 ∧ Ok now ∧
      (∀ es' x, es = es' ++ [x] → 0 ≤ x.s ∧ x.s + (x.n.length : Int) ≤ (now.length : Int)) ∧ ∀ k, sza t.length (es.take k) ≤ 5000) ?_ ?_ ?_
    · exact ⟨[], [], t, 0, none, none, none, none, none, rfl, hR.sl0 s0, hR.same s0, h0, .nil, rfl, fun _ h => (nomatch h), trivial, rfl, ht, htk, (fun es' x h => by simp at h), fun k => by rw [List.take_nil]; show (t.length : Int) ≤ 5000; omega⟩
    · rintro i σ' Hi hi ⟨us, es, now, near, o6, o7, o8, o9, o10, rfl, si, ri, hei, edi, hl, hnew, hfit, hsz, hnow, hnok, hlast, hall⟩
      have hul := Paired.len edi
      walk_at "rd"
      refine use_draw ri (by omega) fun fm H1 a1 b1 s1 r1 => ?_
      walk_at "rd"
      refine use_draw r1 (by omega) fun st0 H2 a2 b2 s2 r2 => ?_
      walk_at "rd"
      refine rCut (fun σ' H' => ∃ st : Int, σ' = [some (.ref r), some (.str t), some (.int n), some (.ref e), some (.str now), some (.int near), some (.int (0 + (i : Int))), some (.int fm), some (.int st), o9, o10] ∧ 0 ≤ st ∧ st ≤ (now.length : Int) ∧ SL r H2 H' ∧ Reel H' r) ?_ ?_
      · walk_at "rd"
        refine ifD (fun c => ?_) (fun c => ?_)
        · walk_at "rd"
          refine use_draw r2 (by omega) fun d H3 a3 b3 s3 r3 => ?_
          walk_at "rd"
          refine ⟨_, rfl, ?_, ?_, s3, r3⟩
          · (repeat' split) <;> omega
          · (repeat' split) <;> omega
        · walk_at "rd"
          refine ifD (fun c => ?_) (fun c => ?_)
          · walk_at "rd"
            refine use_draw r2 (by omega) fun d H3 a3 b3 s3 r3 => ?_
            walk_at "rd"
            refine ⟨_, rfl, ?_, ?_, s3, r3⟩
            · (repeat' split) <;> omega
            · (repeat' split) <;> omega
          · walk_at "rd"
            exact ⟨_, rfl, a2, by omega, r2.refl, r2⟩
      rintro σ' H3 ⟨st, rfl, st0, st1, s3, r3⟩
      walk_at "rd"
      refine newO_gen fun p4 H4 f4 s4 h4 => ?_
      walk_at "rd"
      refine use_pickI (lo := 0) (hi := 5000) (r3.same s4) h4 (r3.ne f4).symm (Nat.zero_lt_succ _) (by repeat (first | exact AllI.nil | refine AllI.cons (by omega) ?_)) fun pk H5 a5 b5 s5 r5 => ?_
      walk_at "rd"
      generalize hen0 : (if st + pk < (now.length : Int) then st + pk else (now.length : Int)) = en0
      have hen1 : st ≤ en0 := by rw [← hen0]; split <;> omega
      have hen2 : en0 ≤ (now.length : Int) := by rw [← hen0]; split <;> omega
      refine use_txt r5 fun nw0 H6 hnw0 hok0 s6 r6 => ?_
      have s26 := (s1.trans s2).trans (((s3.more s4).trans s5).trans s6)
      have he6 : H6 e = some (.lst us) := s26.keep e _ her hei
      have ed6 : Edits H6 us es := edi.ts (TpS.sl s26)
      walk_at "rd"
      refine rCut (fun σ' H' => ∃ (st en : Int) (nw : Str), σ' = [some (.ref r), some (.str t), some (.int n), some (.ref e), some (.str now), some (.int near), some (.int (0 + (i : Int))), some (.int fm), some (.int st), some (.int en), some (.str nw)] ∧ 0 ≤ st ∧ st ≤ en ∧ en ≤ (now.length : Int) ∧ nw.length ≤ 5000 ∧ Ok nw ∧ SL r H6 H' ∧ Reel H' r) ?_ ?_
      · walk_at "rd"
        refine ifD (fun c => ?_) (fun c => ?_)
        · walk_at "rd"
          refine ifB (fun c2 => ?_) (fun c2 => ?_)
          · obtain ⟨us', v, rfl⟩ : ∃ us' v, us = us' ++ [v] := by
              rcases List.eq_nil_or_concat us with h | ⟨us', v, h⟩
              · rw [h] at c2; simp at c2
              · exact ⟨us', v, by rw [h, List.concat_eq_append]⟩
            obtain ⟨es', x, rfl, _, px, rfl, hpx⟩ := Paired.last ed6
            have hx := hlast es' x rfl
            have hxn := (hnew x (by simp)).1
            have hat : atI (us' ++ [V.ref px]) (-1) = some (V.ref px) := atI_last _ _
            walk_at "rd"
            exact ⟨_, _, _, rfl, hx.1, by omega, hx.2, by decide +kernel, by decide +kernel, r6.refl, r6⟩
          · walk_at "rd"
            refine ifD (fun d => by exfalso; omega) (fun d => ?_)
            walk_at "rd"
            refine ifD (fun d => by exfalso; omega) (fun d => ?_)
            walk_at "rd"
            exact ⟨_, _, _, rfl, st0, hen1, hen2, by omega, hok0, r6.refl, r6⟩
        · walk_at "rd"
          refine ifD (fun d => ?_) (fun d => ?_)
          · walk_at "rd"
            exact ⟨_, _, _, rfl, st0, hen1, hen2, Nat.le_trans (cutS_length _ _ _) hnow, hnok.cut _ _, r6.refl, r6⟩
          · walk_at "rd"
            refine ifD (fun d => ?_) (fun d => ?_)
            · walk_at "rd"
              refine newO_gen fun pA HA fA sA hA => ?_
              walk_at "rd"
              refine use_pickI (lo := 0) (hi := now.length) (r6.same sA) hA (r6.ne fA).symm (Nat.zero_lt_succ _) (.cons (by omega) (.cons (by split <;> omega) (.cons (by omega) .nil))) fun pk2 HB aB bB sB rB => ?_
              walk_at "rd"
              exact ⟨_, _, _, rfl, Int.le_refl _, aB, bB, by omega, hok0, (r6.sl0 sA).trans sB, rB⟩
            · walk_at "rd"
              exact ⟨_, _, _, rfl, st0, hen1, hen2, by omega, hok0, r6.refl, r6⟩
      rintro σ' H7 ⟨st, en, nw, rfl, e0, e1, e2, e3, e4, s7, r7⟩
      have he7 : H7 e = some (.lst us) := s7.keep e _ her he6
      walk_at "rd"
      refine rCut (fun σ' H' => ∃ (nw : Str), σ' = [some (.ref r), some (.str t), some (.int n), some (.ref e), some (.str now), some (.int near), some (.int (0 + (i : Int))), some (.int fm), some (.int st), some (.int en), some (.str nw)] ∧ nw.length ≤ 2000 ∧ now.length + nw.length ≤ 5000 ∧ Ok nw ∧ H' = H7) ?_ ?_
      · walk_at "rd"
        refine ifD (fun c => ?_) (fun c => ?_)
        · walk_at "rd"
          exact ⟨_, rfl, by decide +kernel, by show now.length + 0 ≤ _; omega, by decide +kernel, rfl⟩
        · walk_at "rd"
          exact ⟨_, rfl, by omega, by omega, e4, rfl⟩
      rintro σ' H7 ⟨nw, rfl, g1, g2, g3, rfl⟩
      walk_at "rd"
      refine newO_gen fun p8 H8 f8 s8 h8 => ?_
      walk_at "rd"
      have he8 : H8 e = some (.lst us) := s8 _ _ he7
      have hre : r ≠ e := her.symm
      refine putO_gen he8 fun H9 s9 h9 => ?_
      have r9 : Reel H9 r := (r7.same s8).sl s9 hre
      walk_at "rd"
      refine use_draw r9 (by omega) fun nr H10 a10 b10 s10 r10 => ?_
      have q1 := cutS_length now none (some st)
      have q2 := cutS_length now (some en) none
      have q3 := len_app (cutS now none (some st)) nw
      walk_at "rd"
      have hf : fit1 now.length ⟨st, en, nw⟩ := ⟨e0, e1, e2⟩
      have hla := len_ap (t := now) hf
      have hst : SL r H9 H10 := s10
      have sA : SL r H H8 := ((si.trans s26).trans s7).more s8
      have sB : SL r H H10 := (SL.two sA s9 f0).trans s10
      refine ⟨us ++ [V.ref p8], es ++ [⟨st, en, nw⟩], ap now ⟨st, en, nw⟩, st + nr, _, _, _, _, _, rfl, sB, r10, s10.keep e _ her h9, ?_, ?_, ?_, fits_snoc hfit (by rw [← hsz]; exact hf), ?_, ?_, hnok.ap g3, ?_, ?_⟩
      · have t1 : TpS H6 H10 := (TpS.sl s7).trans ((TpS.same s8).trans ((TpS.sl s9).trans (TpS.sl s10)))
        exact Paired.snoc (ed6.ts t1) ⟨p8, rfl, s10.tup (s9.tup h8)⟩
      · rw [List.length_append, hl]; rfl
      · intro x hx
        rcases List.mem_append.mp hx with hx | hx
        · exact hnew x hx
        · rw [List.mem_singleton.mp hx]; exact ⟨g1, g3⟩
      · rw [hla, sza_snoc, hsz]
      · have : ((ap now ⟨st, en, nw⟩).length : Int) ≤ 5000 := by rw [hla]; show (now.length : Int) - (en - st) + (nw.length : Int) ≤ 5000; omega
        omega
      · intro es2 x h
        obtain ⟨_, h2⟩ := List.append_inj' h rfl
        have e3 : x = ⟨st, en, nw⟩ := by simpa using h2.symm
        rw [e3, hla]
        show 0 ≤ st ∧ st + (nw.length : Int) ≤ (now.length : Int) - (en - st) + (nw.length : Int)
        omega
      · intro k
        by_cases hk : k ≤ es.length
        · rw [List.take_append_of_le_length hk]
          exact hall k
        · rw [List.take_of_length_le (by rw [List.length_append]; show es.length + 1 ≤ k; omega), sza_snoc, ← hsz]
          show (now.length : Int) - (en - st) + (nw.length : Int) ≤ 5000
          omega
    · rintro σ' H' ⟨us, es, now, near, o6, o7, o8, o9, o10, rfl, si, ri, hei, edi, hl, hnew, hfit, hsz, hnow, hnok, hlast, hall⟩
      walk_at "rd"
      exact k e us es H' si ri f0 hei edi (by omega) hnew hfit (by omega) hall
end
end Z
namespace Z
open PySem PySem.Spec L2
/-! ## planted edits do not fit -/
/-- the list begins as es, up to an edit that does not fit there -/
def Spoilt (sz : Int) (es es' : List Ed) : Prop := ∃ (j : Nat) (x : Ed), es'.take j = es.take j ∧ es'[j]? = some x ∧ ¬ fit1 (sza sz (es.take j)) x
theorem Spoilt.unfit {sz : Int} {es es' : List Ed} (h : Spoilt sz es es') : ¬ fits sz es' := fun hf => by
  obtain ⟨j, x, h1, h2, h3⟩ := h
  have h4 := fits_take hf (j + 1)
  rw [take_snoc h2, h1] at h4
  exact h3 (fits_app.mp h4).2.1
theorem Spoilt.pre {sz : Int} {es es' : List Ed} (h : Spoilt sz es es') {k : Nat} (hf : fits sz (es'.take k)) : es'.take k = es.take k := by
  obtain ⟨j, x, h1, h2, h3⟩ := h
  by_cases c : k ≤ j
  · have := congrArg (List.take k) h1
    rw [List.take_take, List.take_take, Nat.min_eq_left c] at this
    exact this
  · refine absurd ?_ h3
    have h4 := fits_take hf (j + 1)
    rw [List.take_take, Nat.min_eq_left (by omega), take_snoc h2, h1] at h4
    exact (fits_app.mp h4).2.1
theorem spoil {sz : Int} {es es' : List Ed} {d : Nat} {x : Ed} (h : es' = es ∧ d ≤ es.length ∨ Spoilt sz es es') (hx : ¬ fit1 (sza sz (es.take d)) x) : Spoilt sz es (es'.take d ++ [x] ++ es'.drop (d + 1)) := by
  have here : es'.take d = es.take d → (es'.take d).length = d → Spoilt sz es (es'.take d ++ [x] ++ es'.drop (d + 1)) := fun e l => by
    refine ⟨d, x, ?_, ?_, hx⟩
    · rw [List.append_assoc, List.take_left' l, e]
    · rw [List.append_assoc, List.getElem?_append_right (by omega), l, Nat.sub_self]
      rfl
  rcases h with ⟨rfl, hd⟩ | ⟨j, y, h1, h2, h3⟩
  · exact here rfl (by rw [List.length_take]; omega)
  · have hj := (List.getElem?_eq_some_iff.mp h2).1
    by_cases c : d ≤ j
    · refine here ?_ (by rw [List.length_take]; omega)
      have := congrArg (List.take d) h1
      rw [List.take_take, List.take_take, Nat.min_eq_left c] at this
      exact this
    · have l : j < (es'.take d).length := by rw [List.length_take]; omega
      refine ⟨j, y, ?_, ?_, h3⟩
      · rw [List.append_assoc, List.take_append_of_le_length (by omega), List.take_take, Nat.min_eq_left (by omega)]
        exact h1
      · rw [List.append_assoc, List.getElem?_append_left l, List.getElem?_take_of_lt (by omega)]
        exact h2
/-- the sizes ahead of each edit, and behind the last -/
def szs (sz : Int) (es : List Ed) (i : Nat) : List Int := (List.range (i + 1)).map fun j => sza sz (es.take j)
theorem szs_snoc (sz : Int) (es : List Ed) (i : Nat) : szs sz es (i + 1) = szs sz es i ++ [sza sz (es.take (i + 1))] := by
  unfold szs
  rw [List.range_succ, List.map_append]
  rfl
theorem szs_at {sz : Int} {es : List Ed} {i j : Nat} {n : Int} (h : (szs sz es i)[j]? = some n) : j ≤ i ∧ n = sza sz (es.take j) := by
  unfold szs at h
  rw [List.getElem?_map] at h
  by_cases c : j < i + 1
  · rw [List.getElem?_range c] at h
    exact ⟨by omega, (Option.some.inj h).symm⟩
  · rw [List.getElem?_eq_none (by rw [List.length_range]; omega)] at h
    cases h
end Z
namespace Z
open PySem PySem.Spec L2
local macro_rules | `(tactic| walk_at "ne") => `(tactic| first
  | with_reducible assumption
  | with_reducible exact Ne.symm (by assumption)
  | exact Frs.ne (by with_reducible assumption) (by walk_at "hp")
  | exact Frs.ne' (by with_reducible assumption) (by walk_at "hp"))
local macro_rules | `(tactic| walk_at "hp") => `(tactic| first
  | with_reducible assumption
  | (with_reducible refine Same.at (by assumption) ?_; walk_at "hp")
  | (with_reducible refine SL.tup (by assumption) ?_; walk_at "hp")
  | (with_reducible refine SL.at (by assumption) (by walk_at "ne") ?_; walk_at "hp"))
local macro_rules | `(tactic| walk_at "sz") => `(tactic| first
  | with_reducible assumption
  | exact Nat.le_of_ble_eq_true rfl
  | (refine sz_le ?_; omega)
  | (refine sz_lt ?_; omega)
  | decide +kernel)
local macro_rules | `(tactic| walk_at "at") => `(tactic| first
  | with_reducible assumption
  | with_reducible exact at0
  | with_reducible exact at1
  | with_reducible exact at2
  | with_reducible exact ixN0)
local macro_rules | `(tactic| walk_at "nn") => `(tactic| first
  | omega
  | decide
  | exact ⟨by decide, by decide⟩
  | exact ⟨by omega, by omega⟩
  | exact ⟨by omega, by omega, by omega, by omega⟩)
local macro_rules | `(tactic| walk_at "rdv") => `(tactic| first
  | (with_reducible refine add_int ?_)
  | (with_reducible refine sub_int ?_)
  | (with_reducible refine neg_int ?_)
  | ((with_reducible refine ix_tpl (xs := ?xs) (v := ?v) ?h1 ?h2 ?_); (case h1 => walk_at "hp"); (case h2 => walk_at "at"))
  | ((with_reducible refine ix_lst (xs := ?xs) (v := ?v) ?h1 ?h2 ?_); (case h1 => walk_at "hp"); (case h2 => walk_at "at"))
  | (with_reducible refine eq_int ?_)
  | (with_reducible refine ne_int ?_)
  | (with_reducible refine lt_int ?_)
  | (with_reducible refine le_int ?_)
  | (with_reducible refine gt_int ?_)
  | (with_reducible refine ge_int ?_)
  | (with_reducible refine eq_str ?_)
  | (with_reducible refine ne_str ?_)
  | (with_reducible refine eq_bl ?_)
  | (with_reducible refine ne_bl ?_)
  | ((with_reducible refine mod_int ?hc ?_); (case hc => walk_at "nn"))
  | ((with_reducible refine div_int ?hc ?_); (case hc => walk_at "nn"))
  | ((with_reducible refine mul_intR ?hc ?_); (case hc => exact ⟨by decide, by decide⟩))
  | ((with_reducible refine mul_intR ?hc ?_); (case hc => exact ⟨by omega, by omega⟩))
  | ((with_reducible refine mul_intL ?hc ?_); (case hc => exact ⟨by omega, by omega⟩))
  | ((with_reducible refine pow_int ?hc ?_); (case hc => exact ⟨by decide, by decide, by decide⟩))
  | ((with_reducible refine add_str ?hc ?_); (case hc => walk_at "sz"))
  | ((with_reducible refine add_lst (xs := ?xs) (ys := ?ys) ?h1 ?h2 ?hc ?_); (case h1 => walk_at "hp"); (case h2 => walk_at "hp"); (case hc => walk_at "sz"))
  | ((with_reducible refine sl_strU ?hc ?_); (case hc => walk_at "sz"))
  | ((with_reducible refine sl_lst (xs := ?xs) ?h1 ?_); (case h1 => walk_at "hp"))
  | (with_reducible refine is_bl ?_)
  | (with_reducible refine isnt_bl ?_)
  | (with_reducible refine is_non ?_)
  | (with_reducible refine isnt_non ?_))
local macro_rules | `(tactic| walk_at "rdc") => `(tactic| first
  | ((with_reducible refine len_lst (xs := ?xs) ?h1 ?_); (case h1 => walk_at "hp"))
  | ((with_reducible refine len_tup (xs := ?xs) ?h1 ?_); (case h1 => walk_at "hp"))
  | ((with_reducible refine len_str ?hc ?_); (case hc => walk_at "sz"))
  | (with_reducible refine int_int ?_)
  | (with_reducible refine max_int ?_)
  | (with_reducible refine min_int ?_)
  | (with_reducible refine abs_int ?_)
  | (with_reducible refine isi_ii ?_)
  | (with_reducible refine isi_ib ?_)
  | (with_reducible refine isi_ss ?_)
  | (with_reducible refine isi_bb ?_)
  | ((with_reducible refine isi_tt (xs := ?xs) ?h1 ?_); (case h1 => walk_at "hp"))
  | ((with_reducible refine isi_ll (xs := ?xs) ?h1 ?_); (case h1 => walk_at "hp"))
  | ((with_reducible refine list_lst (xs := ?xs) ?h1 ?_); (case h1 => walk_at "hp"))
  | ((with_reducible refine list_tup (xs := ?xs) ?h1 ?_); (case h1 => walk_at "hp"))
  | ((with_reducible refine tuple_lst (xs := ?xs) ?h1 ?_); (case h1 => walk_at "hp"))
  | ((with_reducible refine tuple_tup (xs := ?xs) ?h1 ?_); (case h1 => walk_at "hp"))
  | ((with_reducible refine append_lst (xs := ?xs) ?h1 ?hc ?_); (case h1 => walk_at "hp"); (case hc => walk_at "sz"))
  | ((with_reducible refine clear_lst (xs := ?xs) ?h1 ?_); (case h1 => walk_at "hp"))
  | ((with_reducible refine set_lst (xs := ?xs) (k := ?k) ?h1 ?h2 ?_); (case h1 => walk_at "hp"); (case h2 => walk_at "at")))
local macro_rules | `(tactic| walk_at "rd1") => `(tactic| first
  | ((with_reducible refine rVar (v := ?v) ?h ?_); (case h => exact rfl))
  | (with_reducible refine rC ?_)
  | (with_reducible refine rCons ?_)
  | (with_reducible refine rNil ?_)
  | (with_reducible refine rOp ?_)
  | (with_reducible refine rSeq ?_)
  | (with_reducible refine rAsgN ?_)
  | (with_reducible refine rAsgT ?_)
  | (with_reducible refine rAsgS ?_)
  | (with_reducible refine rTest ?_)
  | (with_reducible refine rBl ?_)
  | (with_reducible refine rBl' ?_)
  | (with_reducible refine rInt ?_)
  | (with_reducible refine rInt' ?_)
  | (with_reducible refine rCall ?_)
  | (with_reducible refine rCB ?_)
  | (with_reducible refine rRet ?_)
  | (with_reducible refine rDrop ?_)
  | (with_reducible refine rIfS ?_)
  | (with_reducible refine rTup ?_)
  | (with_reducible refine rLst ?_)
  | (with_reducible refine ⟨Nat.le_of_ble_eq_true rfl, ?_⟩)
  | (with_reducible refine rSl ?_)
  | (with_reducible refine rPart ?_)
  | (with_reducible refine rNoPart ?_)
  | (with_reducible refine rBM ?_)
  | (with_reducible refine rBM0 ?_)
  | ((with_reducible refine tyL (xs := ?xs) ?h1 ?_); (case h1 => walk_at "hp"))
  | (with_reducible refine rM1 ?_)
  | (with_reducible refine rM0 ?_)
  | (with_reducible refine rStr ?_)
  | (with_reducible refine rTru ?_)
  | (with_reducible refine tru_bl ?_)
  | (with_reducible refine tru_int ?_)
  | ((with_reducible refine tru_lst (xs := ?xs) ?h1 ?_); (case h1 => walk_at "hp"))
  | ((with_reducible refine tru_tup (xs := ?xs) ?h1 ?_); (case h1 => walk_at "hp"))
  | ((with_reducible refine tru_str ?hc ?_); (case hc => walk_at "sz"))
  | (with_reducible refine rAnd ?_)
  | (with_reducible refine rOr ?_)
  | (with_reducible refine rNot ?_)
  | (with_reducible refine rAndV ?_)
  | (with_reducible refine rOrV ?_)
  | (with_reducible refine rNotV ?_)
  | (with_reducible refine rIfE ?_)
  | (with_reducible refine rChain ?_)
  | (with_reducible refine rChain3 ?_)
  | (with_reducible refine ifT ?_)
  | (with_reducible refine ifF ?_)
  | (with_reducible refine ifNF ?_)
  | (with_reducible refine ifNT ?_)
  | (with_reducible refine rNext ?_)
  | (with_reducible refine rBrk ?_)
  | (with_reducible refine rCnt ?_)
  | (with_reducible refine rRetN ?_)
  | (with_reducible refine rForR1 ?_)
  | (with_reducible refine rForR2 ?_)
  | (with_reducible refine rForL ?_)
  | ((with_reducible refine rRg1 ?hb ?_); (case hb => walk_at "nn"))
  | ((with_reducible refine rRg2 ?hb ?_); (case hb => walk_at "nn"))
  | ((with_reducible refine rRf (xs := ?xs) ?h1 ?_); (case h1 => walk_at "hp"))
  | (with_reducible refine rLcR1 ?_)
  | (with_reducible refine rLcR2 ?_)
  | (with_reducible refine rLcL ?_)
  | (with_reducible refine gN ?_)
  | (with_reducible refine gNl ?_)
  | (with_reducible refine gC ?_)
  | ((with_reducible refine gT (xs := ?xs) ?h1 ?h2 ?_); (case h1 => walk_at "hp"); (case h2 => exact rfl))
  | (with_reducible refine rUn ?_)
  | walk_at "rdv"
  | walk_at "rdc")
local macro_rules | `(tactic| walk_at "rd") => `(tactic| repeat walk_at "rd1")

def sp_law_number : Sp := fun vs H Q _ => ∃ i : Int, vs = [.int i] ∧ Q (.bl true) H
theorem use_number {i : Int} {H : Hp} {Q : VK} {E : XK} (h : Q (.bl true) H) : sp_law_number [.int i] H Q E := ⟨i, rfl, h⟩
def sp_law_unfit : Sp := fun vs H Q _ => ∃ (r : Addr) (n : Int), vs = [.ref r, .int n] ∧ Reel H r ∧ 0 ≤ n ∧
  ∀ (p : Addr) (a b : Int) (x : Str) (H' : Hp), ¬ fit1 n ⟨a, b, x⟩ → x.length ≤ 2 → Ok x → SL r H H' → Reel H' r → H' p = some (.tup [.int a, .int b, .str x]) → Q (.ref p) H'
theorem use_unfit {r : Addr} {n : Int} {H : Hp} {Q : VK} {E : XK} (hR : Reel H r) (hn : 0 ≤ n)
    (h : ∀ (p : Addr) (a b : Int) (x : Str) (H' : Hp), ¬ fit1 n ⟨a, b, x⟩ → x.length ≤ 2 → Ok x → SL r H H' → Reel H' r → H' p = some (.tup [.int a, .int b, .str x]) → Q (.ref p) H') : sp_law_unfit [.ref r, .int n] H Q E := ⟨r, n, rfl, hR, hn, h⟩
def sp_law_planted : Sp := fun vs H Q _ => ∃ (r p : Addr) (t : Str) (us : List V) (es : List Ed) (m : Int), vs = [.ref r, .str t, .ref p, .int m] ∧ Reel H r ∧ p ≠ r ∧ t.length ≤ 5000 ∧ H p = some (.lst us) ∧ Edits H us es ∧ fits t.length es ∧ es.length ≤ 300 ∧ (∀ x ∈ es, Nm x) ∧ 0 ≤ m ∧ m ≤ 10 ∧
  ∀ (q : Addr) (us' : List V) (es' : List Ed) (H' : Hp), SL r H H' → Reel H' r → Frs H q → H' q = some (.lst us') → Edits H' us' es' → Small es' → (0 < m → ¬ fits t.length es') → (∀ k, fits t.length (es'.take k) → es'.take k = es.take k) → Q (.ref q) H'
section
variable {P : Program} {w : World} {K : PySem.W.Frag} {mg : Str → Option Value} {base : Heap}
theorem cal_law_number {f : Addr} {fd : FuncData} (T : Txt mg) (FD : C8.Def K mg "_law_number" s_law_number f fd) (b : Binds K fd ["value"] []) : C8.Cal P w K mg base 1 "_law_number" sp_law_number [] := by
  refine C8.cal0 FD b .nil sc_law_number (fun vs H Q E h => ?_) (fun cdv A outer s H vs Q E hr h => ?_)
  · obtain ⟨i, rfl, _⟩ := h; rfl
  · obtain ⟨i, rfl, k⟩ := h
    refine ⟨_, (pss_one (ps_ret (pe_and (pe_callB (call_isiK' K) (by rfl) T.n_isinstance (by decide +kernel) (pa_cons (pv 0) (pa_cons (pe_bltn (v := .ty "int") (by rfl) T.n_int (by decide +kernel) rfl) pa_nil))) (pe_one (pe_not (pe_callB (call_isiK' K) (by rfl) T.n_isinstance (by decide +kernel) (pa_cons (pv 0) (pa_cons (pe_bltn (v := .ty "bool") (by rfl) T.n_bool (by decide +kernel) rfl) pa_nil)))))))), ?_⟩
    show (_ : TS) _ [some (.int i)] H
    walk_at "rd"
    exact k
theorem cal_law_text {f : Addr} {fd : FuncData} (T : Txt mg) (FD : C8.Def K mg "_law_text" s_law_text f fd) (b : Binds K fd ["reel"] [])
    (c_law_draw : C8.Cal P w K mg base 1 "_law_draw" sp_law_draw [])
    (c_law_word : C8.Cal P w K mg base 3 "_law_word" sp_law_word [])
    (c_law_stepped : C8.Cal P w K mg base 3 "_law_stepped" sp_law_stepped [])
    (c_law_pick : C8.Cal P w K mg base 2 "_law_pick" sp_law_pick [])
    (c_law_signs : C8.Cal P w K mg base 1 "_law_signs" sp_law_signs []) : C8.Cal P w K mg base 4 "_law_text" sp_law_text [] := by
  refine C8.cal0 FD b .nil sc_law_text (fun vs H Q E h => ?_) (fun cdv A outer s H vs Q E hr h => ?_)
  · obtain ⟨r, rfl, _⟩ := h; rfl
  · obtain ⟨r, rfl, hR, k⟩ := h
    refine ⟨_, (pss_cons (ps_set (i := 1) sc_law_text.nd rfl (.inl rfl) (C8.pe_c c_law_draw hr (by decide) (by rfl) (pa_cons (pv 0) (pa_cons pe_int pa_nil))))
  (pss_cons (ps_if (pt_cmpR (op_eqK K (hu64 hr)) (pv 1) pe_int (nomark _)) (pss_cons (ps_set (i := 2) sc_law_text.nd rfl (.inl rfl) (pe_op (op_addK K) pe_int (C8.pe_c c_law_draw hr (by decide) (by rfl) (pa_cons (pv 0) (pa_cons pe_int pa_nil)))))
  (C8.pss_cut (ps_if (pt_cmpR (op_eqK K (hu64 hr)) (C8.pe_c c_law_draw hr (by decide) (by rfl) (pa_cons (pv 0) (pa_cons pe_int pa_nil))) pe_int (nomark _)) (pss_one (ps_set (i := 2) sc_law_text.nd rfl (.inl rfl) (pe_op op_subU pe_int (C8.pe_c c_law_draw hr (by decide) (by rfl) (pa_cons (pv 0) (pa_cons pe_int pa_nil)))))) pss_nil)
  (pss_one (ps_ret (C8.pe_c c_law_stepped hr (by decide) (by rfl) (pa_cons (pv 0) (pa_cons (pv 2) pa_nil))))))) pss_nil)
  (pss_cons (ps_if (pt_cmpR op_ltU (pv 1) pe_int (nomark _)) (pss_one (ps_ret (C8.pe_c c_law_stepped hr (by decide) (by rfl) (pa_cons (pv 0) (pa_cons (C8.pe_c c_law_pick hr (by decide) (by rfl) (pa_cons (pv 0) (pa_cons (pe_lst (pa_cons pe_int (pa_cons pe_int (pa_cons pe_int (pa_cons pe_int (pa_cons pe_int (pa_cons pe_int (pa_cons pe_int pa_nil)))))))) pa_nil))) pa_nil))))) pss_nil)
  (pss_one (ps_ret (C8.pe_c c_law_word hr (by decide) (by rfl) (pa_cons (pv 0) (pa_cons (C8.pe_c c_law_pick hr (by decide) (by rfl) (pa_cons (pv 0) (pa_cons (pe_lst (pa_cons (pe_c0 c_law_signs hr (by decide) (by rfl)) (pa_cons (pe_c0 c_law_signs hr (by decide) (by rfl)) (pa_cons pe_str (pa_cons pe_str pa_nil))))) pa_nil))) (pa_cons pe_int (pa_cons (C8.pe_c c_law_pick hr (by decide) (by rfl) (pa_cons (pv 0) (pa_cons (pe_lst (pa_cons pe_int (pa_cons pe_int (pa_cons pe_int (pa_cons pe_int pa_nil))))) pa_nil))) pa_nil)))))))))), ?_⟩
    show (_ : TS) _ [some (.ref r), none, none] H
    walk_at "rd"
    refine use_draw hR (by omega) fun fm H1 a1 b1 s1 r1 => ?_
    walk_at "rd"
    refine ifD (fun c => ?_) (fun c => ?_)
    · walk_at "rd"
      refine use_draw r1 (by omega) fun d2 H2 a2 b2 s2 r2 => ?_
      walk_at "rd"
      refine rCut (fun σ' H' => ∃ n : Int, σ' = [some (.ref r), some (.int fm), some (.int n)] ∧ 0 ≤ n ∧ n ≤ 2000 ∧ SL r H2 H' ∧ Reel H' r) ?_ ?_
      · walk_at "rd"
        refine use_draw r2 (by omega) fun d3 H3 a3 b3 s3 r3 => ?_
        walk_at "rd"
        refine ifD (fun c3 => ?_) (fun c3 => ?_)
        · walk_at "rd"
          refine use_draw r3 (by omega) fun d4 H4 a4 b4 s4 r4 => ?_
          walk_at "rd"
          exact ⟨_, rfl, by omega, by omega, s3.trans s4, r4⟩
        · walk_at "rd"
          exact ⟨_, rfl, by omega, by omega, s3, r3⟩
      rintro σ' H3 ⟨n, rfl, n0, n1, s3, r3⟩
      walk_at "rd"
      refine use_stepped r3 (by omega) fun x H4 hx ok4 s4 r4 => ?_
      exact k x H4 (by omega) ok4 ((s1.trans s2).trans (s3.trans s4)) r4
    · walk_at "rd"
      refine ifD (fun c => ?_) (fun c => ?_)
      · walk_at "rd"
        refine newO_gen fun p2 H2 f2 s2 h2 => ?_
        walk_at "rd"
        refine use_pickI (lo := 0) (hi := 60) (r1.same s2) h2 (r1.ne f2).symm (Nat.zero_lt_succ _) (by repeat (first | exact AllI.nil | refine AllI.cons (by omega) ?_)) fun st H3 t0 t1 s3 r3 => ?_
        walk_at "rd"
        refine use_stepped r3 (by omega) fun x H4 hx ok4 s4 r4 => ?_
        exact k x H4 (by omega) ok4 (((s1.more s2).trans s3).trans s4) r4
      · walk_at "rd"
        refine use_signs fun z1 hz1 => ?_
        walk_at "rd"
        refine use_signs fun z2 hz2 => ?_
        walk_at "rd"
        refine newO_gen fun p4 H4 f4 s4 h4 => ?_
        walk_at "rd"
        refine use_pickS (P := fun z => 0 < z.length ∧ z.length ≤ 200 ∧ Ok z) (r1.same s4) h4 (r1.ne f4).symm (Nat.zero_lt_succ _) (.cons hz1 (.cons hz2 (.cons (by decide +kernel) (.cons (by decide +kernel) .nil)))) fun lt H5 hlt s5 r5 => ?_
        walk_at "rd"
        refine newO_gen fun p6 H6 f6 s6 h6 => ?_
        walk_at "rd"
        refine use_pickI (lo := 0) (hi := 20) (r5.same s6) h6 (r5.ne f6).symm (Nat.zero_lt_succ _) (by repeat (first | exact AllI.nil | refine AllI.cons (by omega) ?_)) fun st H7 t0 t1 s7 r7 => ?_
        walk_at "rd"
        refine use_word r7 ⟨hlt.1, by omega⟩ (by omega) fun x H8 l1 l2 lc s8 r8 => ?_
        exact k x H8 (by omega) (fun c hc => hlt.2.2 c (lc c hc)) ((((s1.more s4).trans s5).more s6).trans (s7.trans s8)) r8
end
end Z
namespace Z
open PySem PySem.Spec L2
/-! ## edits as data -/
def edD (x : Ed) : PyData := .tuple [.int x.s, .int x.e, .str x.n]
theorem edD_shaped {x : Ed} (h : Ok x.n) : SeqAt.shaped (edD x) = true := by
  unfold edD SeqAt.shaped
  simp [PyData.canLay0, PyData.canLayAll0, PyData.depth, PyData.depthAll, h.strOk]
theorem edD_eqv (x y : Ed) : PyData.eqv (edD x) (edD y) = decide (x = y) := by
  obtain ⟨a, b, c⟩ := x
  obtain ⟨a', b', c'⟩ := y
  show (a == a' && (b == b' && (c == c' && true))) = decide ((⟨a, b, c⟩ : Ed) = ⟨a', b', c'⟩)
  by_cases h : (⟨a, b, c⟩ : Ed) = ⟨a', b', c'⟩
  · rw [decide_eq_true h]
    injection h with h1 h2 h3
    subst h1 h2 h3
    simp
  · rw [decide_eq_false h]
    cases hb : (a == a' && (b == b' && (c == c' && true))) with
    | false => rfl
    | true =>
      simp only [Bool.and_eq_true, beq_iff_eq, and_true] at hb
      obtain ⟨h1, h2, h3⟩ := hb
      subst h1 h2 h3
      exact absurd rfl h
theorem ed_dp {K : PySem.W.Frag} {H : Hp} {v : V} {x : Ed} (h : EdAt H v x) : Dp K H v (edD x) := by
  obtain ⟨p, rfl, e⟩ := h
  exact .tup (SqT.of e) (.cons (.int _) (.cons (.int _) (.cons (.str _) .nil)))
/-! ## inverse lists -/
def inv1 (t : Str) (x : Ed) : Ed := ⟨x.s, x.s + x.n.length, cutS t (some x.s) (some x.e)⟩
def bks : Str → List Ed → List Ed
  | _, [] => []
  | t, x :: es => bks (ap t x) es ++ [inv1 t x]
theorem bks_snoc : ∀ (es : List Ed) (t : Str) (x : Ed), bks t (es ++ [x]) = inv1 (aps t es) x :: bks t es
  | [], t, x => rfl
  | y :: es, t, x => by
    show bks (ap t y) (es ++ [x]) ++ [inv1 t y] = inv1 (aps (ap t y) es) x :: (bks (ap t y) es ++ [inv1 t y])
    rw [bks_snoc es (ap t y) x]
    rfl
theorem bks_len : ∀ (es : List Ed) (t : Str), (bks t es).length = es.length
  | [], _ => rfl
  | y :: es, t => by
    show (bks (ap t y) es ++ [inv1 t y]).length = _
    rw [List.length_append, bks_len es]
    rfl
theorem tl_inv1 {t : Str} {x : Ed} (h : fit1 t.length x) : TL.tl (inv1 t x).n = ((TL.tl t).take x.e.toNat).drop x.s.toNat := by
  unfold inv1
  show TL.tl (cutS t (some x.s) (some x.e)) = _
  rw [tl_cutS, cut_mid h.1 (by omega)]
theorem len_inv1 {t : Str} {x : Ed} (h : fit1 t.length x) : ((inv1 t x).n.length : Int) = x.e - x.s := by
  have hl := TL.len_tl t
  rw [TL.len_tl, tl_inv1 h, List.length_drop, List.length_take, ← hl]
  omega
/-- the inverse fits, and leads back -/
theorem inv1_fit {t : Str} {x : Ed} (h : fit1 t.length x) : fit1 (ap t x).length (inv1 t x) := by
  have e := len_ap h
  show 0 ≤ x.s ∧ x.s ≤ x.s + x.n.length ∧ x.s + x.n.length ≤ (ap t x).length
  rw [e]
  unfold nsz
  omega
theorem split3 (l : List Nat) {a b : Nat} (h : a ≤ b) (h2 : b ≤ l.length) : l.take a ++ (l.take b).drop a ++ l.drop b = l := by
  have e : l.take a = (l.take b).take a := by rw [List.take_take, Nat.min_eq_left h]
  rw [e, List.take_append_drop, List.take_append_drop]
theorem ap_inv1 {t : Str} {x : Ed} (h : fit1 t.length x) : ap (ap t x) (inv1 t x) = t := by
  have hl := TL.len_tl t
  have hn := TL.len_tl x.n
  refine TL.ext_tl ?_
  rw [tl_ap (inv1_fit h), tl_inv1 h, tl_ap h]
  show ((TL.tl t).take x.s.toNat ++ TL.tl x.n ++ (TL.tl t).drop x.e.toNat).take x.s.toNat ++ ((TL.tl t).take x.e.toNat).drop x.s.toNat ++ ((TL.tl t).take x.s.toNat ++ TL.tl x.n ++ (TL.tl t).drop x.e.toNat).drop (x.s + x.n.length).toNat = TL.tl t
  have h1 : ((TL.tl t).take x.s.toNat).length = x.s.toNat := by rw [List.length_take]; omega
  have e1 : ((TL.tl t).take x.s.toNat ++ TL.tl x.n ++ (TL.tl t).drop x.e.toNat).take x.s.toNat = (TL.tl t).take x.s.toNat := by
    rw [List.append_assoc]
    exact List.take_left' h1
  have e2 : ((TL.tl t).take x.s.toNat ++ TL.tl x.n ++ (TL.tl t).drop x.e.toNat).drop (x.s + x.n.length).toNat = (TL.tl t).drop x.e.toNat :=
    List.drop_left' (by rw [List.length_append, h1, ← hn]; omega)
  rw [e1, e2]
  exact split3 _ (by omega) (by omega)
theorem inv1_inv1 {t : Str} {x : Ed} (h : fit1 t.length x) : inv1 (ap t x) (inv1 t x) = x := by
  have hl := TL.len_tl t
  have hn := TL.len_tl x.n
  have e1 : x.s + ((inv1 t x).n.length : Int) = x.e := by rw [len_inv1 h]; omega
  have h1 : ((TL.tl t).take x.s.toNat).length = x.s.toNat := by rw [List.length_take]; omega
  have e2 : cutS (ap t x) (some x.s) (some (x.s + x.n.length)) = x.n := by
    refine TL.ext_tl ?_
    rw [tl_cutS, cut_mid h.1 (by omega), tl_ap h]
    have e3 : ((TL.tl t).take x.s.toNat ++ TL.tl x.n ++ (TL.tl t).drop x.e.toNat).take (x.s + x.n.length).toNat = (TL.tl t).take x.s.toNat ++ TL.tl x.n :=
      List.take_left' (by rw [List.length_append, h1, ← hn]; omega)
    rw [e3]
    exact List.drop_left' h1
  show (⟨x.s, x.s + ((inv1 t x).n.length : Int), cutS (ap t x) (some x.s) (some (x.s + x.n.length))⟩ : Ed) = x
  rw [e1, e2]
theorem bks_fits : ∀ (es : List Ed) (t : Str), fits t.length es → fits (aps t es).length (bks t es) ∧ aps (aps t es) (bks t es) = t
  | [], _, _ => ⟨trivial, rfl⟩
  | x :: es, t, h => by
    have hx : fits (ap t x).length es := by rw [len_ap h.1]; exact h.2
    obtain ⟨f1, f2⟩ := bks_fits es (ap t x) hx
    have hs : sza (aps (ap t x) es).length (bks (ap t x) es) = (ap t x).length := by rw [← len_aps f1, f2]
    refine ⟨fits_snoc f1 ?_, ?_⟩
    · show fit1 (sza (aps (ap t x) es).length (bks (ap t x) es)) (inv1 t x)
      rw [hs]
      exact inv1_fit h.1
    · show aps (aps (ap t x) es) (bks (ap t x) es ++ [inv1 t x]) = t
      rw [aps_snoc, f2, ap_inv1 h.1]
theorem bks_app : ∀ (fs gs : List Ed) (t : Str), bks t (fs ++ gs) = bks (aps t fs) gs ++ bks t fs
  | [], gs, t => by show bks t gs = bks t gs ++ []; rw [List.append_nil]
  | x :: fs, gs, t => by
    show bks (ap t x) (fs ++ gs) ++ [inv1 t x] = bks (aps (ap t x) fs) gs ++ (bks (ap t x) fs ++ [inv1 t x])
    rw [bks_app fs gs (ap t x), List.append_assoc]
theorem aps_app (t : Str) (fs gs : List Ed) : aps t (fs ++ gs) = aps (aps t fs) gs := by
  unfold aps
  rw [List.foldl_append]
/-- the first k of the inverse list lead back over the last k -/
theorem bks_take {t : Str} {es : List Ed} (h : fits t.length es) {k : Nat} (hk : k ≤ es.length) : aps (aps t es) ((bks t es).take k) = aps t (es.take (es.length - k)) := by
  have e := List.take_append_drop (es.length - k) es
  have hf : fits t.length (es.take (es.length - k) ++ es.drop (es.length - k)) := by rw [e]; exact h
  obtain ⟨h1, h2⟩ := fits_app.mp hf
  have h3 : fits (aps t (es.take (es.length - k))).length (es.drop (es.length - k)) := by rw [len_aps h1]; exact h2
  have hl : (bks (aps t (es.take (es.length - k))) (es.drop (es.length - k))).length = k := by rw [bks_len, List.length_drop]; omega
  have e1 : (bks t es).take k = bks (aps t (es.take (es.length - k))) (es.drop (es.length - k)) := by
    have := bks_app (es.take (es.length - k)) (es.drop (es.length - k)) t
    rw [e] at this
    rw [this]
    exact List.take_left' hl
  have e2 : aps t es = aps (aps t (es.take (es.length - k))) (es.drop (es.length - k)) := by rw [← aps_app, e]
  rw [e1, e2]
  exact (bks_fits _ _ h3).2
/-- the inverse of the inverse is the list -/
theorem bks_bks : ∀ {es : List Ed} {t : Str}, fits t.length es → bks (aps t es) (bks t es) = es
  | [], _, _ => rfl
  | x :: es, t, h => by
    have hx : fits (ap t x).length es := by rw [len_ap h.1]; exact h.2
    obtain ⟨f1, f2⟩ := bks_fits es (ap t x) hx
    show bks (aps (ap t x) es) (bks (ap t x) es ++ [inv1 t x]) = x :: es
    rw [bks_snoc, f2, bks_bks hx, inv1_inv1 h.1]
theorem bks_small {es : List Ed} {t : Str} (h : fits t.length es) {B : Nat} (hn : ∀ fs x gs, es = fs ++ x :: gs → (aps t fs).length ≤ B) : ∀ y ∈ bks t es, y.n.length ≤ B := by
  intro y hy
  obtain ⟨i, hi⟩ := List.getElem?_of_mem hy
  have hil : i < (bks t es).length := (List.getElem?_eq_some_iff.mp hi).1
  rw [bks_len] at hil
  have key : ∀ (es : List Ed) (t : Str) (y : Ed), y ∈ bks t es → ∃ fs x gs, es = fs ++ x :: gs ∧ y = inv1 (aps t fs) x := by
    intro es
    induction es with
    | nil => intro t y h; exact nomatch h
    | cons x es ih =>
      intro t y h
      rcases List.mem_append.mp h with h | h
      · obtain ⟨fs, z, gs, e, q⟩ := ih (ap t x) y h
        exact ⟨x :: fs, z, gs, by rw [e]; rfl, q⟩
      · exact ⟨[], x, es, rfl, List.mem_singleton.mp h⟩
  obtain ⟨fs, x, gs, e, q⟩ := key es t y hy
  rw [q]
  exact Nat.le_trans (cutS_length _ _ _) (hn fs x gs e)
/-- what is asked of a list of edits that is applied -/
structure Mild (es : List Ed) : Prop where
  len : es.length ≤ 400
  new : ∀ x ∈ es, x.n.length ≤ 2000000 ∧ Ok x.n
/-- no text on the way is long -/
def Mid (t : Str) (es : List Ed) : Prop := ∀ k, (aps t (es.take k)).length ≤ 2000000
theorem Small.mild {es : List Ed} (h : Small es) : Mild es := ⟨h.len, fun x hx => ⟨by have := (h.new x hx).1; omega, (h.new x hx).2⟩⟩
theorem Small.mid {es : List Ed} {t : Str} (h : Small es) (ht : t.length ≤ 900000) (hf : fits t.length es) : Mid t es := fun k => by
  have f := fits_take hf k
  have hl := len_aps f
  have hb := sza_le f fun y hy => (h.new y (List.mem_of_mem_take hy)).1
  have hsl := h.len
  rw [List.length_take] at hb
  omega
theorem Mild.take {es : List Ed} (h : Mild es) (k : Nat) : Mild (es.take k) := ⟨by rw [List.length_take]; have := h.len; omega, fun x hx => h.new x (List.mem_of_mem_take hx)⟩
theorem Mid.take {es : List Ed} {t : Str} (h : Mid t es) (k : Nat) : Mid t (es.take k) := fun i => by
  rw [List.take_take]
  exact h _
theorem Ok.bks : ∀ {es : List Ed} {t : Str}, Ok t → (∀ x ∈ es, Ok x.n) → ∀ y ∈ bks t es, Ok y.n
  | [], _, _, _, y, hy => nomatch hy
  | x :: es, t, h, hn, y, hy => by
    rcases List.mem_append.mp hy with hy | hy
    · exact Ok.bks (es := es) (h.ap (hn x (List.mem_cons_self ..))) (fun z hz => hn z (List.mem_cons_of_mem _ hz)) y hy
    · rw [List.mem_singleton.mp hy]
      exact h.cut _ _
theorem bks_mild {es : List Ed} {t : Str} (h : Mild es) (hm : Mid t es) (ht : Ok t) : Mild (bks t es) := by
  refine ⟨by rw [bks_len]; exact h.len, fun y hy => ⟨?_, Ok.bks ht (fun x hx => (h.new x hx).2) y hy⟩⟩
  have key : ∀ (es : List Ed) (t : Str) (y : Ed), y ∈ bks t es → ∃ fs x gs, es = fs ++ x :: gs ∧ y = inv1 (aps t fs) x := by
    intro es
    induction es with
    | nil => intro t y h; exact nomatch h
    | cons x es ih =>
      intro t y h
      rcases List.mem_append.mp h with h | h
      · obtain ⟨fs, z, gs, e, q⟩ := ih (ap t x) y h
        exact ⟨x :: fs, z, gs, by rw [e]; rfl, q⟩
      · exact ⟨[], x, es, rfl, List.mem_singleton.mp h⟩
  obtain ⟨fs, x, gs, e, q⟩ := key es t y hy
  rw [q]
  have := hm fs.length
  rw [e, List.take_left' rfl] at this
  exact Nat.le_trans (cutS_length _ _ _) this
theorem bks_mid {es : List Ed} {t : Str} (hf : fits t.length es) (hm : Mid t es) : Mid (aps t es) (bks t es) := fun k => by
  by_cases hk : k ≤ es.length
  · rw [bks_take hf hk]
    exact hm _
  · have e : (bks t es).take k = (bks t es).take es.length := by
      rw [List.take_of_length_le (by rw [bks_len]; omega), List.take_of_length_le (by rw [bks_len]; omega)]
    rw [e, bks_take hf (Nat.le_refl _)]
    exact hm _
theorem fits_of_take {sz : Int} {es : List Ed} {k : Nat} (h : fits sz es) : fits sz (es.take k) := fits_take h k
theorem aps_all {es : List Ed} {t : Str} (hm : Mid t es) : (aps t es).length ≤ 2000000 := by
  have := hm es.length
  rw [List.take_length] at this
  exact this
end Z
namespace Z
open PySem PySem.Spec L2
local macro_rules | `(tactic| walk_at "ne") => `(tactic| first
  | with_reducible assumption
  | with_reducible exact Ne.symm (by assumption)
  | exact Frs.ne (by with_reducible assumption) (by walk_at "hp")
  | exact Frs.ne' (by with_reducible assumption) (by walk_at "hp"))
local macro_rules | `(tactic| walk_at "hp") => `(tactic| first
  | with_reducible assumption
  | (with_reducible refine Same.at (by assumption) ?_; walk_at "hp")
  | (with_reducible refine SL.tup (by assumption) ?_; walk_at "hp")
  | (with_reducible refine SL.at (by assumption) (by walk_at "ne") ?_; walk_at "hp"))
local macro_rules | `(tactic| walk_at "sz") => `(tactic| first
  | with_reducible assumption
  | exact Nat.le_of_ble_eq_true rfl
  | (refine sz_le ?_; omega)
  | (refine sz_lt ?_; omega)
  | decide +kernel)
local macro_rules | `(tactic| walk_at "at") => `(tactic| first
  | with_reducible assumption
  | with_reducible exact at0
  | with_reducible exact at1
  | with_reducible exact at2
  | with_reducible exact ixN0)
local macro_rules | `(tactic| walk_at "nn") => `(tactic| first
  | omega
  | decide
  | exact ⟨by decide, by decide⟩
  | exact ⟨by omega, by omega⟩
  | exact ⟨by omega, by omega, by omega, by omega⟩)
local macro_rules | `(tactic| walk_at "rdv") => `(tactic| first
  | (with_reducible refine add_int ?_)
  | (with_reducible refine sub_int ?_)
  | (with_reducible refine neg_int ?_)
  | ((with_reducible refine ix_tpl (xs := ?xs) (v := ?v) ?h1 ?h2 ?_); (case h1 => walk_at "hp"); (case h2 => walk_at "at"))
  | ((with_reducible refine ix_lst (xs := ?xs) (v := ?v) ?h1 ?h2 ?_); (case h1 => walk_at "hp"); (case h2 => walk_at "at"))
  | (with_reducible refine eq_int ?_)
  | (with_reducible refine ne_int ?_)
  | (with_reducible refine lt_int ?_)
  | (with_reducible refine le_int ?_)
  | (with_reducible refine gt_int ?_)
  | (with_reducible refine ge_int ?_)
  | (with_reducible refine eq_str ?_)
  | (with_reducible refine ne_str ?_)
  | (with_reducible refine eq_bl ?_)
  | (with_reducible refine ne_bl ?_)
  | ((with_reducible refine mod_int ?hc ?_); (case hc => walk_at "nn"))
  | ((with_reducible refine div_int ?hc ?_); (case hc => walk_at "nn"))
  | ((with_reducible refine mul_intR ?hc ?_); (case hc => exact ⟨by decide, by decide⟩))
  | ((with_reducible refine mul_intR ?hc ?_); (case hc => exact ⟨by omega, by omega⟩))
  | ((with_reducible refine mul_intL ?hc ?_); (case hc => exact ⟨by omega, by omega⟩))
  | ((with_reducible refine pow_int ?hc ?_); (case hc => exact ⟨by decide, by decide, by decide⟩))
  | ((with_reducible refine add_str ?hc ?_); (case hc => walk_at "sz"))
  | ((with_reducible refine add_lst (xs := ?xs) (ys := ?ys) ?h1 ?h2 ?hc ?_); (case h1 => walk_at "hp"); (case h2 => walk_at "hp"); (case hc => walk_at "sz"))
  | ((with_reducible refine sl_strU ?hc ?_); (case hc => walk_at "sz"))
  | ((with_reducible refine sl_lst (xs := ?xs) ?h1 ?_); (case h1 => walk_at "hp"))
  | (with_reducible refine is_bl ?_)
  | (with_reducible refine isnt_bl ?_)
  | (with_reducible refine is_non ?_)
  | (with_reducible refine isnt_non ?_))
local macro_rules | `(tactic| walk_at "rdc") => `(tactic| first
  | ((with_reducible refine len_lst (xs := ?xs) ?h1 ?_); (case h1 => walk_at "hp"))
  | ((with_reducible refine len_tup (xs := ?xs) ?h1 ?_); (case h1 => walk_at "hp"))
  | ((with_reducible refine len_str ?hc ?_); (case hc => walk_at "sz"))
  | (with_reducible refine int_int ?_)
  | (with_reducible refine max_int ?_)
  | (with_reducible refine min_int ?_)
  | (with_reducible refine abs_int ?_)
  | (with_reducible refine isi_ii ?_)
  | (with_reducible refine isi_ib ?_)
  | (with_reducible refine isi_ss ?_)
  | (with_reducible refine isi_bb ?_)
  | ((with_reducible refine isi_tt (xs := ?xs) ?h1 ?_); (case h1 => walk_at "hp"))
  | ((with_reducible refine isi_ll (xs := ?xs) ?h1 ?_); (case h1 => walk_at "hp"))
  | ((with_reducible refine list_lst (xs := ?xs) ?h1 ?_); (case h1 => walk_at "hp"))
  | ((with_reducible refine list_tup (xs := ?xs) ?h1 ?_); (case h1 => walk_at "hp"))
  | ((with_reducible refine tuple_lst (xs := ?xs) ?h1 ?_); (case h1 => walk_at "hp"))
  | ((with_reducible refine tuple_tup (xs := ?xs) ?h1 ?_); (case h1 => walk_at "hp"))
  | ((with_reducible refine append_lst (xs := ?xs) ?h1 ?hc ?_); (case h1 => walk_at "hp"); (case hc => walk_at "sz"))
  | ((with_reducible refine clear_lst (xs := ?xs) ?h1 ?_); (case h1 => walk_at "hp"))
  | ((with_reducible refine set_lst (xs := ?xs) (k := ?k) ?h1 ?h2 ?_); (case h1 => walk_at "hp"); (case h2 => walk_at "at")))
local macro_rules | `(tactic| walk_at "rd1") => `(tactic| first
  | ((with_reducible refine rVar (v := ?v) ?h ?_); (case h => exact rfl))
  | (with_reducible refine rC ?_)
  | (with_reducible refine rCons ?_)
  | (with_reducible refine rNil ?_)
  | (with_reducible refine rOp ?_)
  | (with_reducible refine rSeq ?_)
  | (with_reducible refine rAsgN ?_)
  | (with_reducible refine rAsgT ?_)
  | (with_reducible refine rAsgS ?_)
  | (with_reducible refine rTest ?_)
  | (with_reducible refine rBl ?_)
  | (with_reducible refine rBl' ?_)
  | (with_reducible refine rInt ?_)
  | (with_reducible refine rInt' ?_)
  | (with_reducible refine rCall ?_)
  | (with_reducible refine rCB ?_)
  | (with_reducible refine rRet ?_)
  | (with_reducible refine rDrop ?_)
  | (with_reducible refine rIfS ?_)
  | (with_reducible refine rTup ?_)
  | (with_reducible refine rLst ?_)
  | (with_reducible refine ⟨Nat.le_of_ble_eq_true rfl, ?_⟩)
  | (with_reducible refine rSl ?_)
  | (with_reducible refine rPart ?_)
  | (with_reducible refine rNoPart ?_)
  | (with_reducible refine rBM ?_)
  | (with_reducible refine rBM0 ?_)
  | ((with_reducible refine tyL (xs := ?xs) ?h1 ?_); (case h1 => walk_at "hp"))
  | (with_reducible refine rM1 ?_)
  | (with_reducible refine rM0 ?_)
  | (with_reducible refine rStr ?_)
  | (with_reducible refine rTru ?_)
  | (with_reducible refine tru_bl ?_)
  | (with_reducible refine tru_int ?_)
  | ((with_reducible refine tru_lst (xs := ?xs) ?h1 ?_); (case h1 => walk_at "hp"))
  | ((with_reducible refine tru_tup (xs := ?xs) ?h1 ?_); (case h1 => walk_at "hp"))
  | ((with_reducible refine tru_str ?hc ?_); (case hc => walk_at "sz"))
  | (with_reducible refine rAnd ?_)
  | (with_reducible refine rOr ?_)
  | (with_reducible refine rNot ?_)
  | (with_reducible refine rAndV ?_)
  | (with_reducible refine rOrV ?_)
  | (with_reducible refine rNotV ?_)
  | (with_reducible refine rIfE ?_)
  | (with_reducible refine rChain ?_)
  | (with_reducible refine rChain3 ?_)
  | (with_reducible refine ifT ?_)
  | (with_reducible refine ifF ?_)
  | (with_reducible refine ifNF ?_)
  | (with_reducible refine ifNT ?_)
  | (with_reducible refine rNext ?_)
  | (with_reducible refine rBrk ?_)
  | (with_reducible refine rCnt ?_)
  | (with_reducible refine rRetN ?_)
  | (with_reducible refine rForR1 ?_)
  | (with_reducible refine rForR2 ?_)
  | (with_reducible refine rForL ?_)
  | ((with_reducible refine rRg1 ?hb ?_); (case hb => walk_at "nn"))
  | ((with_reducible refine rRg2 ?hb ?_); (case hb => walk_at "nn"))
  | ((with_reducible refine rRf (xs := ?xs) ?h1 ?_); (case h1 => walk_at "hp"))
  | (with_reducible refine rLcR1 ?_)
  | (with_reducible refine rLcR2 ?_)
  | (with_reducible refine rLcL ?_)
  | (with_reducible refine gN ?_)
  | (with_reducible refine gNl ?_)
  | (with_reducible refine gC ?_)
  | ((with_reducible refine gT (xs := ?xs) ?h1 ?h2 ?_); (case h1 => walk_at "hp"); (case h2 => exact rfl))
  | (with_reducible refine rUn ?_)
  | walk_at "rdv"
  | walk_at "rdc")
local macro_rules | `(tactic| walk_at "rd") => `(tactic| repeat walk_at "rd1")

/-- the first that does not fit -/
def spFu : Sp := fun vs H Q _ => ∃ (L : Int) (p : Addr) (us : List V) (es : List Ed), vs = [.int L, .ref p] ∧ H p = some (.lst us) ∧ Edits H us es ∧ Mild es ∧ Q (.int (fu L es)) H
abbrev sp_first_unfit : Sp := spFu
abbrev sp_law_first_unfit : Sp := spFu
theorem use_fu {L : Int} {p : Addr} {us : List V} {es : List Ed} {H : Hp} {Q : VK} {E : XK} (hp : H p = some (.lst us)) (he : Edits H us es) (hs : Mild es) (h : Q (.int (fu L es)) H) : spFu [.int L, .ref p] H Q E := ⟨L, p, us, es, rfl, hp, he, hs, h⟩
def sp_law_splice : Sp := fun vs H Q _ => ∃ (t : Str) (p : Addr) (us : List V) (es : List Ed), vs = [.str t, .ref p] ∧ H p = some (.lst us) ∧ Edits H us es ∧ Mild es ∧ fits t.length es ∧ t.length ≤ 2000000 ∧ Mid t es ∧ Q (.str (aps t es)) H
theorem use_splice {t : Str} {p : Addr} {us : List V} {es : List Ed} {H : Hp} {Q : VK} {E : XK} (hp : H p = some (.lst us)) (he : Edits H us es) (hs : Mild es) (hf : fits t.length es) (hl : t.length ≤ 2000000) (hm : Mid t es) (h : Q (.str (aps t es)) H) : sp_law_splice [.str t, .ref p] H Q E := ⟨t, p, us, es, rfl, hp, he, hs, hf, hl, hm, h⟩
def sp_law_same_edit : Sp := fun vs H Q _ => ∃ (v u : V) (x y : Ed), vs = [v, u] ∧ EdAt H v x ∧ EdAt H u y ∧ Ok x.n ∧ Ok y.n ∧ Q (.bl (decide (x = y))) H
theorem use_same_edit {v u : V} {x y : Ed} {H : Hp} {Q : VK} {E : XK} (h1 : EdAt H v x) (h2 : EdAt H u y) (k1 : Ok x.n) (k2 : Ok y.n) (h : Q (.bl (decide (x = y))) H) : sp_law_same_edit [v, u] H Q E := ⟨v, u, x, y, rfl, h1, h2, k1, k2, h⟩
def sp_law_same_edits : Sp := fun vs H Q _ => ∃ (p q : Addr) (us ws : List V) (xs ys : List Ed), vs = [.ref p, .ref q] ∧ H p = some (.lst us) ∧ H q = some (.lst ws) ∧ Edits H us xs ∧ Edits H ws ys ∧ xs.length ≤ 1000 ∧ (∀ x ∈ xs, Ok x.n) ∧ (∀ y ∈ ys, Ok y.n) ∧ Q (.bl (decide (xs = ys))) H
theorem use_same_edits {p q : Addr} {us ws : List V} {xs ys : List Ed} {H : Hp} {Q : VK} {E : XK} (hp : H p = some (.lst us)) (hq : H q = some (.lst ws)) (h1 : Edits H us xs) (h2 : Edits H ws ys) (hl : xs.length ≤ 1000) (k1 : ∀ x ∈ xs, Ok x.n) (k2 : ∀ y ∈ ys, Ok y.n) (h : Q (.bl (decide (xs = ys))) H) :
    sp_law_same_edits [.ref p, .ref q] H Q E := ⟨p, q, us, ws, xs, ys, rfl, hp, hq, h1, h2, hl, k1, k2, h⟩
section
variable {P : Program} {w : World} {K : PySem.W.Frag} {mg : Str → Option Value} {base : Heap}
theorem cal_first_unfit {f : Addr} {fd : FuncData} (T : Txt mg) (FD : C8.Def K mg "first_unfit" s_first_unfit f fd) (b : Binds K fd ["length", "edits"] []) : C8.Cal P w K mg base 1 "first_unfit" sp_first_unfit [] := by
  refine C8.cal0 FD b .nil sc_first_unfit (fun vs H Q E h => ?_) (fun cdv A outer s H vs Q E hr h => ?_)
  · obtain ⟨L, p, us, es, rfl, _⟩ := h; rfl
  · obtain ⟨L, p, us, es, rfl, hp, hed, hsm, k⟩ := h
    refine ⟨_, (pss_cons (ps_set (i := 2) sc_first_unfit.nd rfl (.inl rfl) (pv 0))
  (pss_cons (ps_for PassesOwn.never rfl (pi_range1 rfl T.n_range (pa_cons (pe_callB (call_lenK K) (by rfl) T.n_len PySem.boot_len (pa_cons (pv 1) pa_nil)) pa_nil)) (pg_name (i := 3) sc_first_unfit.nd rfl (.inl rfl)) (pss_cons (ps_asg (pe_ix (ix_K K) (pv 1) (pv 3) (fun _ _ => rfl)) (pg_tup rfl (pgs_cons (pg_name (i := 4) sc_first_unfit.nd rfl (.inl rfl)) (pgs_cons (pg_name (i := 5) sc_first_unfit.nd rfl (.inl rfl)) (pgs_cons (pg_name (i := 6) sc_first_unfit.nd rfl (.inl rfl)) pgs_nil)))))
  (pss_cons (ps_if (pt_not (pt_chain3 op_leU op_leU op_leU pe_int (pv 4) (pv 5) (pv 2))) (pss_one (ps_ret (pv 3))) pss_nil)
  (pss_one (ps_set (i := 2) sc_first_unfit.nd rfl (.inl rfl) (pe_op (op_addK K) (pe_op op_subU (pv 2) (pe_op op_subU (pv 5) (pv 4))) (pe_callB (call_lenK K) (by rfl) T.n_len PySem.boot_len (pa_cons (pv 6) pa_nil))))))))
  (pss_one (ps_ret (pe_un un_neg pe_int))))), ?_⟩
    show (_ : TS) _ [some (.int L), some (.ref p), none, none, none, none, none] H
    have hul := Paired.len hed
    have hsl := hsm.len
    walk_at "rd"
    refine loopR_by (fun i σ' H' => ∃ (z : Int) (o3 o4 o5 o6 : Option V), σ' = [some (.int L), some (.ref p), some (.int z), o3, o4, o5, o6] ∧ H' = H ∧ fu L es = fuAt z (es.drop i) i) ?_ ?_ ?_
    · exact ⟨L, none, none, none, none, rfl, rfl, rfl⟩
    · rintro i σ' H' hi ⟨z, o3, o4, o5, o6, rfl, rfl, hf⟩
      have hil : i < us.length := by omega
      obtain ⟨x, hx, px, hv, hpx⟩ := Paired.at hed (List.getElem?_eq_getElem hil)
      have hat : atI us (0 + (i : Int)) = some (.ref px) := at_of (j := i) (by omega) (by rw [List.getElem?_eq_getElem hil, hv])
      have hxn := (hsm.new x (List.mem_of_getElem? hx)).1
      have hs := fu_step hx hf
      have kk : ¬ fit1 z x → Q (.int (0 + (i : Int))) H' := fun c => by
        rw [if_neg c] at hs
        rw [hs] at k
        rw [Int.zero_add]
        exact k
      walk_at "rd"
      refine ifD (fun c1 => ?_) (fun c1 => ?_)
      · walk_at "rd"
        refine ifD (fun c2 => ?_) (fun c2 => ?_)
        · walk_at "rd"
          refine ifND (fun c3 => ?_) (fun c3 => ?_)
          · walk_at "rd"
            exact kk fun c => c3 c.2.2
          · walk_at "rd"
            rw [if_pos ⟨c1, c2, c3⟩] at hs
            exact ⟨_, _, _, _, _, rfl, rfl, hs⟩
        · walk_at "rd"
          exact kk fun c => c2 c.2.1
      · walk_at "rd"
        exact kk fun c => c1 c.1
    · rintro σ' H' ⟨z, o3, o4, o5, o6, rfl, rfl, hf⟩
      walk_at "rd"
      have e : ((us.length : Int)).toNat = es.length := by omega
      rw [e] at hf
      rw [fu_end hf] at k
      exact k
end
end Z
namespace Z
open PySem PySem.Spec PyProof.Rows PySem.W
/-! ## super().__init__(text) in an own exception's __init__ -/
section
variable {prog : Program} {w : World} {A : Around} {E : Value → Shared → Prop} {h : Heap} {g : Array GenState} {d : Drawn} {t : Nat} {os : OsState}
variable {nm q : Str} {C N : Addr} {bs bm : List Value} {hdct : Bool} {sn : List Str} {sub : List Value} {ab : Bool} {col : Option Bool} {dd : Option Addr} {k0 k1 k2 k3 k5 : Option Value}
theorem call_bwV {u e t0 : Addr} {rest : List Value} {Q : Value → Shared → Prop}
    (hC : h.get? C = some (excClassObj nm q C N bs bm hdct sn sub ab col dd k0 k1 k2 k3 k5 "ValueError.__new__")) (he : h.get? e = some (PySem.HandSPX.excO C t0)) (hu : h.get? u = some (kxs_mw "ValueError.__init__" e)) (hrest : rest.length ≤ sizeLine)
    (hq : ∀ h' t1, (∀ b o, b ≠ e → h.get? b = some o → h'.get? b = some o) → h'.get? e = some (PySem.HandSPX.excO C t1) → Q .none ⟨h', g, d, t, os⟩) :
    wpAny (model prog w) A (call (.ref u) rest) Q E ⟨h, g, d, t, os⟩ := by
  refine wpAny_call (codeAny_of_tree ?_)
  show wpAny _ A.in1 (callAny (.ref u) ⟨rest, []⟩) _ _ _
  simp only [callAny]
  refine wpAny_bind (wpAny_load hu ?_)
  simp only [kxs_mw, show (Value.type "method-wrapper" == Value.type "method" || Value.type "method-wrapper" == Value.type "builtin_function_or_method" || Value.type "method-wrapper" == Value.type "method-wrapper") = true by decide, if_true]
  refine KFB.if_so (by decide) ?_
  refine wpAny_bind (check_bound_init F.excBase_ValueError.toExcCallFacts hC he rfl ?_)
  refine wpAny_bind (wpAny_pure (wpAny_pure ?_))
  refine ⟨plainId_quiet F.excBase_ValueError.init.plain _, codeAny_builtin F.excBase_ValueError.initEntry ?_⟩
  refine exc_init_tree (cls := .ref C) (t0 := t0) (dv := none) (c2 := .none) (c3 := .none) (b4 := .bool false) he hrest fun h' k e' _ => ?_
  exact hq h' _ k e'
end

open L2 in
/-- the context of such a body -/
def cxS (CX : CXT) (P : Program) (w : World) (K : Frag) (mg : Str → Option Value) (base : Heap) (N : List Str) (qual : Str) (scope : Scope) (f cda cc : Addr) (A : Around) (outer : List Env) (s : Shared) (H : Hp) (E : XK) : Cx where
  prog := P
  w := w
  K := K
  mg := mg
  base := base
  A := A.deeper (ksEnv qual scope s.heap.objs.size f (.ref cda) cc)
  N := N
  s_0 := s
  H_0 := H
  env := ksEnv qual scope s.heap.objs.size f (.ref cda) cc
  outer := outer
  stack := ksEnv qual scope s.heap.objs.size f (.ref cda) cc :: outer
  ex := []
  calm := true
  fn := fun _ => false
  pn := []
  xe := fun e s' => wpAny (model P w) (A.deeper (ksEnv qual scope s.heap.objs.size f (.ref cda) cc)) (leaving (ksEnv qual scope s.heap.objs.size f (.ref cda) cc) e) (fun _ s'' => CX outer H s E e s'') (fun e' s'' => CX outer H s E e' s'') s'
/-- the scope of such a body -/
structure SupScope (N ps : List Str) (sc : Scope) : Prop where
  kind : sc.kind = .function
  co : sc.isCoroutine = false
  gen : sc.isGenerator = false
  nd : N.Nodup
  pre : N.take ps.length = ps
  par : ∀ x ∈ ps, sc.names.lookup x = some .local
  cell : ∀ x ∈ sc.names, x.2 ≠ .cell
  free : ∀ x ∈ sc.names, x.2 = .free → x.1 = "__class__"
  sup : sc.names.lookup ("super" : Str) = some .globalImplicit
  cls : sc.names.lookup ("__class__" : Str) = some .free
/-- what the written part says of the class at C and of its own __init__ -/
structure SupC (P : Program) (K : Frag) (mg : Str → Option Value) (C cda cc : Addr) : Prop where
  oex : L2.OexC K C
  code : ∃ ccl cdd vs ccs file tf, K.lookup cda = some ⟨ccl, cdd, .fields vs, ccs⟩ ∧ vs[2]? = some (.str file tf) ∧ ((P.main.file : Str) == file) = true
  cell : ∃ cl cld csl, K.lookup cc = some ⟨cl, cld, .cell (some (.ref C)), csl⟩
  sub : mroIn K C (.ref C) = some true
  sup : mg "super" = none
  any : nsIn K cStatics "thirdparty.any" = some none
  along : ks_superIn K C C "__init__" = some (some (.builtin "ValueError.__init__"))
  subV : subIn K (.ref C) (.type "ValueError") = some true
  top : (P.main.scope.names.lookup ("super" : Str)).isSome = false
section
open L2
variable {CX : CXT} {P : Program} {w : World} {K : Frag} {mg : Str → Option Value} {base : Heap} {N ps : List Str} {qual : Str} {scope : Scope} {f cda cc C : Addr} {A : Around} {outer : List Env} {s s1 : Shared} {H : Hp} {E : XK} {us : List Value} {vs : List V}
theorem binds_get {x : Str} {v : Value} : ∀ {P : List Str} {vs : List Value} {i : Nat}, P.Nodup → P[i]? = some x → vs[i]? = some v → vs.length = P.length → (P.zip vs).reverse.lookup x = some v := by
  intro P vs i nd h1 h2 hl
  have key : ∀ {l : List (Str × Value)}, (l.map (·.1)).Nodup → (x, v) ∈ l → l.lookup x = some v := by
    intro l
    induction l with
    | nil => intro _ h; exact nomatch h
    | cons p l ih =>
      obtain ⟨y, z⟩ := p
      intro nd h
      rw [List.map_cons, List.nodup_cons] at nd
      by_cases e : x = y
      · subst e
        rcases List.mem_cons.mp h with h | h
        · cases h
          simp [List.lookup]
        · exact absurd (List.mem_map_of_mem (f := (·.1)) h) nd.1
      · have e2 : (x == y) = false := by simpa using e
        show (match x == y with | true => some z | false => l.lookup x) = some v
        rw [e2]
        refine ih nd.2 ?_
        rcases List.mem_cons.mp h with h | h
        · cases h; exact absurd rfl e
        · exact h
  refine key ?_ ?_
  · rw [List.map_reverse, List.map_fst_zip (by omega)]
    unfold List.Nodup
    rw [List.pairwise_reverse]
    exact List.Pairwise.imp (fun h => Ne.symm h) nd
  · rw [List.mem_reverse]
    refine List.mem_of_getElem? (i := i) ?_
    rw [List.getElem?_zip_eq_some]
    exact ⟨h1, h2⟩
theorem inv_sup (S : SupScope N ps scope) (T : SupC P K mg C cda cc) (hd : A.handled = none) (e0 : Env0 P w K mg base A outer s H) (hl : vs.length = ps.length) (r : Vals vs us) {h₀ : Heap} {tk : Nat}
    (hns : h₀.Ns s.heap.objs.size (fun x => (ps.zip us).reverse.lookup x)) (hk : ∀ b o, s.heap.get? b = some o → h₀.get? b = some o) :
    Inv (cxS CX P w K mg base N qual scope f cda cc A outer s H E) [] (L2.start N vs) H { s with heap := h₀, toks := tk } := by
  have hpl : ps.length ≤ N.length := by have := congrArg List.length S.pre; rw [List.length_take] at this; omega
  have noA : ∀ b : Addr, b ∉ (cxS CX P w K mg base N qual scope f cda cc A outer s H E).ex := fun b z => absurd (show b ∈ ([] : List Addr) from z) (by simp)
  have cells : ∀ {y : Str} {c : Addr}, (cxS CX P w K mg base N qual scope f cda cc A outer s H E).env.cells.lookup y = some c → y = "__class__" ∧ c = cc := fun {y c} h => by
    have h' : List.lookup y [(("__class__" : Str), cc)] = some c := h
    by_cases e : y = "__class__"
    · subst e
      simp [List.lookup] at h'
      exact ⟨rfl, h'.symm⟩
    · have e2 : (y == ("__class__" : Str)) = false := by simpa using e
      simp [List.lookup, e2] at h'
  obtain ⟨cl, cld, csl, hcell⟩ := T.cell
  have hb := e0.mod.kin _ _ hcell
  refine ⟨⟨e0.mod, S.kind, rfl, rfl, Nat.le_refl _, fun y z c h1 h2 => (cells h1).1.trans (cells h2).1.symm, fun y hy => ?_, fun y c hf _ => (Bool.false_ne_true hf).elim, fun _ => hd, Around.frames_deeper e0.frames, .inr ⟨rfl, rfl⟩, fun b z => absurd z (noA b), e0.bs, e0.bsz, fun b _ _ => noA b, fun b z => absurd z (noA b), e0.funs, e0.frf⟩,
    rfl, e0.bare, Un.kept hk, ⟨_, hns, fun i y v h1 h2 h3 => ?_⟩, fun y c h => ?_, e0.hok.fresh (Nat.le_refl _), fun y c h => ?_, fun p hp => absurd (show p ∈ ([] : List (Addr × Obj)) from hp) (by simp), e0.hok.kept hk, ?_⟩
  · have hy : scope.names.lookup y = some .cell ∨ scope.names.lookup y = some .free := hy
    rcases hy with hy | hy
    · exact absurd rfl (S.cell _ (PySem.mem_of_lookup hy))
    · have e : y = "__class__" := S.free _ (PySem.mem_of_lookup hy) rfl
      subst e
      exact ⟨cc, by show List.lookup _ [(("__class__" : Str), cc)] = some cc; simp [List.lookup]⟩
  · have hi : i < vs.length := by
      unfold L2.start at h2
      by_cases hi : i < vs.length
      · exact hi
      · rw [List.getElem?_append_right (by simpa using hi)] at h2
        rw [List.getElem?_replicate] at h2
        split at h2 <;> cases h2
    have ha : vs[i]? = some v := by
      unfold L2.start at h2
      rw [List.getElem?_append_left (by simpa using hi), List.getElem?_map] at h2
      cases e : vs[i]? with
      | none => rw [e] at h2; cases h2
      | some a => rw [e] at h2; cases h2; rfl
    obtain ⟨u, hu, rv⟩ := r.get ha
    have hp : ps[i]? = some y := by
      rw [← S.pre, List.getElem?_take_of_lt (by omega)]; exact h1
    have ndP : ps.Nodup := by rw [← S.pre]; exact S.nd.sublist (List.take_sublist _ _)
    exact ⟨u, rv, .inl ⟨S.par y (List.mem_of_getElem? hp), binds_get ndP hp hu (by have := r.length; omega)⟩⟩
  · obtain ⟨_, rfl⟩ := cells h
    exact ⟨_, _, hk _ _ (e0.bs _ _ hb).1, rfl⟩
  · obtain ⟨_, rfl⟩ := cells h
    exact (e0.bs _ _ hb).2
  · unfold L2.start
    show _ = N.length
    rw [List.length_append, List.length_map, List.length_replicate]
    omega
theorem fn_sup {fI : Addr} {name : Str} {params : Arguments} {scope : Scope} {kV doc pm ct oc : Value} {an od : Option Addr} {osl : Array (Option Value)} {sp : Sp} {k : Nat} {p0 p1 p2 p3 p4 : Pos} {msg : Expr} {rest : List Stmt} {ar : Arg} {self : Str}
    (lk : K.lookup fI = some ⟨oc, od, .func (ksFn name qual params (.Expr (.Call (.Attribute (.Call (.Name "super" p0) [] [] p1) "__init__" p2) [msg] [] p3) p4 :: rest) scope .none kV doc pm an (.ref cda) ct cc), osl⟩)
    (hcd : codeIn K (.ref cda) qual = true) (S : SupScope N ps scope) (T : SupC P K mg C cda cc) (hps : ps.head? = some self) (har : (params.posonlyargs ++ params.args).head? = some ar) (hself : ar.arg = self)
    (len : ∀ vs H Q E, sp vs H Q E → vs.length = ps.length)
    (hst : ∀ L, starEach (msg :: []) (ksEnv qual scope L fI (.ref cda) cc) = (false, eval msg (ksEnv qual scope L fI (.ref cda) cc)) :: starEach [] (ksEnv qual scope L fI (.ref cda) cc) := by intro _; rfl)
    (hev : ∀ L, ∃ pl, eval (.Call (.Attribute (.Call (.Name "super" p0) [] [] p1) "__init__" p2) [msg] [] p3) (ksEnv qual scope L fI (.ref cda) cc) = (do
      let ov ← attributeBase (.Call (.Name "super" p0) [] [] p1) "__init__" (ksEnv qual scope L fI (.ref cda) cc) (eval (.Call (.Name "super" p0) [] [] p1) (ksEnv qual scope L fI (.ref cda) cc))
      standAt p2.atName
      let (f, first) ← holding [ov] (getMethod ov "__init__" pl)
      callWith p3 f first (backTo p3 (starEach [msg] (ksEnv qual scope L fI (.ref cda) cc))) []))
    (hi : ∀ L, interactive (ksEnv qual scope L fI (.ref cda) cc) = false)
    (hsw : ∀ L, swapsWith (.Call (.Attribute (.Call (.Name "super" p0) [] [] p1) "__init__" p2) [msg] [] p3) none p4.line (ksEnv qual scope L fI (.ref cda) cc) = pure false)
    (hbody : ∀ (A : Around) (outer : List Env) (s : Shared) (H : Hp) (vs : List V) (Q : VK) (E : XK), Room k (A.deeper (ksEnv qual scope s.heap.objs.size fI (.ref cda) cc)) → sp vs H Q E →
      ∃ (x : Addr) (ta : TA) (t : TS), vs.head? = some (.ref x) ∧ H x = some (exo x C none) ∧ PA (cxS CX P w K mg base N qual scope fI cda cc A outer s H E) [msg] ta ∧ PSs (cxS CX P w K mg base N qual scope fI cda cc A outer s H E) rest t ∧
        ta (L2.start N vs) H fun ws H1 => ws.length ≤ 1000 ∧ H1 x = some (exo x C none) ∧ t { nx := fun _ H' => Q .non H', rt := Q } (L2.start N vs) H1) :
    FnOk P w K mg base CX (k + 1) fI (ksFn name qual params (.Expr (.Call (.Attribute (.Call (.Name "super" p0) [] [] p1) "__init__" p2) [msg] [] p3) p4 :: rest) scope .none kV doc pm an (.ref cda) ct cc) ps sp := by
  refine ⟨len, fun A outer s H args us vs Q E hr e0 hb r hsp => ?_⟩
  have hl := len _ _ _ _ hsp
  have KX : K.In s.heap := e0.mod.kin.keeps fun b o e => (e0.bs b o e).1
  have lim : s.heap.NoLimit := e0.mod.nolimit.keeps fun b o e => (e0.bs b o e).1
  obtain ⟨x, ta, t, hx, hHx, pa, ps', q⟩ := hbody A outer s H vs Q E (hr.deeper _) hsp
  refine ks_codeAny_call_defAt (fd := ksFn name qual params (.Expr (.Call (.Attribute (.Call (.Name "super" p0) [] [] p1) "__init__" p2) [msg] [] p3) p4 :: rest) scope .none kV doc pm an (.ref cda) ct cc) hr.depth (KX _ _ lk) rfl lim (codeRec_of KX hcd) rfl hb S.cell
    (fun y hy => S.par y.1 (List.of_mem_zip hy).1) (fun h₀ hns hk => ?_) S.co S.gen S.kind
  have I := inv_sup (CX := CX) (P := P) (w := w) (mg := mg) (N := N) (qual := qual) (f := fI) (E := E) (tk := s.toks + (ps.zip us).length) S T hr.hd e0 hl r hns hk
  have KX0 : K.In h₀ := KX.keeps hk
  obtain ⟨nm, q', N', bs, bm, sn, sub, ab, col, dd, k0, k1, k2, k3, k5, hC, hbm⟩ := T.oex.cls
  have hcl : clsIn K C = some { name := nm, bases := bs, mro := .ref C :: bm, ns := N', qualname := q', hasDict := true, slotNames := sn, subclasses := sub, abstract := ab, collection := col, hasDel := false } := by unfold clsIn; rw [hC] <;> rfl
  obtain ⟨ccl, cdd, cvs, ccs, file, tf, hcda, hvs2, hfile⟩ := T.code
  obtain ⟨cl, cld, csl, hcell⟩ := T.cell
  obtain ⟨t0, ho⟩ := exo_at I.hok hHx
  have hxC : x ≠ C := fun z => by
    have := (e0.bs _ _ (e0.mod.kin _ _ hC)).2
    rw [← z, hHx] at this
    cases this
  have hself' : ps[0]? = some self := by cases ps with | nil => cases hps | cons a l => exact hps
  have hxv : us[0]? = some (.ref x) := by
    have h0 : vs[0]? = some (.ref x) := by cases vs with | nil => cases hx | cons a l => exact hx
    obtain ⟨u, hu, ru⟩ := r.get h0
    rw [hu]
    exact congrArg some ru
  have ndP : ps.Nodup := by rw [← S.pre]; exact S.nd.sublist (List.take_sublist _ _)
  have hlook : (ps.zip us).reverse.lookup self = some (.ref x) := binds_get ndP hself' hxv (by have := r.length; omega)
  obtain ⟨hs, g, d, tk, os⟩ := s
  obtain ⟨pl, ev⟩ := hev hs.objs.size
  show _root_.PySem.wpAt (model P w) (A.deeper (ksEnv qual scope hs.objs.size fI (.ref cda) cc)) (.func (.Expr (.Call (.Attribute (.Call (.Name "super" p0) [] [] p1) "__init__" p2) [msg] [] p3) p4 :: rest) (ksEnv qual scope hs.objs.size fI (.ref cda) cc)) (execs (.Expr (.Call (.Attribute (.Call (.Name "super" p0) [] [] p1) "__init__" p2) [msg] [] p3) p4 :: rest) (ksEnv qual scope hs.objs.size fI (.ref cda) cc)) _ _ _
  refine ks_wpAt_execs_cons ?_
  refine ks_wpAt_Expr_any ?_ (hi _) (hsw _)
  refine ks_wpAt_MethodCall (pl := pl) ?_ ev
  refine ks_wpAt_super_base (env := ksEnv qual scope hs.objs.size fI (.ref cda) cc) S.sup S.cls (by decide +kernel) rfl (KX0 _ _ lk) rfl har rfl (KX0 _ _ hcda) rfl hvs2 hfile T.top ?_
  obtain ⟨mb, hmb1, hmb2⟩ := e0.mod.blt
  have bk : ∀ b o, base.get? b = some o → h₀.get? b = some o := fun b o e => hk _ _ (e0.bs b o e).1
  refine ks_loadName_global S.kind S.sup (Calls.loadGlobal_builtin (env := ksEnv qual scope hs.objs.size fI (.ref cda) cc) (e0.mod.glob.keeps bk) T.sup (hmb1.keeps bk) ((hmb2 _ (by decide +kernel)).trans (show bootBuiltins "super" = some (.type "super") by first | boot_by_name | rfl | kernel_rfl)) ⟨rfl, ?_⟩)
  refine wpAny_loadName_free S.kind S.cls (show List.lookup _ [(("__class__" : Str), cc)] = some cc by simp [List.lookup]) ⟨_, KX0 _ _ hcell, rfl⟩ ?_
  refine wpAny_loadName_local S.kind (show scope.names.lookup ar.arg = some .local by rw [hself]; exact S.par _ (List.mem_of_getElem? hself')) hns (by rw [hself]; exact hlook) ?_
  refine ks_wpAny_isType_cls (KX0 _ _ hC) rfl ⟨rfl, ?_⟩
  refine ks_wpAny_call_super (KX0 _ _ hC) rfl ho rfl (fun c e => nomatch e) (looks_mroIn KX0 T.sub) (fun h1 e1 kk1 => ?_)
  have I1 := I.kept (t' := tk + (ps.zip us).length) kk1
  have KX1 : K.In h1 := KX0.keeps kk1
  have inst1 : W.InstAt h1 x { cls := .ref C, dict := none, data := .fields #[.ref t0, .none, .none, .none, .bool false, .none] } C none := ⟨kk1 _ _ ho, rfl, rfl, trivial⟩
  have hf1 := T.along
  unfold ks_superIn at hf1
  rw [hcl] at hf1
  refine kxs_getMethod kxs_ValueError e1 (looks_opaque KX1 T.any) (l₀ := .ref C :: bm) (fun A Q E s k q => wpAny_bind ((looks_clsIn KX1 hcl) A _ E s k (wpAny_pure q))) rfl KX1 hf1 (inst1.type.andThen (looks_subIn KX1 T.subV)) hxC (by decide +kernel) ?_
  have kk2 : ∀ b o, h1.get? b = some o → (h1.push (kxs_mw "ValueError.__init__" x)).get? b = some o := fun b o e => Heap.get?_push_of_some _ e
  have I2 := I1.kept (t' := tk + (ps.zip us).length + 1) kk2
  have hu2 : (h1.push (kxs_mw "ValueError.__init__" x)).get? h1.objs.size = some (kxs_mw "ValueError.__init__" x) := Heap.get?_push_at rfl rfl
  have I2p : Inv (cxS CX P w K mg base N qual scope fI cda cc A outer ⟨hs, g, d, tk, os⟩ H E) [(h1.objs.size, kxs_mw "ValueError.__init__" x)] (L2.start N vs) H ⟨h1.push (kxs_mw "ValueError.__init__" x), g, d, tk + (ps.zip us).length + 1, os⟩ := I2.pins_of fun p hp => by
    rw [List.mem_singleton.mp hp]
    exact ⟨hu2, I1.hok.fresh (Nat.le_refl _), Nat.ne_of_gt I1.lt, I1.nofs (Nat.le_refl _), fun v z => nomatch z⟩
  have hargs := pa.run p3 _ _ _ _ _ I2p q
  show wpAny _ _ (callWith p3 (.ref h1.objs.size) [] (backTo p3 (starEach (msg :: []) (ksEnv qual scope hs.objs.size fI (.ref cda) cc))) []) _ _ _
  have he := hst hs.objs.size
  have hargs' := hargs
  change wpAny _ _ (spliced (backTo p3 (starEach (msg :: []) (ksEnv qual scope hs.objs.size fI (.ref cda) cc)))) _ _ _ at hargs'
  rw [he] at hargs' ⊢
  refine kxs_callWith (i := "ValueError.__init__") (x := x) rfl (Calls.evalArgs_plain (thn hargs' fun us3 s3 hh => ?_))
  obtain ⟨vs3, H3, I3, r3, hl3, hx3, q3⟩ := hh
  have hpin := I3.pin (h1.objs.size, kxs_mw "ValueError.__init__" x) (List.mem_append_right _ (List.mem_cons_self ..))
  refine ⟨hpin.1, ?_⟩
  show wpAny _ _ (call (.ref h1.objs.size) us3) _ _ _
  obtain ⟨t3, ho3⟩ := exo_at I3.hok hx3
  have hlen3 : us3.length ≤ sizeLine := by rw [← Paired.length r3, sizeLine_eq]; omega
  have KX3 := I3.kIn
  obtain ⟨h3, g3, d3, tk3, os3⟩ := s3
  refine call_bwV (KX3 _ _ hC) ho3 hpin.1 hlen3 fun h4 t4 k4 hx4 => ?_
  have J := I3.write (t' := tk3) (x := x) (e := x) (o := exo x C none) (by rw [hx3]; exact True.intro) (.inl rfl) k4 ⟨_, hx4⟩ (exo_ok hx4)
  have eu : upd H3 x (exo x C none) = H3 := by
    funext b
    by_cases hb : b = x
    · rw [hb, upd_same, hx3]
    · rw [upd_ne hb]
  rw [eu] at J
  refine wpAt_of_wpAny ?_
  refine wpAny_mono (ps'.run _ _ _ _ _ J q3) (fun fl s' hs' => ?_) fun e s' hs' => hs'
  have fin : ∀ {σ' : L2.St} {H' : Hp} {v : V} {u : Value} {pins : List (Addr × Obj)}, Inv (cxS CX P w K mg base N qual scope fI cda cc A outer ⟨hs, g, d, tk, os⟩ H E) pins σ' H' s' → RelV v u → Q v H' → CE outer P w H ⟨hs, g, d, tk, os⟩ Q u s' :=
    fun {σ' H' v u pins} J rv q => ⟨v, H', J.os, J.bare, J.base, J.hok, rv, q⟩
  cases fl with
  | ret u =>
    obtain ⟨v, σ', H', J, rv, q⟩ := hs'
    exact fin J rv q
  | next =>
    obtain ⟨σ', H', J, q⟩ := hs'
    exact fin (v := V.non) (u := Value.none) J rfl q
  | brk =>
    obtain ⟨_, _, _, q⟩ := hs'
    exact False.elim q
  | cont =>
    obtain ⟨_, _, _, q⟩ := hs'
    exact False.elim q
end
end Z
namespace Z
open PySem PySem.Spec PyProof.Rows L2
/-! ## defs that may raise -/
/-- a def that may be called by its name, and may let an exception out -/
structure CalX (P : Program) (w : World) (K : PySem.W.Frag) (mg : Str → Option Value) (base : Heap) (k : Nat) (x : Str) (sp : Sp) : Prop where
  ex : ∃ (f : Addr) (fd : FuncData) (ps : List Str), FnOk P w K mg base (L2.CX P w) k f fd ps sp ∧ mg x = some (.ref f) ∧ PySem.W.keepIn K (.ref f) = true ∧ Binds K fd ps []
/-- an own exception that may be made by its name; sp: its __init__ -/
structure OexI (P : Program) (w : World) (K : PySem.W.Frag) (mg : Str → Option Value) (base : Heap) (k : Nat) (x : Str) (C : Addr) (sp : Sp) : Prop where
  ex : ∃ (f : Addr) (fd : FuncData) (ps : List Str), OexC K C ∧ PySem.W.findIn K (.ref C) "__init__" = some (some (.ref f)) ∧ PySem.W.typeIn K (.ref f) = some (.type "function") ∧ FnOk P w K mg base (L2.CX P w) k f fd ps sp ∧ Binds K fd ps [] ∧ mg x = some (.ref C)
section
variable {P : Program} {w : World} {K : PySem.W.Frag} {mg : Str → Option Value} {base : Heap}
theorem calX {x : Str} {st : Stmt} {f : Addr} {fd : FuncData} {N ps : List Str} {k : Nat} {sp : Sp} (F : C8.Def K mg x st f fd) (b : Binds K fd ps []) (S : FnScope N ps (C8.fnScope st)) (len : ∀ vs H Q E, sp vs H Q E → vs.length = ps.length)
    (hbody : ∀ (cdv : Value) (A : Around) (outer : List Env) (s : Shared) (H : Hp) (vs : List V) (Q : VK) (E : XK), Room k (A.deeper (envOfC x (C8.fnScope st) s.heap.objs.size f cdv)) → sp vs H Q E →
      ∃ t, PSs (cxOf (L2.CX P w) P w K mg base N x (C8.fnScope st) f cdv A outer s H E) (C8.fnBody st) t ∧ t { nx := fun _ H' => Q .non H', rt := Q } (start N vs) H) : CalX P w K mg base (k + 1) x sp := by
  refine ⟨f, fd, ps, ?_, F.mgf, F.kp, b⟩
  obtain ⟨oc, od, dV, kV, doc, pm, an, cdv, ct, osl, rfl, lk, hcd⟩ := F.fn.ex
  exact fn_of lk hcd S len fun A outer s H vs Q E hr hsp => hbody cdv A outer s H vs Q E hr hsp
end
section
variable {X : Cx} {k j : Nat} {x : Str} {sp : Sp} {p pos : Pos} {e : Expr} {es : List Expr} {t : TA} {E : XK} {W : WX} {C : Addr}
/-- a class by its name -/
theorem pe_cls (hg : Gl X x) (hm : X.mg x = some (.ref C)) (hd : (x == ("__debug__" : Str)) = false := by decide) : PE X (.Name x p) (tC (.ref C)) := pe_glob hg hm rfl hd
/-- called where no exception leaves -/
theorem pe_cn (c : CalX X.prog X.w X.K X.mg X.base k x sp) (hr : Room j X.A) (hk : k ≤ j) (hg : Gl X x) (ha : PA X (e :: es) t)
    (hdb : (x == ("__debug__" : Str)) = false := by decide) (he : starEach (e :: es) X.env = (false, eval e X.env) :: starEach es X.env := by rfl) (hpl : (backTo pos (starEach es X.env)).any (·.1) = false := by rfl) :
    PE X (.Call (.Name x p) (e :: es) [] pos) (tCall sp [] L2.E0 t) := by
  obtain ⟨f, fd, ps, F, hm, kp, b⟩ := c.ex
  exact pe_call F (hr.mono hk) hg hm kp b .nil passL ha hdb he hpl
/-- called in a def that hands the exception on -/
theorem pe_cx (c : CalX X.prog X.w X.K X.mg X.base k x sp) (tk : Takes X fun cls d _ H => E cls d H) (hr : Room j X.A) (hk : k ≤ j) (hg : Gl X x) (ha : PA X (e :: es) t)
    (hdb : (x == ("__debug__" : Str)) = false := by decide) (he : starEach (e :: es) X.env = (false, eval e X.env) :: starEach es X.env := by rfl) (hpl : (backTo pos (starEach es X.env)).any (·.1) = false := by rfl) :
    PE X (.Call (.Name x p) (e :: es) [] pos) (tCall sp [] E t) := by
  obtain ⟨f, fd, ps, F, hm, kp, b⟩ := c.ex
  exact pe_call F (hr.mono hk) hg hm kp b .nil (passes_call tk fun _ _ _ _ h => h) ha hdb he hpl
/-- called in the body of a try -/
theorem pe_ct (c : CalX X.prog X.w X.K X.mg X.base k x sp) (tk : Takes X W) (hr : Room j X.A) (hk : k ≤ j) (hg : Gl X x) (ha : PA X (e :: es) t)
    (hdb : (x == ("__debug__" : Str)) = false := by decide) (he : starEach (e :: es) X.env = (false, eval e X.env) :: starEach es X.env := by rfl) (hpl : (backTo pos (starEach es X.env)).any (·.1) = false := by rfl) :
    PE X (.Call (.Name x p) (e :: es) [] pos) (tCallS sp (WE W) t) := by
  obtain ⟨f, fd, ps, F, hm, kp, b⟩ := c.ex
  exact pe_callS F (hr.mono hk) hg hm kp b (fun σ => passAt tk σ) ha hdb he hpl
theorem pm_x (c : OexI X.prog X.w X.K X.mg X.base k x C sp) (hr : Room j X.A) (hk : k + 1 ≤ j) (hg : Gl X x) (ha : PA X (e :: es) t)
    (hdb : (x == ("__debug__" : Str)) = false := by decide) (he : starEach (e :: es) X.env = (false, eval e X.env) :: starEach es X.env := by rfl) (hpl : (backTo pos (starEach es X.env)).any (·.1) = false := by rfl) :
    PMk X (.Call (.Name x p) (e :: es) [] pos) (tMkO C sp [] t) := by
  obtain ⟨f, fd, ps, T, iC, tI, F, b, hm⟩ := c.ex
  exact pmk_oex T iC tI F (hr.mono hk) b .nil passL hg hm ha hdb he hpl
end
/-- the heap behind an exception of the class at C with the fields fs: what a wish must bear -/
def WantX (C : Addr) (fs : List (Str × V)) (H : Hp) (E : XK) : Prop := ∀ (d : Addr) (H' : Hp), H d = none → Same H H' → H' d = some (.xd fs) → E (.ref C) (some d) H'
theorem mkO1 {C : Addr} {sp : Sp} {H1 : Hp} {E : XK} {vs : List V} (fs : List (Str × V)) (hw : WantX C fs H1 E)
    (hs : ∀ (a : Addr) (Q : VK), H1 a = none → (∀ d, H1 d = none → d ≠ a → Q .non (upd (upd (upd H1 a (exo a C none)) d (exd d fs)) a (exo a C (some d)))) → sp (.ref a :: vs) (upd H1 a (exo a C none)) Q (fun _ _ _ => False)) :
    ∀ a, H1 a = none → sp (.ref a :: (vs ++ [])) (upd H1 a (exo a C none))
      (fun v H2 => v = .non ∧ ∃ (d : Addr) (fs : List (Str × V)), H2 a = some (exo a C (some d)) ∧ H2 d = some (exd d fs) ∧ H1 d = none ∧ E (.ref C) (some d) (upd (del H2 a) d (.xd fs))) (fun _ _ _ => False) := by
  intro a ha
  rw [List.append_nil]
  refine hs a _ ha fun d hd hda => ?_
  refine ⟨rfl, d, fs, upd_same, ?_, hd, ?_⟩
  · rw [upd_ne hda, upd_same]
  · refine hw d _ hd (fun b o hb => ?_) upd_same
    have hba : b ≠ a := ne_of_none hb ha
    have hbd : b ≠ d := ne_of_none hb hd
    rw [upd_ne hbd, del_ne hba, upd_ne hba, upd_ne hbd, upd_ne hba]
    exact hb
/-! ## isinstance of a caught exception -/
/-- what the written part says of the class -/
structure ExcK (K : PySem.W.Frag) (C : Addr) : Prop where
  k0 : (PySem.W.clsIn K C).isSome = true
  k4 : PySem.W.findIn K (.ref C) "__getattribute__" = some (some (.builtin "BaseException.__getattribute__"))
  k5 : PySem.W.findIn K (.ref C) "__getattr__" = some none
  k6 : PySem.W.subIn K (.ref C) (.type "BaseException") = some true
  k7 : PySem.W.findIn K (.ref C) "__class__" = some (some (.builtin "object.__class__"))
  k8 : PySem.W.specialIn K (.builtin "object.__class__") "__get__" = some (some (.builtin "getset_descriptor.__get__"))
  k9 : PySem.W.takesIn K (.builtin "object.__class__") = some true
  k10 : PySem.W.mroIn K C (.type "object") = some true
/-- isinstance(e, c): a the caught exception, of the class at C; c a class, or a tuple of classes -/
def tXi (K : PySem.W.Frag) (a : Addr) (cls : Value) (d : Option Addr) (C : Addr) (ta : TA) : TE := fun σ H Q => ta σ H fun vs H1 => cls = .ref C ∧ (∃ (dd : Addr) (fs : List (Str × V)), d = some dd ∧ H1 dd = some (.xd fs)) ∧
  ∃ b : Bool, Q (.bl b) H1 ∧ ((∃ (c : V) (u : Value), vs = [.ref a, c] ∧ ClsV c u ∧ PySem.W.kitOne K (.ref C) u = some b) ∨
    ∃ (tp : Addr) (cs : List V) (us : List Value), vs = [.ref a, .ref tp] ∧ H1 tp = some (.tup cs) ∧ Paired ClsV cs us ∧ PySem.W.kitAny K (.ref C) us = some b)
theorem pe_xi {X : Cx} {a C : Addr} {oe : Obj} {cls : Value} {d : Option Addr} {pn : List (Addr × Obj)} {e : Expr} {es : List Expr} {ta : TA} {p pos : Pos} (T : ExcK X.K C)
    (hz : Zc cls d oe) (hf : ∃ vs, oe.data = .fields vs) (hg : Gl (X.suite a ((a, oe) :: pn)) "isinstance") (hm : X.mg "isinstance" = none) (ha : PA (X.suite a ((a, oe) :: pn)) (e :: es) ta)
    (hv : bootBuiltins ("isinstance" : Str) = some (.builtin "isinstance") := by decide +kernel)
    (he : starEach (e :: es) X.env = (false, eval e X.env) :: starEach es X.env := by rfl) (hpl : (backTo pos (starEach es X.env)).any (·.1) = false := by rfl) :
    PE (X.suite a ((a, oe) :: pn)) (.Call (.Name "isinstance" p) (e :: es) [] pos) (tXi X.K a cls d C ta) := by
  refine ⟨fun pins s σ H Q I h => ?_⟩
  refine wpAny_Call_Name_kw (ld_blt I hg hm hv ?_ (by decide) (by decide))
  refine PyProof.Rows.callWith_builtin1 (thn (ha.run pos pins s σ H _ I h) fun us s1 hh => ?_) he hpl
  obtain ⟨vs, H1, I1, r1, ec, ⟨dd, fs, ed, ea⟩, b, q, hb⟩ := hh
  subst ec
  subst ed
  obtain ⟨ho, _⟩ := I1.pin (a, oe) (List.mem_append_left _ List.mem_cons_self)
  obtain ⟨fv, hd⟩ := hf
  have hx : ObjOk X.prog X.w H1 s1.heap dd (.xd fs) := I1.hok dd _ ea
  obtain ⟨mA, hns, hr⟩ := hx
  obtain ⟨od, hod, hl⟩ := lookIn_ns hns
  have J : PySem.W.InstAt s1.heap a oe C (some od) := ⟨ho, hz.1, by unfold PySem.W.notCls; rw [hd] <;> rfl, by rw [hz.2]; exact hod⟩
  have Z := PySem.W.kitx_exc (x := a) (ox := oe) (od := some od) T.k0 T.k4 T.k5 T.k6 T.k7 T.k8 T.k9 T.k10
  rcases hb with ⟨c, u, rfl, k, e1⟩ | ⟨tp, cs, ws, rfl, hT, k, e1⟩
  · obtain ⟨u1, u2, rfl, x1, x2⟩ := vals2 r1
    have e2 := k.eq x2
    subst e2
    cases (show u1 = Value.ref a from x1)
    exact PySem.W.kia_one Z I1.kIn J e1 (fun z => nomatch z) fun tk => ⟨.bl b, H1, I1.tok tk, rfl, q⟩
  · obtain ⟨u1, u2, rfl, x1, x2⟩ := vals2 r1
    cases (show u1 = Value.ref a from x1)
    cases (show u2 = Value.ref tp from x2)
    obtain ⟨_, its, rv, o, h1, h2, n, h3⟩ := (show ObjOk X.prog X.w H1 s1.heap tp (.tup cs) from I1.hok tp _ hT)
    have e3 := ClsV.all k rv
    subst e3
    obtain ⟨oc, od', dt, sl⟩ := o
    simp only at h2 h3
    subst h2 h3
    exact PySem.W.kia_tup Z I1.kIn J h1 e1 (fun z => nomatch z) fun tk => ⟨.bl b, H1, I1.tok tk, rfl, q⟩
/-! ## readings -/
section
variable {t ta : TA} {te : TE} {σ : L2.St} {H : Hp} {Q : VK} {sp : Sp} {E : L2.St → XK} {C a dd : Addr} {E' : XK} {D : Ends} {K : PySem.W.Frag} {fs : List (Str × V)} {f : Str} {v c : V} {u : Value} {b : Bool}
theorem rCallS (h : t σ H fun vs H1 => sp vs H1 Q (E σ)) : tCallS sp E t σ H Q := h
theorem rRaise (h : ta σ H fun vs H1 => vs.length ≤ 1000 ∧ ∀ a, H1 a = none → sp (.ref a :: (vs ++ [])) (upd H1 a (exo a C none))
      (fun v H2 => v = .non ∧ ∃ (d : Addr) (fs : List (Str × V)), H2 a = some (exo a C (some d)) ∧ H2 d = some (exd d fs) ∧ H1 d = none ∧ E' (.ref C) (some d) (upd (del H2 a) d (.xd fs))) (fun _ _ _ => False)) :
    tMkO C sp [] ta σ H E' := h
theorem rXf (h : te σ H fun x H1 => x = .ref a ∧ (Value.ref C) = .ref C ∧ ∃ (d' : Addr) (fs : List (Str × V)) (v : V), some dd = some d' ∧ H1 d' = some (.xd fs) ∧ fs.lookup f = some v ∧ Q v H1) : tXf a (.ref C) (some dd) C f te σ H Q := h
theorem xf_end {R : V → Prop} (hd : H dd = some (.xd fs)) (e : fs.lookup f = some v) (h : R v) : (V.ref a : V) = .ref a ∧ (Value.ref C) = .ref C ∧ ∃ (d' : Addr) (fs : List (Str × V)) (v : V), some dd = some d' ∧ H d' = some (.xd fs) ∧ fs.lookup f = some v ∧ R v := ⟨rfl, rfl, dd, fs, v, rfl, hd, e, h⟩
theorem rXi (h : ta σ H fun vs H1 => (Value.ref C) = .ref C ∧ (∃ (d' : Addr) (fs : List (Str × V)), some dd = some d' ∧ H1 d' = some (.xd fs)) ∧
  ∃ b : Bool, Q (.bl b) H1 ∧ ((∃ (c : V) (u : Value), vs = [.ref a, c] ∧ ClsV c u ∧ PySem.W.kitOne K (.ref C) u = some b) ∨
    ∃ (tp : Addr) (cs : List V) (us : List Value), vs = [.ref a, .ref tp] ∧ H1 tp = some (.tup cs) ∧ Paired ClsV cs us ∧ PySem.W.kitAny K (.ref C) us = some b)) : tXi K a (.ref C) (some dd) C ta σ H Q := h
theorem xi_own {R : Bool → Prop} {c : Addr} (hd : H dd = some (.xd fs)) (e : PySem.W.kitOne K (.ref C) (.ref c) = some b) (h : R b) : (Value.ref C) = .ref C ∧ (∃ (d' : Addr) (fs : List (Str × V)), some dd = some d' ∧ H d' = some (.xd fs)) ∧
  ∃ b : Bool, R b ∧ ((∃ (c' : V) (u : Value), [V.ref a, .ref c] = [.ref a, c'] ∧ ClsV c' u ∧ PySem.W.kitOne K (.ref C) u = some b) ∨
    ∃ (tp : Addr) (cs : List V) (us : List Value), [V.ref a, .ref c] = [.ref a, .ref tp] ∧ H tp = some (.tup cs) ∧ Paired ClsV cs us ∧ PySem.W.kitAny K (.ref C) us = some b) := ⟨rfl, ⟨dd, fs, rfl, hd⟩, b, h, .inl ⟨_, _, rfl, .own c, e⟩⟩
theorem xi_ty {R : Bool → Prop} {n : String} (hd : H dd = some (.xd fs)) (e : PySem.W.kitOne K (.ref C) (.type n) = some b) (h : R b) : (Value.ref C) = .ref C ∧ (∃ (d' : Addr) (fs : List (Str × V)), some dd = some d' ∧ H d' = some (.xd fs)) ∧
  ∃ b : Bool, R b ∧ ((∃ (c' : V) (u : Value), [V.ref a, .ty n] = [.ref a, c'] ∧ ClsV c' u ∧ PySem.W.kitOne K (.ref C) u = some b) ∨
    ∃ (tp : Addr) (cs : List V) (us : List Value), [V.ref a, .ty n] = [.ref a, .ref tp] ∧ H tp = some (.tup cs) ∧ Paired ClsV cs us ∧ PySem.W.kitAny K (.ref C) us = some b) := ⟨rfl, ⟨dd, fs, rfl, hd⟩, b, h, .inl ⟨_, _, rfl, .ty n, e⟩⟩
theorem rOst {to te : TE} {nx : L2.St → Hp → Prop} {rt : VK} {bk ct : L2.St → Hp → Prop} (h : te σ H fun y H1 => to σ H1 fun x H2 => ∃ a C : Addr, x = .ref a ∧ OexC K C ∧ PySem.W.findIn K (.ref C) f = some none ∧
  ((H2 a = some (exo a C none) ∧ ∀ dx, H2 dx = none → dx ≠ a → nx σ (upd (upd H2 dx (exd dx [(f, y)])) a (exo a C (some dx)))) ∨
    ∃ (dx : Addr) (fs : List (Str × V)), H2 a = some (exo a C (some dx)) ∧ H2 dx = some (exd dx fs) ∧ fs.length ≤ 900 ∧ nx σ (upd H2 dx (exd dx ((f, y) :: fs))))) : tOst K f to te ⟨nx, rt, bk, ct⟩ σ H := h
theorem rRevL (h : te σ H fun x H1 => ∃ a xs, x = .ref a ∧ SqL K H1 a xs ∧ newO (.lst xs.reverse) H1 Q) : tRevL K te σ H Q := h
theorem revL_end {xs : List V} {p : Addr} (hp : H p = some (.lst xs)) (h : newO (.lst xs.reverse) H Q) : ∃ a ys, (V.ref p : V) = .ref a ∧ SqL K H a ys ∧ newO (.lst ys.reverse) H Q := ⟨p, xs, rfl, SqL.of hp, h⟩
end
/-- a whole number's text is short -/
theorem num_len {n : Nat} (h : n ≤ 3000) : (Str.ofString (toString ((n : Nat) : Int))).length ≤ 4 := by
  have e := TL.tl_num n
  have k : ∀ m, m < 3001 → (TL.numL m).length ≤ 4 := by decide +kernel
  rw [TL.len_tl, e]
  exact k n (by omega)
theorem str_int {i : Int} {H : Hp} {Q : VK} (h : i.natAbs.log2 < 1920) (k : Q (.str (toString i)) H) : rStrI [.int i] H Q := ⟨i, rfl, h, k⟩
theorem log_small {i : Int} (h : i.natAbs ≤ 3000) : i.natAbs.log2 < 1920 := by
  by_cases h0 : i.natAbs = 0
  · rw [h0]
    decide
  · have : i.natAbs.log2 < 12 := (Nat.log2_lt h0).mpr (by show i.natAbs < 4096; omega)
    omega
/-! ## classes of exceptions: what is asked of the written part -/
section
variable {K : PySem.W.Frag} {S C : Addr} {b : Bool}
theorem exm_self (h1 : PySem.W.subIn K (.ref S) (.type "BaseException") = some true) (h2 : PySem.W.isClsIn K S = true) (h3 : PySem.W.typeIn K (.ref S) = some (.type "type")) (h4 : PySem.W.subIn K (.ref S) (.ref S) = some true) :
    PySem.W.exmOne K (.ref S) (.ref S) = some true := by
  have e1 : (PySem.W.subIn K (.ref S) (.type "BaseException") == some true) = true := by rw [h1] <;> rfl
  have e2 : ((PySem.W.clsIn K S).isSome && PySem.W.typeIn K (.ref S) == some (.type "type")) = true := by
    have h2' : (PySem.W.clsIn K S).isSome = true := h2
    rw [h2', h3] <;> rfl
  show (if (PySem.W.subIn K (.ref S) (.type "BaseException") == some true) = true then (if ((PySem.W.clsIn K S).isSome && PySem.W.typeIn K (.ref S) == some (.type "type")) = true then PySem.W.subIn K (.ref S) (.ref S) else none) else none) = some true
  rw [if_pos e1, if_pos e2]
  exact h4
theorem kit_ref (h2 : PySem.W.isClsIn K S = true) (h3 : PySem.W.typeIn K (.ref S) = some (.type "type")) (h4 : PySem.W.subIn K (.ref C) (.ref S) = some b) (h5 : PySem.W.subIn K (.ref C) (.ref C) = some true) : PySem.W.kitOne K (.ref C) (.ref S) = some b := by
  have e2 : ((PySem.W.clsIn K S).isSome && PySem.W.typeIn K (.ref S) == some (.type "type")) = true := by
    have h2' : (PySem.W.clsIn K S).isSome = true := h2
    rw [h2', h3] <;> rfl
  show (if (Value.ref C == Value.ref S) = true then some true else if ((PySem.W.clsIn K S).isSome && PySem.W.typeIn K (.ref S) == some (.type "type")) = true then PySem.W.subIn K (.ref C) (.ref S) else none) = some b
  by_cases q : (Value.ref C == Value.ref S) = true
  · rw [if_pos q]
    have e : C = S := Value.ref.inj (beq_iff_eq.mp q)
    subst e
    rw [h5] at h4
    exact h4
  · rw [if_neg q, if_pos e2]
    exact h4
theorem kit_tyV (h : PySem.W.subIn K (.ref C) (.type "ValueError") = some b) : PySem.W.kitOne K (.ref C) (.type "ValueError") = some b := by
  show (if (Value.ref C == Value.type "ValueError") = true then some true else if PySem.W.kitMeta "ValueError" = true then PySem.W.subIn K (.ref C) (.type "ValueError") else none) = some b
  rw [if_neg (fun z => nomatch (beq_iff_eq.mp z : Value.ref C = Value.type "ValueError")), if_pos (by decide +kernel)]
  exact h
end
end Z
namespace Z
open PySem PySem.Spec PyProof.Rows L2
/-! ## str of an edit -/
theorem tl_neg (s t : String) : TL.tl (Str.ofString (s ++ t)) = TL.tl (Str.ofString s) ++ TL.tl (Str.ofString t) := by
  rw [Str.ofString_eq_toList, Str.ofString_eq_toList, Str.ofString_eq_toList]
  show ((s ++ t).toList.map Char.toNat).toArray.toList = (s.toList.map Char.toNat).toArray.toList ++ (t.toList.map Char.toNat).toArray.toList
  simp
theorem num_len' {i : Int} (h : i.natAbs < 1000000000) : (Str.ofString (toString i)).length ≤ 10 := by
  match i, h with
  | .ofNat n, h =>
    rw [TL.len_tl]
    show (TL.tl (Str.ofString (toString ((n : Nat) : Int)))).length ≤ 10
    rw [TL.tl_num]
    have := TL.numL_len (n := n) (k := 9) (by omega) h
    omega
  | .negSucc n, h =>
    rw [TL.len_tl]
    show (TL.tl (Str.ofString ("-" ++ toString (((n + 1 : Nat) : Int))))).length ≤ 10
    rw [tl_neg, TL.tl_num, List.length_append]
    have := TL.numL_len (n := n + 1) (k := 9) (by omega) h
    have e : (TL.tl (Str.ofString "-")).length = 1 := by decide +kernel
    omega
/-- str(t), t a tuple of ints and texts: some bounded text -/
theorem str_tup {prog : Program} {w : World} {A : Around} {E : Value → Shared → Prop} {s : Shared} {a : Addr} {o : Obj} {items : Array Value} {n : Nat} {ts : List Str} {Q : Value → Shared → Prop} (hu : A.units + 4 < cLine) (ha : s.heap.get? a = some o) (hc : o.cls = .type "tuple") (hd : o.data = .seq items n)
    (hT : ∀ (prog : Program) (w : World), ReprAll prog w items.toList ts) (hsz : (tupleText ts).length ≤ sizeLine)
    (h : ∀ (m : Str) (u tk : Tok), m.length ≤ (tupleText ts).length + 5 → Q (.str m u) { s with toks := tk }) : wpAny (model prog w) A (call (.type "str") [.ref a]) Q E s :=
  callType_new F.called_str (by decide) (F.typeCall_str_1 _) (F.newCall_str_1 _) (fun obj => F.args_object_init_2 obj _) F.entry_str_new
    (meets_str_new (S := fun A' R s' => A'.units + 3 < cLine ∧ s'.heap.get? a = some o ∧
        ∀ m u tk, m.length ≤ (tupleText ts).length + 5 → R (.ok (.ret (.str m u))) { s' with toks := tk })
      fun prog' w' A' R s' h => wpAny_strOf_slot rfl (by show A'.units + 1 + 1 < cLine; have := h.1; omega) ⟨o, h.2.1, hc⟩ F.slot_tuple_str F.slot_tuple_repr
        (fmt_tuple_repr h.2.1 hc hd (hT prog' w') hsz fun m u tk hm => ⟨m, u, rfl, h.2.2 m u tk hm⟩))
    ⟨by show A.units + 1 + 3 < cLine; omega, ha, fun m u tk hm => ⟨typeIs_str _ _ _, h m u tk hm⟩⟩
theorem ok_small {x : Str} (h : Ok x) : ∀ c ∈ x.cps.toList, c < 16 ^ 8 := fun c hc => by
  have h1 : c < 1114112 := h c hc
  exact Nat.lt_trans h1 (by decide)
theorem int_small {i : Int} (h : i.natAbs < 1000000000) : i.natAbs.log2 < 1920 := by
  by_cases h0 : i.natAbs = 0
  · rw [h0]
    decide
  · have : i.natAbs.log2 < 30 := (Nat.log2_lt h0).mpr (by show i.natAbs < 1073741824; omega)
    omega
/-- str of an edit: some text, not long -/
def rStrE : List V → Hp → VK → Prop := fun vs H Q => ∃ (v : V) (x : Ed), vs = [v] ∧ EdAt H v x ∧ x.s.natAbs < 1000000000 ∧ x.e.natAbs < 1000000000 ∧ Ok x.n ∧ x.n.length ≤ 100000 ∧ ∀ m : Str, m.length ≤ 2000000 → Q (.str m) H
theorem call_strE {X : Cx} (hu : X.A.units + 64 < cLine) : CallR X (.type "str") rStrE := by
  intro pins s σ H vs us Q I r h
  obtain ⟨v, x, rfl, ⟨p, rfl, hp⟩, h1, h2, hk, hl, q⟩ := h
  obtain ⟨u, rfl, r1⟩ := vals1 r
  cases r1
  obtain ⟨its, rv, ⟨o, ho, hcl, n, hd⟩, _⟩ := I.tuple (SqT.of hp)
  have e1 := StrLaws.reprText_len x.n (ok_small hk)
  have e2 := num_len' h1
  have e3 := num_len' h2
  have hz := sizeLine_eq
  have htx := fmt_text [Str.ofString (toString x.s), Str.ofString (toString x.e), reprText x.n]
  rw [piled_cons, piled_cons, piled_cons, piled_nil] at htx
  have hT : ∀ (prog : Program) (w : World), ReprAll prog w its.toArray.toList [Str.ofString (toString x.s), Str.ofString (toString x.e), reprText x.n] := fun prog w => by
    cases rv with
    | cons a1 rv =>
      cases rv with
      | cons a2 rv =>
        cases rv with
        | cons a3 rv =>
          cases rv
          obtain ⟨t1, rfl⟩ := a1
          obtain ⟨t2, rfl⟩ := a2
          obtain ⟨t3, rfl⟩ := a3
          exact .cons (ReprIs.int t1 (int_small h1)) (.cons (ReprIs.int t2 (int_small h2)) (.cons (ReprIs.str x.n t3 (by omega)) .nil))
  exact str_tup (by omega) ho hcl hd hT (by omega) fun m u tk hm => ⟨.str m, H, I.tok _, ⟨u, rfl⟩, q m (by omega)⟩
/-- str of an int, or of an edit -/
def rStrU : List V → Hp → VK → Prop := fun vs H Q => rStrI vs H Q ∨ rStrE vs H Q
theorem call_strU {X : Cx} (hu : X.A.units + 64 < cLine) : CallR X (.type "str") rStrU := CallR.or call_strI (call_strE hu)
theorem st_int {i : Int} {H : Hp} {Q : VK} (h : i.natAbs.log2 < 1920) (k : Q (.str (toString i)) H) : rStrU [.int i] H Q := .inl ⟨i, rfl, h, k⟩
theorem st_ed {v : V} {x : Ed} {H : Hp} {Q : VK} (h : EdAt H v x) (h1 : x.s.natAbs < 1000000000 ∧ x.e.natAbs < 1000000000) (h2 : Ok x.n ∧ x.n.length ≤ 100000) (k : ∀ m : Str, m.length ≤ 2000000 → Q (.str m) H) : rStrU [v] H Q := .inr ⟨v, x, rfl, h, h1.1, h1.2, h2.1, h2.2, k⟩
end Z
namespace Z
open PySem PySem.Spec L2
local macro_rules | `(tactic| walk_at "ne") => `(tactic| first
  | with_reducible assumption
  | with_reducible exact Ne.symm (by assumption)
  | exact Frs.ne (by with_reducible assumption) (by walk_at "hp")
  | exact Frs.ne' (by with_reducible assumption) (by walk_at "hp"))
local macro_rules | `(tactic| walk_at "hp") => `(tactic| first
  | with_reducible assumption
  | (with_reducible refine Same.at (by assumption) ?_; walk_at "hp")
  | (with_reducible refine SL.tup (by assumption) ?_; walk_at "hp")
  | (with_reducible refine SL.at (by assumption) (by walk_at "ne") ?_; walk_at "hp"))
local macro_rules | `(tactic| walk_at "sz") => `(tactic| first
  | with_reducible assumption
  | exact Nat.le_of_ble_eq_true rfl
  | (refine sz_le ?_; omega)
  | (refine sz_lt ?_; omega)
  | decide +kernel)
local macro_rules | `(tactic| walk_at "at") => `(tactic| first
  | with_reducible assumption
  | with_reducible exact at0
  | with_reducible exact at1
  | with_reducible exact at2
  | with_reducible exact ixN0)
local macro_rules | `(tactic| walk_at "nn") => `(tactic| first
  | omega
  | decide
  | exact ⟨by decide, by decide⟩
  | exact ⟨by omega, by omega⟩
  | exact ⟨by omega, by omega, by omega, by omega⟩)
local macro_rules | `(tactic| walk_at "rdv") => `(tactic| first
  | (with_reducible refine add_int ?_)
  | (with_reducible refine sub_int ?_)
  | (with_reducible refine neg_int ?_)
  | ((with_reducible refine ix_tpl (xs := ?xs) (v := ?v) ?h1 ?h2 ?_); (case h1 => walk_at "hp"); (case h2 => walk_at "at"))
  | ((with_reducible refine ix_lst (xs := ?xs) (v := ?v) ?h1 ?h2 ?_); (case h1 => walk_at "hp"); (case h2 => walk_at "at"))
  | (with_reducible refine eq_int ?_)
  | (with_reducible refine ne_int ?_)
  | (with_reducible refine lt_int ?_)
  | (with_reducible refine le_int ?_)
  | (with_reducible refine gt_int ?_)
  | (with_reducible refine ge_int ?_)
  | (with_reducible refine eq_str ?_)
  | (with_reducible refine ne_str ?_)
  | (with_reducible refine eq_bl ?_)
  | (with_reducible refine ne_bl ?_)
  | ((with_reducible refine mod_int ?hc ?_); (case hc => walk_at "nn"))
  | ((with_reducible refine div_int ?hc ?_); (case hc => walk_at "nn"))
  | ((with_reducible refine mul_intR ?hc ?_); (case hc => exact ⟨by decide, by decide⟩))
  | ((with_reducible refine mul_intR ?hc ?_); (case hc => exact ⟨by omega, by omega⟩))
  | ((with_reducible refine mul_intL ?hc ?_); (case hc => exact ⟨by omega, by omega⟩))
  | ((with_reducible refine pow_int ?hc ?_); (case hc => exact ⟨by decide, by decide, by decide⟩))
  | ((with_reducible refine add_str ?hc ?_); (case hc => walk_at "sz"))
  | ((with_reducible refine add_lst (xs := ?xs) (ys := ?ys) ?h1 ?h2 ?hc ?_); (case h1 => walk_at "hp"); (case h2 => walk_at "hp"); (case hc => walk_at "sz"))
  | ((with_reducible refine sl_strU ?hc ?_); (case hc => walk_at "sz"))
  | ((with_reducible refine sl_lst (xs := ?xs) ?h1 ?_); (case h1 => walk_at "hp"))
  | (with_reducible refine is_bl ?_)
  | (with_reducible refine isnt_bl ?_)
  | (with_reducible refine is_non ?_)
  | (with_reducible refine isnt_non ?_))
local macro_rules | `(tactic| walk_at "rdc") => `(tactic| first
  | ((with_reducible refine len_lst (xs := ?xs) ?h1 ?_); (case h1 => walk_at "hp"))
  | ((with_reducible refine len_tup (xs := ?xs) ?h1 ?_); (case h1 => walk_at "hp"))
  | ((with_reducible refine len_str ?hc ?_); (case hc => walk_at "sz"))
  | (with_reducible refine int_int ?_)
  | (with_reducible refine max_int ?_)
  | (with_reducible refine min_int ?_)
  | (with_reducible refine abs_int ?_)
  | (with_reducible refine isi_ii ?_)
  | (with_reducible refine isi_ib ?_)
  | (with_reducible refine isi_ss ?_)
  | (with_reducible refine isi_bb ?_)
  | ((with_reducible refine isi_tt (xs := ?xs) ?h1 ?_); (case h1 => walk_at "hp"))
  | ((with_reducible refine isi_ll (xs := ?xs) ?h1 ?_); (case h1 => walk_at "hp"))
  | ((with_reducible refine list_lst (xs := ?xs) ?h1 ?_); (case h1 => walk_at "hp"))
  | ((with_reducible refine list_tup (xs := ?xs) ?h1 ?_); (case h1 => walk_at "hp"))
  | ((with_reducible refine tuple_lst (xs := ?xs) ?h1 ?_); (case h1 => walk_at "hp"))
  | ((with_reducible refine tuple_tup (xs := ?xs) ?h1 ?_); (case h1 => walk_at "hp"))
  | ((with_reducible refine append_lst (xs := ?xs) ?h1 ?hc ?_); (case h1 => walk_at "hp"); (case hc => walk_at "sz"))
  | ((with_reducible refine clear_lst (xs := ?xs) ?h1 ?_); (case h1 => walk_at "hp"))
  | ((with_reducible refine set_lst (xs := ?xs) (k := ?k) ?h1 ?h2 ?_); (case h1 => walk_at "hp"); (case h2 => walk_at "at")))
local macro_rules | `(tactic| walk_at "rd1") => `(tactic| first
  | ((with_reducible refine rVar (v := ?v) ?h ?_); (case h => exact rfl))
  | (with_reducible refine rC ?_)
  | (with_reducible refine rCons ?_)
  | (with_reducible refine rNil ?_)
  | (with_reducible refine rOp ?_)
  | (with_reducible refine rSeq ?_)
  | (with_reducible refine rAsgN ?_)
  | (with_reducible refine rAsgT ?_)
  | (with_reducible refine rAsgS ?_)
  | (with_reducible refine rTest ?_)
  | (with_reducible refine rBl ?_)
  | (with_reducible refine rBl' ?_)
  | (with_reducible refine rInt ?_)
  | (with_reducible refine rInt' ?_)
  | (with_reducible refine rCall ?_)
  | (with_reducible refine rCB ?_)
  | (with_reducible refine rRet ?_)
  | (with_reducible refine rDrop ?_)
  | (with_reducible refine rIfS ?_)
  | (with_reducible refine rTup ?_)
  | (with_reducible refine rLst ?_)
  | (with_reducible refine ⟨Nat.le_of_ble_eq_true rfl, ?_⟩)
  | (with_reducible refine rSl ?_)
  | (with_reducible refine rPart ?_)
  | (with_reducible refine rNoPart ?_)
  | (with_reducible refine rBM ?_)
  | (with_reducible refine rBM0 ?_)
  | ((with_reducible refine tyL (xs := ?xs) ?h1 ?_); (case h1 => walk_at "hp"))
  | (with_reducible refine rM1 ?_)
  | (with_reducible refine rM0 ?_)
  | (with_reducible refine rStr ?_)
  | (with_reducible refine rTru ?_)
  | (with_reducible refine tru_bl ?_)
  | (with_reducible refine tru_int ?_)
  | ((with_reducible refine tru_lst (xs := ?xs) ?h1 ?_); (case h1 => walk_at "hp"))
  | ((with_reducible refine tru_tup (xs := ?xs) ?h1 ?_); (case h1 => walk_at "hp"))
  | ((with_reducible refine tru_str ?hc ?_); (case hc => walk_at "sz"))
  | (with_reducible refine rAnd ?_)
  | (with_reducible refine rOr ?_)
  | (with_reducible refine rNot ?_)
  | (with_reducible refine rAndV ?_)
  | (with_reducible refine rOrV ?_)
  | (with_reducible refine rNotV ?_)
  | (with_reducible refine rIfE ?_)
  | (with_reducible refine rChain ?_)
  | (with_reducible refine rChain3 ?_)
  | (with_reducible refine ifT ?_)
  | (with_reducible refine ifF ?_)
  | (with_reducible refine ifNF ?_)
  | (with_reducible refine ifNT ?_)
  | (with_reducible refine rNext ?_)
  | (with_reducible refine rBrk ?_)
  | (with_reducible refine rCnt ?_)
  | (with_reducible refine rRetN ?_)
  | (with_reducible refine rForR1 ?_)
  | (with_reducible refine rForR2 ?_)
  | (with_reducible refine rForL ?_)
  | ((with_reducible refine rRg1 ?hb ?_); (case hb => walk_at "nn"))
  | ((with_reducible refine rRg2 ?hb ?_); (case hb => walk_at "nn"))
  | ((with_reducible refine rRf (xs := ?xs) ?h1 ?_); (case h1 => walk_at "hp"))
  | (with_reducible refine rLcR1 ?_)
  | (with_reducible refine rLcR2 ?_)
  | (with_reducible refine rLcL ?_)
  | (with_reducible refine gN ?_)
  | (with_reducible refine gNl ?_)
  | (with_reducible refine gC ?_)
  | ((with_reducible refine gT (xs := ?xs) ?h1 ?h2 ?_); (case h1 => walk_at "hp"); (case h2 => exact rfl))
  | (with_reducible refine rUn ?_)
  | walk_at "rdv"
  | walk_at "rdc")
local macro_rules | `(tactic| walk_at "rd") => `(tactic| repeat walk_at "rd1")

local macro_rules | `(tactic| walk_at "rd1") => `(tactic| first
  | (with_reducible refine rCallS ?_)
  | (with_reducible refine rRaise ?_)
  | (with_reducible refine rXf ?_)
  | (with_reducible refine rXi ?_)
  | (with_reducible refine rOst ?_)
  | (with_reducible refine rRevL ?_)
  | ((with_reducible refine revL_end (xs := ?xs) ?h1 ?_); (case h1 => walk_at "hp")))

def sp_EditError (C : Addr) : Sp := fun vs H Q _ => ∃ (x : Addr) (n : Nat), vs = [.ref x, .int n] ∧ n ≤ 3000 ∧ H x = some (exo x C none) ∧
  ∀ d, H d = none → d ≠ x → Q .non (upd (upd H d (exd d [("index", .int n)])) x (exo x C (some d)))
/-- how such an error comes out of a def -/
abbrev BadX (C : Addr) (n : Nat) (H : Hp) (E : XK) : Prop := WantX C [("index", .int n)] H E
def sp_check_edits (C : Addr) : Sp := fun vs H Q E => ∃ (L : Int) (p : Addr) (us : List V) (es : List Ed), vs = [.int L, .ref p] ∧ H p = some (.lst us) ∧ Edits H us es ∧ Mild es ∧
  (fits L es → Q .non H) ∧ ∀ n : Nat, fu L es = n → n ≤ 1000 → BadX C n H E
theorem use_check_edits {C : Addr} {L : Int} {p : Addr} {us : List V} {es : List Ed} {H : Hp} {Q : VK} {E : XK} (hp : H p = some (.lst us)) (he : Edits H us es) (hs : Mild es) (h1 : fits L es → Q .non H) (h2 : ∀ n : Nat, fu L es = n → n ≤ 1000 → BadX C n H E) :
    sp_check_edits C [.int L, .ref p] H Q E := ⟨L, p, us, es, rfl, hp, he, hs, h1, h2⟩
def sp_apply (C : Addr) : Sp := fun vs H Q E => ∃ (t : Str) (p : Addr) (us : List V) (es : List Ed), vs = [.str t, .ref p] ∧ H p = some (.lst us) ∧ Edits H us es ∧ Mild es ∧ t.length ≤ 2000000 ∧ (fits t.length es → Mid t es) ∧
  (fits t.length es → Q (.str (aps t es)) H) ∧ ∀ n : Nat, fu t.length es = n → n ≤ 1000 → BadX C n H E
theorem use_apply {C : Addr} {t : Str} {p : Addr} {us : List V} {es : List Ed} {H : Hp} {Q : VK} {E : XK} (hp : H p = some (.lst us)) (he : Edits H us es) (hs : Mild es) (hl : t.length ≤ 2000000) (hm : fits t.length es → Mid t es) (h1 : fits t.length es → Q (.str (aps t es)) H)
    (h2 : ∀ n : Nat, fu t.length es = n → n ≤ 1000 → BadX C n H E) : sp_apply C [.str t, .ref p] H Q E := ⟨t, p, us, es, rfl, hp, he, hs, hl, hm, h1, h2⟩
def sp_inverse (C : Addr) : Sp := fun vs H Q E => ∃ (t : Str) (p : Addr) (us : List V) (es : List Ed), vs = [.str t, .ref p] ∧ H p = some (.lst us) ∧ Edits H us es ∧ Mild es ∧ t.length ≤ 2000000 ∧ (fits t.length es → Mid t es) ∧
  (fits t.length es → ∀ (q : Addr) (ws : List V) (H' : Hp), Frs H q → Same H H' → H' q = some (.lst ws) → Edits H' ws (bks t es) → Q (.ref q) H') ∧ ∀ n : Nat, fu t.length es = n → n ≤ 1000 → BadX C n H E
theorem use_inverse {C : Addr} {t : Str} {p : Addr} {us : List V} {es : List Ed} {H : Hp} {Q : VK} {E : XK} (hp : H p = some (.lst us)) (he : Edits H us es) (hs : Mild es) (hl : t.length ≤ 2000000) (hm : fits t.length es → Mid t es)
    (h1 : fits t.length es → ∀ (q : Addr) (ws : List V) (H' : Hp), Frs H q → Same H H' → H' q = some (.lst ws) → Edits H' ws (bks t es) → Q (.ref q) H')
    (h2 : ∀ n : Nat, fu t.length es = n → n ≤ 1000 → BadX C n H E) : sp_inverse C [.str t, .ref p] H Q E := ⟨t, p, us, es, rfl, hp, he, hs, hl, hm, h1, h2⟩
section
variable {P : Program} {w : World} {K : PySem.W.Frag} {mg : Str → Option Value} {base : Heap} {aE : Addr}
theorem sup_EditError : SupScope ["self", "index"] ["self", "index"] (C8.fnScope s_EditError___init__) := ⟨by decide +kernel, by decide +kernel, by decide +kernel, by decide, by decide, by decide +kernel, by decide +kernel, by decide +kernel, by decide +kernel, by decide +kernel⟩
theorem init_EditError {fI cda cc aE : Addr} {oc kV doc pm ct : Value} {od an : Option Addr} {osl : Array (Option Value)} (T : Txt mg) (lk : K.lookup fI = some ⟨oc, od, .func (PySem.W.ksFn "__init__" "EditError.__init__" (C8.fnArgs s_EditError___init__) (C8.fnBody s_EditError___init__) (C8.fnScope s_EditError___init__) .none kV doc pm an (.ref cda) ct cc), osl⟩) (hcd : PySem.W.codeIn K (.ref cda) "EditError.__init__" = true) (U : SupC P K mg aE cda cc)
    (iC : PySem.W.findIn K (.ref aE) "__init__" = some (some (.ref fI))) (tI : PySem.W.typeIn K (.ref fI) = some (.type "function")) (hm : mg "EditError" = some (.ref aE)) (nof_index : PySem.W.findIn K (.ref aE) "index" = some none) : OexI P w K mg base 1 "EditError" aE (sp_EditError aE) := by
  refine ⟨fI, _, ["self", "index"], U.oex, iC, tI, fn_sup (N := ["self", "index"]) (k := 0) lk hcd sup_EditError U (by rfl) (by rfl) (by rfl) (fun vs H Q E h => ?_) (fun _ => by rfl) (fun _ => ⟨_, by rfl⟩) (fun _ => by rfl) (fun _ => by rfl) (fun A outer s H vs Q E hr h => ?_), .all fun us hl => match us, hl with | [_, _], _ => rfl, hm⟩
  · obtain ⟨x, n, rfl, _⟩ := h; rfl
  · obtain ⟨x, n, rfl, hn, hx, k⟩ := h
    refine ⟨x, _, _, rfl, hx, (pa_cons (pe_op (op_addK K) (pe_op (op_addK K) pe_str (pe_callTy (call_strU (hu64 hr)) (by rfl) T.n_str (by decide +kernel) (pa_cons (pv 1) pa_nil))) pe_str) pa_nil), (pss_one (ps_ost (pv 0) (pv 1))), ?_⟩
    show (_ : TA) [some (.ref x), some (.int n)] H _
    have q1 := num_len hn
    have q2 : (Str.ofString "edit ").length = 5 := by decide +kernel
    have q3 : (Str.ofString " does not fit").length = 13 := by decide +kernel
    have q4 := len_app (Str.ofString "edit ") (Str.ofString (toString ((n : Nat) : Int)))
    walk_at "rd"
    refine st_int (log_small (by omega)) ?_
    walk_at "rd"
    refine ⟨hx, ?_⟩
    walk_at "rd"
    exact ⟨x, aE, rfl, U.oex, nof_index, .inl ⟨hx, fun d hd hdx => k d hd hdx⟩⟩
theorem cal_check_edits {f : Addr} {fd : FuncData} (T : Txt mg) (FD : C8.Def K mg "check_edits" s_check_edits f fd) (b : Binds K fd ["length", "edits"] [])
    (c_first_unfit : C8.Cal P w K mg base 1 "first_unfit" sp_first_unfit [])
    (c_EditError : OexI P w K mg base 1 "EditError" aE (sp_EditError aE)) : CalX P w K mg base 3 "check_edits" (sp_check_edits aE) := by
  refine calX FD b sc_check_edits (fun vs H Q E h => ?_) (fun cdv A outer s H vs Q E hr h => ?_)
  · obtain ⟨L, p, us, es, rfl, _⟩ := h; rfl
  · obtain ⟨L, p, us, es, rfl, hp, hed, hsm, k1, k2⟩ := h
    refine ⟨_, (pss_cons (ps_set (i := 2) sc_check_edits.nd rfl (.inl rfl) (C8.pe_c c_first_unfit hr (by decide) (by rfl) (pa_cons (pv 0) (pa_cons (pv 1) pa_nil))))
  (pss_one (ps_if (pt_cmpR op_geU (pv 2) pe_int (nomark _)) (pss_one (ps_raise rfl (takes_of rfl rfl rfl rfl) (pm_x c_EditError hr (by decide) (by rfl) (pa_cons (pv 2) pa_nil)))) pss_nil))), ?_⟩
    show (_ : TS) _ [some (.int L), some (.ref p), none] H
    have hsl := hsm.len
    walk_at "rd"
    refine use_fu hp hed hsm ?_
    walk_at "rd"
    rcases fu_cases L es with ⟨e, hf⟩ | ⟨j, hj, e, _, _⟩
    · refine ifD (fun c => by omega) (fun c => ?_)
      walk_at "rd"
      exact k1 hf
    · refine ifD (fun c => ?_) (fun c => by omega)
      walk_at "rd"
      rw [e]
      refine mkO1 (vs := [.int j]) [("index", .int j)] (k2 j e (by omega)) fun a Q' ha h => ?_
      exact ⟨a, j, rfl, by omega, upd_same, fun d hd hda => h d (by rw [upd_ne hda] at hd; exact hd) hda⟩
end
end Z
namespace Z
open PySem PySem.Spec L2
/-! ## ropes -/
inductive Rp where
  | leaf (s : Str)
  | node (l r : Rp)
namespace Rp
def txt : Rp → List Nat
  | leaf s => TL.tl s
  | node l r => l.txt ++ r.txt
def size : Rp → Nat
  | leaf s => s.length
  | node l r => l.size + r.size
def ht : Rp → Nat
  | leaf s => if s.length < 1 then s.length else 1
  | node l r => 1 + max l.ht r.ht
/-- balanced, no leaf empty -/
def Bal : Rp → Prop
  | leaf s => 0 < s.length ∧ s.length ≤ 16
  | node l r => l.Bal ∧ r.Bal ∧ l.ht ≤ r.ht + 1 ∧ r.ht ≤ l.ht + 1
end Rp
open Rp
theorem txt_len : ∀ R : Rp, R.txt.length = R.size
  | leaf s => (TL.len_tl s).symm
  | node l r => by show (l.txt ++ r.txt).length = l.size + r.size; rw [List.length_append, txt_len l, txt_len r]
theorem leaf_ht {s : Str} (h : 0 < s.length) : (leaf s).ht = 1 := if_neg (by omega)
theorem bal_pos : ∀ {R : Rp}, R.Bal → 1 ≤ R.ht ∧ 0 < R.size
  | leaf s, h => ⟨by rw [leaf_ht h.1]; exact Nat.le_refl _, h.1⟩
  | node l r, h => by
    have := bal_pos h.1
    have := bal_pos h.2.1
    exact ⟨by show 1 ≤ 1 + max l.ht r.ht; omega, by show 0 < l.size + r.size; omega⟩
theorem bal_node : ∀ {R : Rp}, R.Bal → 1 < R.ht → ∃ l r, R = node l r
  | leaf s, h, h1 => by rw [leaf_ht h.1] at h1; omega
  | node l r, _, _ => ⟨l, r, rfl⟩
theorem bal_leaf : ∀ {R : Rp}, R.Bal → R.ht ≤ 1 → ∃ s, R = leaf s
  | leaf s, _, _ => ⟨s, rfl⟩
  | node l r, h, h1 => by
    have := bal_pos h.1
    have h2 : 1 + max l.ht r.ht ≤ 1 := h1
    omega
/-- the balancing step -/
def balR (l r : Rp) : Rp :=
    if r.ht = l.ht + 2 then
      match r with
      | node m rr => if m.ht ≤ rr.ht then node (node l m) rr else match m with
        | node ml mr => node (node l ml) (node mr rr)
        | leaf _ => node l r
      | leaf _ => node l r
    else if l.ht = r.ht + 2 then
      match l with
      | node ll m => if m.ht ≤ ll.ht then node ll (node m r) else match m with
        | node ml mr => node (node ll ml) (node mr r)
        | leaf _ => node l r
      | leaf _ => node l r
    else node l r
theorem balR_txt (l r : Rp) : (balR l r).txt = l.txt ++ r.txt := by
  unfold balR
  split
  · cases r with
    | leaf s => rfl
    | node m rr =>
      dsimp only
      split
      · show (l.txt ++ m.txt) ++ rr.txt = l.txt ++ (m.txt ++ rr.txt)
        rw [List.append_assoc]
      · cases m with
        | leaf s => rfl
        | node ml mr =>
          show (l.txt ++ ml.txt) ++ (mr.txt ++ rr.txt) = l.txt ++ ((ml.txt ++ mr.txt) ++ rr.txt)
          simp
  · split
    · cases l with
      | leaf s => rfl
      | node ll m =>
        dsimp only
        split
        · show ll.txt ++ (m.txt ++ r.txt) = (ll.txt ++ m.txt) ++ r.txt
          rw [List.append_assoc]
        · cases m with
          | leaf s => rfl
          | node ml mr =>
            show (ll.txt ++ ml.txt) ++ (mr.txt ++ r.txt) = (ll.txt ++ (ml.txt ++ mr.txt)) ++ r.txt
            simp
    · rfl
theorem balR_ok {l r : Rp} (hl : l.Bal) (hr : r.Bal) (h1 : l.ht ≤ r.ht + 2) (h2 : r.ht ≤ l.ht + 2) : (balR l r).Bal ∧ max l.ht r.ht ≤ (balR l r).ht ∧ (balR l r).ht ≤ max l.ht r.ht + 1 ∧ (l.ht ≤ r.ht + 1 → r.ht ≤ l.ht + 1 → (balR l r).ht = max l.ht r.ht + 1) := by
  have pl := bal_pos hl
  have pr := bal_pos hr
  unfold balR
  split
  · rename_i c
    obtain ⟨m, rr, rfl⟩ := bal_node hr (by omega)
    obtain ⟨hm, hrr, g1, g2⟩ := hr
    have c' : 1 + max m.ht rr.ht = l.ht + 2 := c
    have pm := bal_pos hm
    have eR : (node m rr).ht = 1 + max m.ht rr.ht := rfl
    dsimp only
    split
    · have e1 : (node l m).ht = 1 + max l.ht m.ht := rfl
      have e2 : (node (node l m) rr).ht = 1 + max (node l m).ht rr.ht := rfl
      refine ⟨⟨⟨hl, hm, by omega, by omega⟩, hrr, by omega, by omega⟩, by omega, by omega, fun _ _ => by omega⟩
    · obtain ⟨ml, mr, rfl⟩ := bal_node hm (by omega)
      obtain ⟨hml, hmr, g3, g4⟩ := hm
      have eM : (node ml mr).ht = 1 + max ml.ht mr.ht := rfl
      have e1 : (node l ml).ht = 1 + max l.ht ml.ht := rfl
      have e2 : (node mr rr).ht = 1 + max mr.ht rr.ht := rfl
      have e3 : (node (node l ml) (node mr rr)).ht = 1 + max (node l ml).ht (node mr rr).ht := rfl
      dsimp only
      refine ⟨⟨⟨hl, hml, by omega, by omega⟩, ⟨hmr, hrr, by omega, by omega⟩, by omega, by omega⟩, by omega, by omega, fun _ _ => by omega⟩
  · split
    · rename_i c0 c
      obtain ⟨ll, m, rfl⟩ := bal_node hl (by omega)
      obtain ⟨hll, hm, g1, g2⟩ := hl
      have c' : 1 + max ll.ht m.ht = r.ht + 2 := c
      have pm := bal_pos hm
      have eL : (node ll m).ht = 1 + max ll.ht m.ht := rfl
      dsimp only
      split
      · have e1 : (node m r).ht = 1 + max m.ht r.ht := rfl
        have e2 : (node ll (node m r)).ht = 1 + max ll.ht (node m r).ht := rfl
        refine ⟨⟨hll, ⟨hm, hr, by omega, by omega⟩, by omega, by omega⟩, by omega, by omega, fun _ _ => by omega⟩
      · obtain ⟨ml, mr, rfl⟩ := bal_node hm (by omega)
        obtain ⟨hml, hmr, g3, g4⟩ := hm
        have eM : (node ml mr).ht = 1 + max ml.ht mr.ht := rfl
        have e1 : (node ll ml).ht = 1 + max ll.ht ml.ht := rfl
        have e2 : (node mr r).ht = 1 + max mr.ht r.ht := rfl
        have e3 : (node (node ll ml) (node mr r)).ht = 1 + max (node ll ml).ht (node mr r).ht := rfl
        dsimp only
        refine ⟨⟨⟨hll, hml, by omega, by omega⟩, ⟨hmr, hr, by omega, by omega⟩, by omega, by omega⟩, by omega, by omega, fun _ _ => by omega⟩
    · have e1 : (node l r).ht = 1 + max l.ht r.ht := rfl
      exact ⟨⟨hl, hr, by omega, by omega⟩, by omega, by omega, fun _ _ => by omega⟩
/-- what a join of two ropes gives -/
structure Jn (l r j : Rp) : Prop where
  bal : j.Bal
  txt : j.txt = l.txt ++ r.txt
  lo : max l.ht r.ht ≤ j.ht
  hi : j.ht ≤ max l.ht r.ht + 1
theorem Jn.left {ll lr r j : Rp} (hl : (node ll lr).Bal) (hr : r.Bal) (c : r.ht + 1 < (node ll lr).ht) (h : Jn lr r j) : ll.ht ≤ j.ht + 2 ∧ j.ht ≤ ll.ht + 2 ∧ Jn (node ll lr) r (balR ll j) := by
  obtain ⟨hll, hlr, g1, g2⟩ := hl
  have eL : (node ll lr).ht = 1 + max ll.ht lr.ht := rfl
  obtain ⟨j1, j2, j3, j4⟩ := h
  obtain ⟨b1, b2, b3, b4⟩ := balR_ok hll j1 (by omega) (by omega)
  refine ⟨by omega, by omega, b1, ?_, ?_, ?_⟩
  · rw [balR_txt, j2]
    show ll.txt ++ (lr.txt ++ r.txt) = (ll.txt ++ lr.txt) ++ r.txt
    rw [List.append_assoc]
  · by_cases d : ll.ht ≤ j.ht + 1 ∧ j.ht ≤ ll.ht + 1
    · have := b4 d.1 d.2
      omega
    · omega
  · by_cases d : ll.ht ≤ j.ht + 1 ∧ j.ht ≤ ll.ht + 1
    · have := b4 d.1 d.2
      omega
    · omega
theorem Jn.right {l rl rr j : Rp} (hl : l.Bal) (hr : (node rl rr).Bal) (c : l.ht + 1 < (node rl rr).ht) (h : Jn l rl j) : j.ht ≤ rr.ht + 2 ∧ rr.ht ≤ j.ht + 2 ∧ Jn l (node rl rr) (balR j rr) := by
  obtain ⟨hrl, hrr, g1, g2⟩ := hr
  have eR : (node rl rr).ht = 1 + max rl.ht rr.ht := rfl
  obtain ⟨j1, j2, j3, j4⟩ := h
  obtain ⟨b1, b2, b3, b4⟩ := balR_ok j1 hrr (by omega) (by omega)
  refine ⟨by omega, by omega, b1, ?_, ?_, ?_⟩
  · rw [balR_txt, j2]
    show (l.txt ++ rl.txt) ++ rr.txt = l.txt ++ (rl.txt ++ rr.txt)
    rw [List.append_assoc]
  · by_cases d : j.ht ≤ rr.ht + 1 ∧ rr.ht ≤ j.ht + 1
    · have := b4 d.1 d.2
      omega
    · omega
  · by_cases d : j.ht ≤ rr.ht + 1 ∧ rr.ht ≤ j.ht + 1
    · have := b4 d.1 d.2
      omega
    · omega
theorem Jn.node {l r : Rp} (hl : l.Bal) (hr : r.Bal) (h1 : l.ht ≤ r.ht + 1) (h2 : r.ht ≤ l.ht + 1) : Jn l r (node l r) := by
  have e1 : (Rp.node l r).ht = 1 + max l.ht r.ht := rfl
  exact ⟨⟨hl, hr, by omega, by omega⟩, rfl, by omega, by omega⟩
/-- balanced, or the empty rope -/
def Rok (R : Rp) : Prop := R.Bal ∨ ∃ s : Str, R = leaf s ∧ s.length = 0
theorem Rok.bal {R : Rp} (h : Rok R) (hs : R.size ≠ 0) : R.Bal := by
  rcases h with h | ⟨s, rfl, h⟩
  · exact h
  · exact absurd h hs
theorem Rok.nil {R : Rp} (h : Rok R) (hs : R.size = 0) : R.txt = [] ∧ R.ht = 0 ∧ ∃ s : Str, R = leaf s ∧ s.length = 0 := by
  rcases h with h | ⟨s, rfl, h⟩
  · have := (bal_pos h).2; omega
  · refine ⟨List.length_eq_zero_iff.mp (by rw [txt_len]; exact h), ?_, s, rfl, h⟩
    show (if s.length < 1 then s.length else 1) = 0
    rw [if_pos (by omega)]
    exact h
theorem Rok.pos {R : Rp} (h : Rok R) (h1 : 1 ≤ R.ht) : R.Bal := by
  refine h.bal fun e => ?_
  have := (h.nil e).2.1
  omega
theorem Rok.low {R : Rp} (h : Rok R) (h1 : R.ht ≤ 1) : ∃ s, R = leaf s ∧ s.length ≤ 16 := by
  rcases h with h | ⟨s, rfl, h⟩
  · obtain ⟨s, rfl⟩ := bal_leaf h h1
    exact ⟨s, rfl, h.2⟩
  · exact ⟨s, rfl, by omega⟩
/-- i halvings make one piece of m -/
def Lg (i m : Nat) : Prop := m ≤ 2 ^ i ∧ 2 ^ i < 2 * m
theorem Lg.join {i j a b : Nat} (ha : Lg i a) (hb : Lg j b) (h1 : 1 ≤ a) (h : b = a ∨ b = a + 1) : i ≤ j + 1 ∧ j ≤ i + 1 ∧ Lg (1 + max i j) (a + b) := by
  obtain ⟨a1, a2⟩ := ha
  obtain ⟨b1, b2⟩ := hb
  have pw : ∀ x y, x ≤ y → 2 ^ x ≤ 2 ^ y := fun x y h => Nat.pow_le_pow_right (by decide) h
  have e : ∀ x, 2 ^ (x + 1) = 2 * 2 ^ x := fun x => by rw [Nat.pow_succ, Nat.mul_comm]
  have l1 : i ≤ j + 1 := by
    by_cases c : i ≤ j + 1
    · exact c
    · have := pw (j + 1 + 1) i (by omega)
      rw [e, e] at this
      omega
  have l2 : j ≤ i + 1 := by
    by_cases c : j ≤ i + 1
    · exact c
    · have := pw (i + 1 + 1) j (by omega)
      rw [e, e] at this
      omega
  refine ⟨l1, l2, ?_⟩
  by_cases c : i ≤ j
  · have p1 := pw i j c
    have ej : 1 + max i j = j + 1 := by omega
    unfold Lg
    rw [ej, e]
    refine ⟨by omega, ?_⟩
    rcases h with h | h
    · omega
    · cases j with
      | zero => rw [Nat.pow_zero] at b1; omega
      | succ k => rw [e] at b1 b2 ⊢; omega
  · have p1 := pw j i (by omega)
    have ej : 1 + max i j = i + 1 := by omega
    unfold Lg
    rw [ej, e]
    omega
/-- parts of a rope -/
def Rp.cnt : Rp → Nat
  | leaf _ => 1
  | node l r => 1 + l.cnt + r.cnt
theorem cnt_pos : ∀ R : Rp, 1 ≤ R.cnt
  | leaf _ => Nat.le_refl _
  | node l r => by show 1 ≤ 1 + l.cnt + r.cnt; omega
theorem cnt_le : ∀ {R : Rp}, R.Bal → R.cnt + 1 ≤ 2 * R.size
  | leaf s, h => by have := h.1; show 1 + 1 ≤ 2 * s.length; omega
  | node l r, h => by
    have h1 := cnt_le h.1
    have h2 := cnt_le h.2.1
    show 1 + l.cnt + r.cnt + 1 ≤ 2 * (l.size + r.size)
    omega
/-! ### heights are small -/
def fb : Nat → Nat
  | 0 => 1
  | 1 => 1
  | n + 2 => fb (n + 1) + fb n
theorem fb_pos : ∀ n, 0 < fb n ∧ 0 < fb (n + 1)
  | 0 => ⟨Nat.one_pos, Nat.one_pos⟩
  | n + 1 => by
    have := fb_pos n
    exact ⟨this.2, by show 0 < fb (n + 1) + fb n; omega⟩
theorem fb_mono : ∀ {m n : Nat}, n ≤ m → fb n ≤ fb m := by
  have step : ∀ n, fb n ≤ fb (n + 1) := fun n => by
    cases n with
    | zero => exact Nat.le_refl _
    | succ n => show fb (n + 1) ≤ fb (n + 1) + fb n; omega
  intro m n h
  induction h with
  | refl => exact Nat.le_refl _
  | step _ ih => exact Nat.le_trans ih (step _)
theorem bal_size : ∀ {R : Rp}, R.Bal → fb R.ht ≤ R.size
  | leaf s, h => by rw [leaf_ht h.1]; exact h.1
  | node l r, h => by
    have h1 := bal_size h.1
    have h2 := bal_size h.2.1
    have g1 := h.2.2.1
    have g2 := h.2.2.2
    have p1 := bal_pos h.1
    have p2 := bal_pos h.2.1
    show fb (1 + max l.ht r.ht) ≤ l.size + r.size
    by_cases c : l.ht ≤ r.ht
    · obtain ⟨k, hk⟩ : ∃ k, r.ht = k + 1 := ⟨r.ht - 1, by omega⟩
      have e : 1 + max l.ht r.ht = k + 2 := by omega
      have : fb k ≤ fb l.ht := fb_mono (by omega)
      rw [e]
      show fb (k + 1) + fb k ≤ _
      rw [← hk]
      omega
    · obtain ⟨k, hk⟩ : ∃ k, l.ht = k + 1 := ⟨l.ht - 1, by omega⟩
      have e : 1 + max l.ht r.ht = k + 2 := by omega
      have : fb k ≤ fb r.ht := fb_mono (by omega)
      rw [e]
      show fb (k + 1) + fb k ≤ _
      rw [← hk]
      omega
theorem fb_big {f : Nat → Nat} (h0 : f 0 = 1) (h1 : f 1 = 1) (e : ∀ n, f (n + 2) = f (n + 1) + f n) : 200000 < f 27 := by
  have e2 : f 2 = 2 := by rw [e 0, h1, h0]
  have e3 : f 3 = 3 := by rw [e 1, e2, h1]
  have e4 : f 4 = 5 := by rw [e 2, e3, e2]
  have e5 : f 5 = 8 := by rw [e 3, e4, e3]
  have e6 : f 6 = 13 := by rw [e 4, e5, e4]
  have e7 : f 7 = 21 := by rw [e 5, e6, e5]
  have e8 : f 8 = 34 := by rw [e 6, e7, e6]
  have e9 : f 9 = 55 := by rw [e 7, e8, e7]
  have e10 : f 10 = 89 := by rw [e 8, e9, e8]
  have e11 : f 11 = 144 := by rw [e 9, e10, e9]
  have e12 : f 12 = 233 := by rw [e 10, e11, e10]
  have e13 : f 13 = 377 := by rw [e 11, e12, e11]
  have e14 : f 14 = 610 := by rw [e 12, e13, e12]
  have e15 : f 15 = 987 := by rw [e 13, e14, e13]
  have e16 : f 16 = 1597 := by rw [e 14, e15, e14]
  have e17 : f 17 = 2584 := by rw [e 15, e16, e15]
  have e18 : f 18 = 4181 := by rw [e 16, e17, e16]
  have e19 : f 19 = 6765 := by rw [e 17, e18, e17]
  have e20 : f 20 = 10946 := by rw [e 18, e19, e18]
  have e21 : f 21 = 17711 := by rw [e 19, e20, e19]
  have e22 : f 22 = 28657 := by rw [e 20, e21, e20]
  have e23 : f 23 = 46368 := by rw [e 21, e22, e21]
  have e24 : f 24 = 75025 := by rw [e 22, e23, e22]
  have e25 : f 25 = 121393 := by rw [e 23, e24, e23]
  have e26 : f 26 = 196418 := by rw [e 24, e25, e24]
  have e27 : f 27 = 317811 := by rw [e 25, e26, e25]
  rw [e27]
  decide
theorem bal_ht {R : Rp} (h : R.Bal) (hs : R.size ≤ 200000) : R.ht ≤ 26 := by
  have h2 := bal_size h
  by_cases c : R.ht ≤ 26
  · exact c
  · have h1 : fb 27 ≤ fb R.ht := fb_mono (by omega)
    have h3 : 200000 < fb 27 := fb_big (f := fb) rfl rfl (fun _ => rfl)
    exact absurd (Nat.lt_of_lt_of_le h3 (Nat.le_trans h1 (Nat.le_trans h2 hs))) (Nat.lt_irrefl _)
theorem Rok.ht {R : Rp} (h : Rok R) (hs : R.size ≤ 200000) : R.ht ≤ 26 := by
  rcases h with h | ⟨s, rfl, h⟩
  · exact bal_ht h hs
  · show (if s.length < 1 then s.length else 1) ≤ 26
    split <;> omega
end Z
namespace Z
open PySem PySem.Spec L2
/-! ## a loop downwards, stores within a tuple's target -/
section
variable {g : TG} {tb : TS} {nx : L2.St → Hp → Prop} {rt : VK} {bk ct : L2.St → Hp → Prop} {σ : L2.St} {H : Hp} {ta tb' : TE} {tas : TA} {v : V} {R : L2.St → Hp → Prop}
theorem rForR3 (h : tas σ H fun as H1 => ∃ (i j c : Int) (n : Nat), as = [.int i, .int j, .int c] ∧ RgC i j c n ∧ loopJ (Itc i c n) g tb nx rt σ H1) : tFor (iRng3 tas) g tb ⟨nx, rt, bk, ct⟩ σ H := h
theorem rRgD {i j : Int} {R : Int → Int → Nat → Prop} (b : -(2 ^ 62) ≤ i ∧ i < 2 ^ 62 ∧ -(2 ^ 62) ≤ j ∧ j < 2 ^ 62) (h : R i (-1) (i - j).toNat) : ∃ (i' j' c : Int) (n : Nat), [V.int i, V.int j, V.int (-1)] = [.int i', .int j', .int c] ∧ RgC i' j' c n ∧ R i' c n :=
  ⟨i, j, -1, _, rfl, RgC.neg b.1 b.2.1 b.2.2.1 b.2.2.2, h⟩
theorem loopC_by {lo c : Int} {n : Nat} (Pv : Nat → L2.St → Hp → Prop) (h0 : Pv 0 σ H)
    (hs : ∀ (i : Nat) σ H, i < n → Pv i σ H → g (.int (lo + (i : Int) * c)) σ H fun σ2 H2 => tb ⟨Pv (i + 1), rt, nx, Pv (i + 1)⟩ σ2 H2) (hd : ∀ σ H, Pv n σ H → nx σ H) : loopJ (Itc lo c n) g tb nx rt σ H :=
  for_rangeC (D := ⟨nx, rt, fun _ _ => False, fun _ _ => False⟩) Pv h0 hs hd
theorem gS {r : TSet} (h : ta σ H fun o H2 => tb' σ H2 fun k H3 => r o k v H3 fun H4 => R σ H4) : gSub ta tb' r v σ H R := h
end
theorem Paired.set {α β : Type} {F : α → β → Prop} : ∀ {xs : List α} {ys : List β} {x : α} {y : β} (k : Nat), Paired F xs ys → F x y → Paired F (xs.set k x) (ys.set k y)
  | _, _, _, _, _, .nil, _ => .nil
  | _, _, _, _, 0, .cons _ t, r => .cons r t
  | _, _, _, _, k + 1, .cons h t, r => .cons h (Paired.set k t r)
/-- the item ahead of the rest is replaced -/
theorem take_set {α : Type} {xs ws : List α} {k : Nat} {x y : α} (h : xs[k]? = some x) : (xs.take (k + 1) ++ ws).set k y = xs.take k ++ y :: ws := by
  obtain ⟨h1, e⟩ := List.getElem?_eq_some_iff.mp h
  rw [take_snoc h, List.append_assoc, List.set_append_right _ _ (by rw [List.length_take]; omega)]
  have : k - (xs.take k).length = 0 := by rw [List.length_take]; omega
  rw [this]
  rfl
theorem ixN_pos {n : Nat} {i : Int} {k : Nat} (e : i = (k : Int)) (h : k < n) : ixN n i = some k := by
  subst e
  unfold ixN
  rw [if_pos (by omega), if_pos (by omega)]
  rfl
/-- a list, one of its own made before -/
theorem Same.put {H H1 H2 : Hp} {l : Addr} (s0 : Same H H1) (n : H l = none) (s : SL l H1 H2) : Same H H2 := SL.same s0 s n
end Z
namespace Z
open PySem PySem.Spec PyProof.Rows L2 ItX
/-! ## iter(t), t a tuple -/
/-- at it an iterator over the tuple at a, at its beginning -/
def TItO (a it : Addr) : HO := .ext fun h => h.IsTupleIter it a 0
theorem tit_ok {P : Program} {w : World} {H : Hp} {h : Heap} {a it : Addr} (e : h.IsTupleIter it a 0) : ObjOk P w H h it (TItO a it) := ⟨e, let ⟨o, ho, _⟩ := e; ⟨o, ho⟩, fun h1 h2 q k => let ⟨o, ho, r⟩ := q; ⟨o, k o ho, r⟩⟩
section
variable {X : Cx} {pins : List (Addr × Obj)} {σ : L2.St} {H : Hp} {s : Shared} {a it : Addr}
theorem tit_get (I : Inv X pins σ H s) (e : H it = some (TItO a it)) : s.heap.IsTupleIter it a 0 := (I.hok it _ e).1
theorem call_iter_tup {prog : Program} {w : World} {A : Around} {E : Value → Shared → Prop} {t : Addr} {items : Array Value} {Q : Value → Shared → Prop} (ht : s.heap.IsTuple t items)
    (h : Q (.ref s.heap.objs.size) { s with heap := s.heap.push { cls := .type "tuple_iterator", data := .fields #[.ref t, .int 0 0] } }) : wpAny (model prog w) A (call (.builtin "iter") [.ref t]) Q E s := by
  refine Calls.call_function_entry (by decide +kernel) (by decide +kernel) PySem.W.kdk_entry_iter (PySem.W.kdk_args_iter _) ?_
  unfold Builtin.«iter»
  refine wpAny_bind (m := someArgs "iter" 1 2 _) (wpAny_of_eq (a := [Value.ref t]) (by first | rfl | kernel_rfl!) ?_)
  show wpAny _ _ (pyIter (.ref t) >>= _) _ _ _
  refine wpAny_bind (wpAny_pyIter_tuple ht ?_)
  exact wpAny_pure ⟨_, rfl, h⟩
/-- the new iterator is younger than all that is tracked -/
def rIterT (K : PySem.W.Frag) : List V → Hp → VK → Prop := fun vs H Q => ∃ (a : Addr) (xs : List V), vs = [.ref a] ∧ SqT K H a xs ∧ ∀ it, H it = none → (∀ m o, H m = some o → m < it) → Q (.ref it) (upd H it (TItO a it))
theorem call_iterT : CallR X (.builtin "iter") (rIterT X.K) := by
  intro pins s σ H xs us Q I r h
  obtain ⟨a, zs, rfl, hq, q⟩ := h
  obtain ⟨u, rfl, ru⟩ := vals1 r
  cases ru
  obtain ⟨its, rv, pl, hz⟩ := I.tuple hq
  refine call_iter_tup (show s.heap.IsTuple a its.toArray from pl) ?_
  exact ⟨.ref s.heap.objs.size, _, I.laid (t' := s.toks) (fun b u e => Heap.get?_push_of_some _ e) (Nat.le_refl _) (tit_ok ⟨_, Heap.get?_push_size _ rfl, rfl, rfl⟩), rfl, q _ (I.hok.fresh (Nat.le_refl _)) fun m o e => (I.hok m o e).lt⟩
theorem call_iterTK {K : PySem.W.Frag} (hK : X.K = K := by rfl) : CallR X (.builtin "iter") (rIterT K) := by subst hK; exact call_iterT
end
/-! ## own instances walked: __iter__ hands out a tuple's iterator -/
/-- a class whose __iter__ keeps the promise sp, at level k -/
structure ItM (P : Program) (w : World) (K : PySem.W.Frag) (mg : Str → Option Value) (base : Heap) (k : Nat) (C : Addr) (sp : Sp) : Prop where
  ex : ∃ (f : Addr) (fd : FuncData) (ps : List Str), FnOk P w K mg base C8.CX0 k f fd ps sp ∧ Binds K fd ps [] ∧ PySem.W.findIn K (.ref C) "__iter__" = some (some (.ref f)) ∧ PySem.W.isFn K (.ref f) = true
  nolen : PySem.W.findIn K (.ref C) "__len__" = some none
  nohint : PySem.W.findIn K (.ref C) "__length_hint__" = some none
section
variable {X : Cx} {pins : List (Addr × Obj)} {σ : L2.St} {H : Hp} {s : Shared} {p C dx : Addr} {fs : List (Str × V)} {k j : Nat} {sp : Sp} {A1 : Around}
/-- the iterator comes -/
theorem own_iter (M : ItM X.prog X.w X.K X.mg X.base k C sp) (sb : Sub X k A1) {Q : Value → Shared → Prop} {R : Addr → Addr → Hp → Prop} (I : Inv X pins σ H s) (hp : H p = some (.ins C dx fs))
    (h : sp [.ref p] H (fun v H2 => ∃ it a, v = .ref it ∧ X.s_0.heap.objs.size ≤ it ∧ H2 it = some (TItO a it) ∧ R it a H2) C8.E0)
    (hq : ∀ it a H2 s2, Inv X pins σ H2 s2 → H2 it = some (TItO a it) → X.s_0.heap.objs.size ≤ it → R it a H2 → Q (.ref it) s2) :
    wpAny (model X.prog X.w) A1 (pyIter (.ref p)) Q X.xe s := by
  obtain ⟨mA, J, _⟩ := ins_get I.hok hp
  obtain ⟨od, J, _⟩ := J.look
  obtain ⟨m0, hF⟩ := I.fr
  obtain ⟨f, fd, ps, FN, b, at_, isf⟩ := M.ex
  refine PySem.W.owit_iter hF I.ok.mod.kin J at_ isf ?_
  have e0 : Env0 X.prog X.w X.K X.mg X.base A1 X.stack s H := by
    have e := I.env0
    exact ⟨by rw [sb.fr]; exact e.frames, e.mod, e.bs, e.bsz, e.funs, e.frf, e.hok, e.bare⟩
  have hl := FN.len _ _ _ _ h
  have r2 : Vals [V.ref p] [Value.ref p] := .cons rfl .nil
  refine wpAny_call (codeAny_mono (FN.run A1 X.stack s H ⟨[.ref p], []⟩ [.ref p] [.ref p] _ C8.E0 sb.room e0 (by
    have := b s [.ref p] I.kIn (by simpa using hl)
    simpa using this) r2 h) fun r s' hq' => ?_)
  cases r with
  | error e => exact False.elim hq'
  | ok fl =>
    cases fl with
    | next => exact False.elim hq'
    | brk => exact False.elim hq'
    | cont => exact False.elim hq'
    | ret u =>
      obtain ⟨v, H2, I2, rv, it, a, ev, young, hit, hR⟩ := I.after hq'
      subst ev
      cases rv
      have st := tit_get I2 hit
      unfold PySem.W.OwitIt
      exact wpAny_specialOf (name := Str.ofString "__next__") st.typeIs PySem.F.slot_tuple_iterator_next.lookup (hq it a H2 s' I2 hit young hR)
/-- for x in o -/
def iOwn (n : Nat) (K : PySem.W.Frag) (C : Addr) (sp : Sp) (tl : TE) : TI := fun σ H R => tl σ H fun x H1 => ∃ p dx fs, x = .ref p ∧ H1 p = some (.ins C dx fs) ∧
  sp [.ref p] H1 (fun v H2 => ∃ it a, v = .ref it ∧ n ≤ it ∧ H2 it = some (TItO a it) ∧ R (Itt K a) (dropH H2 it)) C8.E0
theorem pi_own {tg l : Expr} {tl : TE} {n : Nat} (M : ItM X.prog X.w X.K X.mg X.base k C sp) (hr : Room j X.A) (hk : k ≤ j) (hl : PE X l tl) (hn : X.s_0.heap.objs.size = n := by rfl) : PI X tg l (iOwn n X.K C sp tl) := by
  subst hn
  refine ⟨fun pins s σ H R I h => ?_⟩
  refine thn (hl.run pins s σ H _ I h) fun v s1 ⟨x, H1, I1, r1, q1⟩ => ?_
  obtain ⟨p, dx, fs, e, hp, q⟩ := q1
  subst e
  cases r1
  refine own_iter M (⟨hr.mono hk, rfl⟩ : Sub X k X.A) I1 hp q fun it a H2 s2 I2 hit young hR => ?_
  have hi' := hit
  unfold TItO at hi'
  refine ⟨it, [it], _, _, dropH H2 it, rfl, inv_drop I2 hi', turn_tuple a it, tit_get I2 hit, fun b hb => ?_, hR⟩
  have e : b = it := by simpa using hb
  rw [e]
  exact inv_fp I2 hit young
theorem pi_ownK {tg l : Expr} {tl : TE} {n : Nat} {K : PySem.W.Frag} (M : ItM X.prog X.w X.K X.mg X.base k C sp) (hr : Room j X.A) (hk : k ≤ j) (hl : PE X l tl) (hn : X.s_0.heap.objs.size = n := by rfl) (hK : X.K = K := by rfl) : PI X tg l (iOwn n K C sp tl) := by subst hK; exact pi_own M hr hk hl hn
/-! ### list(o) -/
/-- the list at q takes the items from the i-th on -/
theorem own_fill {xs : List V} {q it a : Addr} {H0 : Hp} {Rs : Result → Shared → Prop} (hh : A1.in1.handled = none) (ha : H0 a = some (.tup xs)) (hl : xs.length ≤ sizeLine) (hqa : q ≠ a) (hqi : q ≠ it) (hf : FpOk X pins H0 it)
    (hd : ∀ s, Inv X pins σ (upd H0 q (.lst xs)) s → Rs (.ok (.ret .none)) s) :
    ∀ (n i : Nat) (s : Shared), n + i = xs.length → Inv X pins σ (upd H0 q (.lst (xs.take i))) s → s.heap.IsTupleIter it a i → codeAny (model X.prog X.w) A1 (.builtin "list.extend.loop" ⟨[.ref q, .ref it, .none], []⟩) Rs s := by
  intro n
  induction n with
  | zero =>
    intro i s e I st
    have hta : upd H0 q (.lst (xs.take i)) a = some (.tup xs) := (upd_ne hqa.symm).trans ha
    obtain ⟨its, rv, pl, hz⟩ := I.tuple (SqT.of hta)
    have hlen := rv.length
    apply codeAny_builtin PySem.F.entry_extend_loop
    rw [Around.under_plainId PySem.F.plain_extend_loop _]
    show wpAny _ _ (pyNext (.ref it) >>= _) _ _ _
    apply wpAny_bind
    refine wpAny_pyNext_tuple_end hh st (show s.heap.IsTuple a its.toArray from pl) (by simp; omega) fun h' eb => ?_
    have hn : upd H0 q (.lst (xs.take i)) it = none := (upd_ne hqi.symm).trans hf.1
    have I2 : Inv X pins σ (upd H0 q (.lst (xs.take i))) { s with heap := h' } := I.turned (t' := s.toks) (fun b o hb e => eb b o hb e) hn hf.2.1 hf.2.2.2.1 hf.2.2.2.2.1 hf.2.2.2.2.2
    rw [show i = xs.length by omega, List.take_length] at I2
    exact wpAny_pure (hd _ I2)
  | succ n ih =>
    intro i s e I st
    have hta : upd H0 q (.lst (xs.take i)) a = some (.tup xs) := (upd_ne hqa.symm).trans ha
    obtain ⟨its, rv, pl, hz⟩ := I.tuple (SqT.of hta)
    have hx : xs[i]? = some (xs[i]'(by omega)) := List.getElem?_eq_getElem (by omega)
    obtain ⟨u, hu, ru⟩ := rv.get hx
    have hn : upd H0 q (.lst (xs.take i)) it = none := (upd_ne hqi.symm).trans hf.1
    apply codeAny_builtin PySem.F.entry_extend_loop
    rw [Around.under_plainId PySem.F.plain_extend_loop _]
    show wpAny _ _ (pyNext (.ref it) >>= _) _ _ _
    apply wpAny_bind
    refine wpAny_pyNext_tuple_item st (show s.heap.IsTuple a its.toArray from pl) (x := u) (by simpa using hu) fun h' st' sb => ?_
    have I2 : Inv X pins σ (upd H0 q (.lst (xs.take i))) { s with heap := h' } := I.turned (t' := s.toks) (fun b o hb e => (sb.2 b hb).trans e) hn hf.2.1 hf.2.2.2.1 hf.2.2.2.2.1 hf.2.2.2.2.2
    obtain ⟨z, ws, k, r2, hl2, e2⟩ := I2.lstM upd_same
    have hw := r2.length
    rw [List.length_take] at hw
    show wpAny _ _ (updateSeq q (·.push u) >>= _) _ _ _
    apply wpAny_bind
    refine wpAny_updateSeq e2 rfl ?_ (by rw [List.size_toArray]; omega) (by rw [Array.size_push, List.size_toArray]; omega)
    refine wpAny_pure ⟨plainId_quiet PySem.F.plain_extend_loop _, ih (i + 1) _ (by omega) ?_ ?_⟩
    · have I3 := I2.lset (its' := ws ++ [u]) (f := (·.push u)) (ys := xs.take i ++ [xs[i]'(by omega)]) (t' := s.toks) upd_same e2 (by simp) (r2.append (.cons ru .nil)) (by rw [List.length_append, List.length_take]; show _ + 1 ≤ _; omega)
      rw [upd_upd, ← take_snoc hx] at I3
      exact I3
    · obtain ⟨o, ho, hc, hd'⟩ := st'
      refine ⟨o, ?_, hc, hd'⟩
      exact (Heap.SameBut.update ..).2 it (fun z => hqi z.symm) |>.trans ho
def rListOwn (n : Nat) (C : Addr) (sp : Sp) : List V → Hp → VK → Prop := fun vs H Q => ∃ p dx fs, vs = [.ref p] ∧ H p = some (.ins C dx fs) ∧ ∀ q, H q = none → n ≤ q →
  sp [.ref p] (upd H q (.lst [])) (fun v H2 => ∃ it a, v = .ref it ∧ n ≤ it ∧ H2 it = some (TItO a it) ∧ ∃ xs dx' fs', H2 p = some (.ins C dx' fs') ∧ H2 a = some (.tup xs) ∧ H2 q = some (.lst []) ∧ Q (.ref q) (upd (dropH H2 it) q (.lst xs))) C8.E0
theorem call_listOwn {n : Nat} (M : ItM X.prog X.w X.K X.mg X.base k C sp) (hr : Room j X.A) (hk : k + 2 ≤ j) (hc : X.calm = true) (hn : X.s_0.heap.objs.size = n := by rfl) : CallR X (.type "list") (rListOwn n C sp) := by
  subst hn
  intro pins s σ H xs us Q I rv h
  obtain ⟨p, dx, fs, rfl, hp, hq⟩ := h
  obtain ⟨u, rfl, ru⟩ := rv.one
  cases ru
  have sb : Sub X k X.A.in1.in1 := Sub.in1 (Sub.in1 (⟨hr.mono hk, rfl⟩ : Sub X (k + 2) X.A))
  refine callType_codes (Q₁ := fun obj s1 => obj = .ref s.heap.objs.size ∧ s1 = { s with heap := s.heap.push { cls := .type "list", data := .seq #[] } }) PySem.F.called_list (PySem.F.typeCall_list_1 _) PySem.F.entry_list_init
    (code_list_new _ ⟨rfl, rfl⟩) ?_
  rintro obj s1 ⟨rfl, rfl⟩
  have hS : (s.heap.push { cls := .type "list", data := .seq #[] }).get? s.heap.objs.size = some { cls := .type "list", data := .seq #[] } := Heap.get?_push_size _ rfl
  refine ⟨⟨_, hS, rfl⟩, PySem.F.args_list_init_2 _ _, ?_⟩
  have fr : H s.heap.objs.size = none := I.hok.fresh (Nat.le_refl _)
  have I1 : Inv X pins σ (upd H s.heap.objs.size (.lst [])) { s with heap := s.heap.push { cls := .type "list", data := .seq #[] } } := I.lnew (its := []) (t' := s.toks) .nil (Nat.zero_le _)
  have hsp := hq _ fr I.sz
  generalize hqq : s.heap.objs.size = q at hS fr I1 hsp ⊢
  show wpAny _ _ (do let old ← Builtin.List.listItems (.ref q); Builtin.List.listUpdate (.ref q) (fun _ => #[]); letGo old.toList.reverse; Builtin.List.listExtendWith (.ref q) (.ref p) .none) _ _ _
  apply wpAny_bind
  unfold Builtin.List.listItems
  apply wpAny_bind
  refine wpAny_seqItems hS rfl (wpAny_pure ?_)
  show wpAny _ _ (updateSeq q (fun _ => #[]) >>= fun _ => letGo (#[] : Array Value).toList.reverse >>= fun _ => Builtin.List.listExtendWith (.ref q) (.ref p) .none) _ _ _
  apply wpAny_bind
  refine wpAny_updateSeq hS rfl ?_
  have I2 := I1.lset (f := fun _ => #[]) (its := []) (its' := []) (ys := []) (t' := s.toks) upd_same hS rfl .nil (Nat.zero_le _)
  rw [upd_upd] at I2
  apply wpAny_bind
  apply wpAny_letGo
  have hqp : q ≠ p := (ne_of_none hp fr).symm
  have hp2 : upd H q (.lst []) p = some (.ins C dx fs) := by rw [upd_ne hqp.symm]; exact hp
  obtain ⟨mA, J, _⟩ := ins_get I2.hok hp2
  obtain ⟨od, J, _⟩ := J.look
  unfold Builtin.List.listExtendWith
  apply wpAny_bind
  apply J.type.here
  have h1 : Builtin.List.listSameRef (.ref q) (.ref p) = false := by simp [Builtin.List.listSameRef, hqp]
  have h2 : (Value.ref C == Value.type "list") = false := rfl
  have h3 : (Value.ref C == Value.type "tuple") = false := rfl
  simp only [h1, h2, h3, Bool.or_false, Bool.false_eq_true, if_false]
  apply wpAny_bind
  refine wpAny_mono (own_iter M sb I2 hp2 hsp (Q := fun v s2 => ∃ it a H2, v = .ref it ∧ Inv X pins σ H2 s2 ∧ H2 it = some (TItO a it) ∧ X.s_0.heap.objs.size ≤ it ∧ ∃ xs dx' fs', H2 p = some (.ins C dx' fs') ∧ H2 a = some (.tup xs) ∧ H2 q = some (.lst []) ∧ Q (.ref q) (upd (dropH H2 it) q (.lst xs))) fun it a H2 s2 I3 hit young hR => ⟨it, a, H2, rfl, I3, hit, young, hR⟩) ?_ fun _ _ z => z
  rintro v s2 ⟨it, a, H2, rfl, I3, hit, young, xs, dx', fs', hp3, hxs, hq3, hQ⟩
  have hi' := hit
  unfold TItO at hi'
  have hqi : q ≠ it := fun z => by rw [z, hit] at hq3; cases hq3
  have hai : a ≠ it := fun z => by rw [z, hit] at hxs; cases hxs
  have hpi : p ≠ it := fun z => by rw [z, hit] at hp3; cases hp3
  have hqa : q ≠ a := fun z => by rw [z, hxs] at hq3; cases hq3
  have st := tit_get I3 hit
  have ff := inv_fp I3 hit young
  have I4 := inv_drop I3 hi'
  have hq4 : dropH H2 it q = some (.lst []) := (dropH_ne hqi).trans hq3
  have ha4 : dropH H2 it a = some (.tup xs) := (dropH_ne hai).trans hxs
  have hp4 : dropH H2 it p = some (.ins C dx' fs') := (dropH_ne hpi).trans hp3
  generalize dropH H2 it = H4 at ff I4 hq4 ha4 hp4 hQ
  obtain ⟨mA4, J4, _⟩ := ins_get I4.hok hp4
  obtain ⟨od4, J4, _⟩ := J4.look
  have hH : upd H4 q (.lst []) = H4 := by
    funext b
    by_cases hb : b = q
    · rw [hb, upd_same, hq4]
    · rw [upd_ne hb]
  obtain ⟨its0, rv0, pl0, hz0⟩ := I4.tuple (SqT.of ha4)
  have hl0 := rv0.length
  have fin : ∀ s3 : Shared, Inv X pins σ H4 s3 → s3.heap.IsTupleIter it a 0 → codeAny (model X.prog X.w) X.A.in1 (.builtin "list.extend.loop" ⟨[.ref q, .ref it, .none], []⟩) (wants (fun r s4 => r = .none ∧ EP X pins σ Q (.ref q) s4) X.xe) s3 := fun s3 I5 st5 => by
    refine own_fill (A1 := X.A.in1) (xs := xs) (H0 := H4) (by exact I5.ok.hd hc) ha4 hz0 hqa hqi ff (fun s4 I6 => ⟨rfl, .ref q, _, I6, rfl, hQ⟩) xs.length 0 s3 (by omega) ?_ st5
    rw [List.take_zero, hH]
    exact I5
  apply wpAny_bind
  refine wpAny_holding ?_
  unfold Builtin.List.listLengthHint
  refine wpAny_bind (wpAny_bind (J4.type.here ((PySem.W.looks_findIn I4.kIn M.nolen).here ?_)))
  refine PySem.W.KFB.if_not rfl (PySem.W.KFB.if_not rfl ?_)
  refine wpAny_bind (wpAny_bind (J4.type.here ((PySem.W.looks_findIn I4.kIn M.nohint).here (wpAny_pure ?_))))
  obtain ⟨z, its, kk, r3, hl3, e3⟩ := I4.lstM hq4
  cases r3
  refine wpAny_ite_split (fun _ => ?_) (fun _ => wpAny_pure ⟨plainId_quiet PySem.F.plain_extend_loop _, fin s2 I4 st⟩)
  apply wpAny_bind
  apply wpAny_rule
  apply wpAny_bind
  show wpAny _ _ (updateSeq q (·.push .none) >>= fun _ => updateSeq q (·.pop)) _ _ _
  apply wpAny_bind
  refine wpAny_updateSeq e3 rfl ?_
  have I5 := I4.lset (f := (·.push Value.none)) (its' := [Value.none]) (ys := [.non]) (t' := s2.toks) hq4 e3 (by simp) (.cons rfl .nil) (by show 1 ≤ _; rw [sizeLine_eq]; decide)
  obtain ⟨z4, its4, k4, r4, hl4, e4⟩ := I5.lstM upd_same
  obtain ⟨u4, rfl, ru4⟩ := r4.one
  refine wpAny_updateSeq e4 rfl ?_ (by show 1 ≤ sizeLine; rw [sizeLine_eq]; decide) (Nat.zero_le _)
  refine wpAny_pure ⟨plainId_quiet PySem.F.plain_extend_loop _, fin _ ?_ ?_⟩
  · have I6 := I5.lset (f := (·.pop)) (its := [u4]) (its' := []) (ys := []) (t' := s2.toks) upd_same e4 (by rfl) .nil (Nat.zero_le _)
    rw [upd_upd, hH] at I6
    exact I6
  · obtain ⟨o, ho, hcl, hd'⟩ := st
    refine ⟨o, ?_, hcl, hd'⟩
    have g1 := (Heap.SameBut.update (h := s2.heap) (a := q) (f := Obj.mapSeq (·.push Value.none))).2 it (fun z => hqi z.symm)
    have g2 := (Heap.SameBut.update (h := s2.heap.update q (Obj.mapSeq (·.push Value.none))) (a := q) (f := Obj.mapSeq (·.pop))).2 it (fun z => hqi z.symm)
    exact g2.trans (g1.trans ho)
end
end Z
namespace Z
open PySem PySem.Spec PyProof.Rows L2 ItX
/-! ## readings of own instances -/
/-- all but lists stay -/
def KpS (H H' : Hp) : Prop := ∀ a o, H a = some o → (∀ xs, o ≠ .lst xs) → H' a = some o
theorem KpS.same {H H' : Hp} (s : Same H H') : KpS H H' := fun a o e _ => s a o e
theorem KpS.sl {l : Addr} {H H' : Hp} (s : SL l H H') : KpS H H' := fun a o e n => by
  obtain ⟨xs, e1⟩ := s.was
  refine s.keep a o (fun z => ?_) e
  rw [z, e1] at e
  exact n xs (Option.some.inj e).symm
theorem KpS.trans {H H1 H2 : Hp} (a : KpS H H1) (b : KpS H1 H2) : KpS H H2 := fun x o e n => b x o (a x o e n) n
theorem KpS.tp {H H' : Hp} (s : KpS H H') : TpS H H' := fun p xs e => s p _ e fun _ z => nomatch z
theorem KpS.ins {H H' : Hp} {p C dx : Addr} {fs : List (Str × V)} (s : KpS H H') (e : H p = some (.ins C dx fs)) : H' p = some (.ins C dx fs) := s p _ e fun _ z => nomatch z
/-- what is asked of the written part for an own class -/
structure ClsF (K : PySem.W.Frag) (mg : Str → Option Value) (C : Addr) (x : Str) : Prop where
  cl : Cls K C
  mgC : mg x = some (.ref C)
  ha : PySem.W.findIn K (.ref C) "__class__" = some (some (.builtin "object.__class__"))
  hn : PySem.W.specialIn K (.builtin "object.__class__") "__get__" = some (some (.builtin "getset_descriptor.__get__"))
  htk : PySem.W.takesIn K (.builtin "object.__class__") = some true
  hm : PySem.W.mroIn K C (.type "object") = some true
section
variable {K : PySem.W.Frag} {mg : Str → Option Value} {H : Hp} {Q : VK} {p C dx : Addr} {fs : List (Str × V)} {f x : Str} {v : V} {ta te : TE} {tas : TA} {σ : L2.St}
theorem rFld (h : ta σ H fun x H1 => ∃ a C dx fs v, x = .ref a ∧ H1 a = some (.ins C dx fs) ∧ Cls K C ∧ NoAttr K C f ∧ fs.lookup f = some v ∧ Q v H1) : tFld K ta f σ H Q := h
theorem fld_end {R : V → Prop} (hp : H p = some (.ins C dx fs)) (U : ClsF K mg C x) (n : NoAttr K C f) (l : fs.lookup f = some v) (h : R v) :
    ∃ a C dx fs v, V.ref p = .ref a ∧ H a = some (.ins C dx fs) ∧ Cls K C ∧ NoAttr K C f ∧ fs.lookup f = some v ∧ R v := ⟨p, C, dx, fs, v, rfl, hp, U.cl, n, l, h⟩
theorem rSFld {tv : TE} {nx : L2.St → Hp → Prop} {rt : VK} {bk ct : L2.St → Hp → Prop} (h : tv σ H fun y H1 => ta σ H1 fun x H2 => ∃ a C dx fs, x = .ref a ∧ H2 a = some (.ins C dx fs) ∧ Cls K C ∧ NoAttr K C f ∧ fs.length < 1000 ∧ nx σ (upd H2 a (.ins C dx (putF f y fs)))) :
    sFld K ta tv f ⟨nx, rt, bk, ct⟩ σ H := h
theorem rMake {sp : Sp} {E : XK} (h : tas σ H fun vs H1 => ∀ x dx, H1 x = none → H1 dx = none → dx ≠ x → sp (.ref x :: (vs ++ [])) (upd (upd H1 dx (.own x)) x (.ins C dx [])) (fun v H2 => v = .non ∧ Q (.ref x) H2) E) : tMake C sp [] E tas σ H Q := h
theorem rMeth {sp : Sp} {E : XK} {m : Str} (h : ta σ H fun x H1 => ∃ a dx fs, x = .ref a ∧ H1 a = some (.ins C dx fs) ∧ fs.lookup m = none ∧ tas σ H1 fun vs H2 => sp (x :: (vs ++ [])) H2 Q E) : tMeth C m sp [] E ta tas σ H Q := h
theorem meth_end {m : Str} {R : Prop} (hp : H p = some (.ins C dx fs)) (l : fs.lookup m = none) (h : R) : ∃ a dx fs, V.ref p = .ref a ∧ H a = some (.ins C dx fs) ∧ fs.lookup m = none ∧ R := ⟨p, dx, fs, rfl, hp, l, h⟩
theorem nil_app {sp : Sp} {vs : List V} {E : XK} (h : sp vs H Q E) : sp (vs ++ []) H Q E := by rw [List.append_nil]; exact h
theorem isi_own {y : Str} {c : Addr} {b : Bool} (hp : H p = some (.ins C dx fs)) (U : ClsF K mg C y) (e : PySem.W.kitOne K (.ref C) (.ref c) = some b) (h : Q (.bl b) H) : rIsiU K [.ref p, .ref c] H Q :=
  .inl ⟨.ref p, .ref c, _, _, b, rfl, .own c, .base (.ins hp U.cl U.ha U.hn U.htk U.hm), e, h⟩
theorem kit_self : PySem.W.kitOne K (.ref C) (.ref C) = some true := by
  show (if (Value.ref C == Value.ref C) = true then some true else _) = some true
  rw [if_pos (beq_iff_eq.mpr rfl)]
/-- a new instance, written by its __init__ -/
theorem same_ins {x dx : Addr} {o1 o2 o3 : HO} (hx : H x = none) (hd : H dx = none) (hdx : dx ≠ x) : Same H (upd (upd (upd H dx o1) x o2) x o3) := fun b o e => by
  rw [upd_ne (ne_of_none e hx), upd_ne (ne_of_none e hx), upd_ne (ne_of_none e hd)]
  exact e
end
theorem pe_fldK {X : Cx} {e : Expr} {ta : TE} {f : Str} {pos : Pos} {K : PySem.W.Frag} (he : PE X e ta) (hb : attributeBase e f X.env (eval e X.env) = eval e X.env) (hK : X.K = K := by rfl) : PE X (.Attribute e f pos) (tFld K ta f) := by subst hK; exact pe_fld he hb
theorem ps_fldK {X : Cx} {o value : Expr} {ta tv : TE} {f : Str} {pos pos' : Pos} {K : PySem.W.Frag} (ha : PE X o ta) (hv : PE X value tv) (hs : swapsWith value (some (.Attribute o f pos')) pos.line X.env = pure false) (hK : X.K = K := by rfl) : PS X (.Assign [.Attribute o f pos'] value pos) (sFld K ta tv f) := by subst hK; exact ps_fld ha hv hs
/-! ### an object made, what is asked in a def's own words -/
def tU (t : TA) : TA := fun σ H QA => ∃ QB : List V → Hp → Prop, (∀ vs H1, QB vs H1 → QA vs H1) ∧ t σ H QB
theorem PA.up {X : Cx} {es : List Expr} {t : TA} (ha : PA X es t) : PA X es (tU t) := ⟨fun pos pins s σ H Q I ⟨QB, hq, h⟩ => thn (ha.run pos pins s σ H QB I h) fun us s1 ⟨vs, H1, I1, r, q⟩ => ⟨vs, H1, I1, r, hq _ _ q⟩⟩
theorem PE.imp {X : Cx} {e : Expr} {T T' : TE} (h : PE X e T) (k : ∀ σ H Q, T' σ H Q → T σ H Q) : PE X e T' := ⟨fun pins s σ H Q I q => h.run pins s σ H Q I (k σ H Q q)⟩
def tMkW (W : List V → Hp → VK → Prop) (t : TA) : TE := fun σ H Q => t σ H fun vs H1 => W vs H1 Q
theorem rMkW {W : List V → Hp → VK → Prop} {t : TA} {σ : L2.St} {H : Hp} {Q : VK} (h : t σ H fun vs H1 => W vs H1 Q) : tMkW W t σ H Q := h
theorem pe_mkI {X : Cx} {k j : Nat} {x : Str} {C : Addr} {sp : Sp} {W : List V → Hp → VK → Prop} {p pos : Pos} {e : Expr} {es : List Expr} {t : TA} (c : C8.Mak X.prog X.w X.K X.mg X.base k x C sp []) (hr : Room j X.A) (hk : k + 1 ≤ j) (hg : Gl X x) (ha : PA X (e :: es) t)
    (hw : ∀ vs H1 Q, W vs H1 Q → ∀ x dx, H1 x = none → H1 dx = none → dx ≠ x → sp (.ref x :: (vs ++ [])) (upd (upd H1 dx (.own x)) x (.ins C dx [])) (fun v H2 => v = .non ∧ Q (.ref x) H2) C8.E0)
    (hdb : (x == ("__debug__" : Str)) = false := by decide) (he : starEach (e :: es) X.env = (false, eval e X.env) :: starEach es X.env := by rfl) (hpl : (backTo pos (starEach es X.env)).any (·.1) = false := by rfl) :
    PE X (.Call (.Name x p) (e :: es) [] pos) (tMkW W t) :=
  PE.imp (C8.pe_mk c hr hk hg (PA.up ha) hdb he hpl) fun σ H Q h => ⟨_, fun vs H1 q => hw vs H1 Q q, h⟩
/-- a new instance -/
def newI (C : Addr) (fs : List (Str × V)) (H : Hp) (Q : VK) : Prop := ∀ (p dx : Addr) (H' : Hp), Frs H p → Same H H' → H' p = some (.ins C dx fs) → Q (.ref p) H'
theorem newI_gen {C : Addr} {fs : List (Str × V)} {H : Hp} {Q : VK} (h : ∀ (p dx : Addr) (H' : Hp), Frs H p → Same H H' → H' p = some (.ins C dx fs) → Q (.ref p) H') : newI C fs H Q := h
/-! ## tuples walked -/
section
variable {g : TG} {tb : TS} {nx : L2.St → Hp → Prop} {rt : VK} {bk ct : L2.St → Hp → Prop} {σ : L2.St} {H : Hp} {te tl : TE} {tt : TT} {K : PySem.W.Frag} {Q : VK} {n i : Nat} {vs : List Nat} {C p a : Addr} {sp : Sp} {dx : Addr} {fs : List (Str × V)}
theorem rForT (h : tl σ H fun x H1 => ∃ a, x = .ref a ∧ (∃ xs, SqT K H1 a xs) ∧ loopJ (Itt K a) g tb nx rt σ H1) : tFor (iTup K tl) g tb ⟨nx, rt, bk, ct⟩ σ H := h
theorem rRt {xs : List V} {R : Addr → Prop} (h1 : H p = some (.tup xs)) (h : R p) : ∃ a, V.ref p = V.ref a ∧ (∃ xs, SqT K H a xs) ∧ R a := ⟨p, rfl, ⟨xs, SqT.of h1⟩, h⟩
theorem rLcT (h : tl σ H fun x H1 => ∃ a, x = .ref a ∧ (∃ xs, SqT K H1 a xs) ∧ compJ (Itt K a) g tt te vs σ H1 Q) : tLc (iTup K tl) g tt te vs σ H Q := h
theorem loopT_by {xs : List V} (Pv : Nat → L2.St → Hp → Prop) (h0 : Pv 0 σ H) (hl : ∀ i σ H, i ≤ xs.length → Pv i σ H → H a = some (.tup xs))
    (hs : ∀ i x σ H, xs[i]? = some x → Pv i σ H → g x σ H fun σ2 H2 => tb ⟨Pv (i + 1), rt, nx, Pv (i + 1)⟩ σ2 H2) (hd : ∀ σ H, Pv xs.length σ H → nx σ H) : loopJ (Itt K a) g tb nx rt σ H :=
  for_tup (K := K) (D := ⟨nx, rt, fun _ _ => False, fun _ _ => False⟩) Pv h0 (fun i σ H hi p => SqT.of (hl i σ H hi p)) hs hd
theorem compT_pure {xs : List V} (ha : H a = some (.tup xs)) (Pa : List V → Hp → Prop) (h0 : ∀ H2, Same H H2 → Pa [] H2)
    (hs : ∀ acc x H2 D, pIn H D xs.length acc H2 → xs[acc.length]? = some x → Pa acc H2 → te ((σ.set i none).set i (some x)) H2 (fun y H3 => pD H D Pa acc.length y H3))
    (hd : ∀ acc H2 D, acc.length = xs.length → Pa acc H2 → Same H H2 → H2 D = some (.lst acc) → Frs H D → Q (.ref D) H2) : compJ (Itt K a) (gName i) tYes te [i] σ H Q := by
  intro D hD
  refine lc_tup (K := K) (a := a) (xs := xs) (Qd := fun H' => Q (.ref D) H') (fun k H' => ∃ acc, acc.length = k ∧ Pa acc H' ∧ Same H H' ∧ H' D = some (.lst acc)) ⟨[], rfl, h0 _ (Same.upd_new (Same.refl H) hD), Same.upd_new (Same.refl H) hD, upd_same⟩ (fun i H' _ ⟨_, _, _, s, _⟩ => SqT.of (s _ _ ha)) ?_ ?_
  · rintro k x H' hx ⟨acc, rfl, pa, s, hDl⟩
    exact ⟨wipe1 σ i _, (hs acc x H' D ⟨hDl, hD, s, (List.getElem?_eq_some_iff.mp hx).1⟩ hx pa)⟩
  · rintro H' ⟨acc, e, pa, s, hDl⟩
    exact hd acc H' D e pa s hDl hD
/-- an own instance is walked: its iterator comes, and is forgotten -/
def ownW (n : Nat) (C : Addr) (sp : Sp) (x : V) (H1 : Hp) (R : Addr → Hp → Prop) : Prop := ∃ p dx fs, x = .ref p ∧ H1 p = some (.ins C dx fs) ∧ sp [.ref p] H1 (fun v H2 => ∃ it a, v = .ref it ∧ n ≤ it ∧ H2 it = some (TItO a it) ∧ R a (dropH H2 it)) C8.E0
theorem rLcO (h : tl σ H fun x H1 => ownW n C sp x H1 fun a H' => compJ (Itt K a) g tt te vs σ H' Q) : tLc (iOwn n K C sp tl) g tt te vs σ H Q := h
theorem rForO (h : tl σ H fun x H1 => ownW n C sp x H1 fun a H' => loopJ (Itt K a) g tb nx rt σ H') : tFor (iOwn n K C sp tl) g tb ⟨nx, rt, bk, ct⟩ σ H := h
end
/-! ## new objects that are known to be young -/
section
variable {X : Cx} {pins : List (Addr × Obj)} {σ : L2.St} {H : Hp} {s : Shared} {n : Nat} {Q : VK} {p : Addr} {xs : List V} {K : PySem.W.Frag} {C : Addr} {sp : Sp}
def newY (n : Nat) (o : HO) (H : Hp) (Q : VK) : Prop := ∀ p, H p = none → n ≤ p → Q (.ref p) (upd H p o)
theorem newY_gen {o : HO} (h : ∀ (p : Addr) (H' : Hp), Frs H p → Same H H' → H' p = some o → n ≤ p → Q (.ref p) H') : newY n o H Q := fun p hp hy =>
  h p _ hp (fun b u e => by rw [upd_ne (ne_of_none e hp)]; exact e) upd_same hy
def tLstY (n : Nat) (t : TA) : TE := fun σ H Q => t σ H fun xs H1 => xs.length ≤ sizeLine ∧ newY n (.lst xs) H1 Q
theorem pe_lstY {es : List Expr} {pos : Pos} {t : TA} (h : PA X es t) (hn : X.s_0.heap.objs.size = n := by rfl) : PE X (.List es pos) (tLstY n t) := by
  subst hn
  refine ⟨fun pins s σ H Q I hq => wpAny_List_spliced (thn (h.run pos pins s σ H _ I hq) ?_)⟩
  rintro us s1 ⟨xs, H1, I1, r, z, q⟩
  refine ⟨by rw [← r.length]; exact z, .ref s1.heap.objs.size, _, I1.laid (o := .lst xs) (t' := s1.toks) (fun b u e => Heap.get?_push_of_some _ e) (Nat.le_refl _) ⟨z, us, 0, r, Heap.get?_push_size _ rfl⟩, rfl, q _ (I1.hok.fresh (Nat.le_refl _)) I1.sz⟩
theorem rLstY {t : TA} (h : t σ H fun xs H1 => xs.length ≤ sizeLine ∧ newY n (.lst xs) H1 Q) : tLstY n t σ H Q := h
/-- list(..) of a list, a tuple, an own instance -/
def rListY (n : Nat) (K : PySem.W.Frag) (C : Addr) (sp : Sp) : List V → Hp → VK → Prop := fun vs H Q => (∃ p ys, vs = [.ref p] ∧ (SqL K H p ys ∨ SqT K H p ys) ∧ newY n (.lst ys) H Q) ∨ rListOwn n C sp vs H Q
theorem call_listN (hn : X.s_0.heap.objs.size = n := by rfl) : CallR X (.type "list") (fun vs H Q => ∃ p ys, vs = [.ref p] ∧ (SqL X.K H p ys ∨ SqT X.K H p ys) ∧ newY n (.lst ys) H Q) := by
  subst hn
  intro pins s σ H xs us Q I r h
  obtain ⟨p, ys, rfl, hq, q⟩ := h
  obtain ⟨u, rfl, rx⟩ := vals1 r
  cases rx
  have go : ∀ (T : String) (o : Obj) (its : List Value) (c : Nat), (T = "list" ∨ T = "tuple") → s.heap.get? p = some o → o.cls = .type T → o.data = .seq its.toArray c → Vals ys its → ys.length ≤ sizeLine → wpAny (model X.prog X.w) X.A (call (.type "list") [.ref p]) (EP X pins σ Q) X.xe s := fun T o its c hT ho hc hd r' hz => by
    have hlen := r'.length
    refine call_list_seq p hT ho hc hd (fun h' c' kp e => ?_) (by simp only [List.size_toArray]; omega)
    exact ⟨.ref s.heap.objs.size, _, I.laid (o := .lst ys) (t' := s.toks) kp (Nat.le_refl _) ⟨hz, its, c', r', e⟩, rfl, q _ (I.hok.fresh (Nat.le_refl _)) I.sz⟩
  rcases hq with hq | hq
  · obtain ⟨its, r', pl, hz⟩ := I.list hq
    obtain ⟨o, ho, hc, c, hd⟩ := pl.isList
    exact go "list" o its c (.inl rfl) ho hc hd r' hz
  · obtain ⟨its, r', ⟨o, ho, hc, c, hd⟩, hz⟩ := I.tuple hq
    exact go "tuple" o its c (.inr rfl) ho hc hd r' hz
theorem call_listY {k j : Nat} (M : ItM X.prog X.w X.K X.mg X.base k C sp) (hr : Room j X.A) (hk : k + 2 ≤ j) (hc : X.calm = true) (hn : X.s_0.heap.objs.size = n := by rfl) (hK : X.K = K := by rfl) : CallR X (.type "list") (rListY n K C sp) := by
  subst hK
  exact CallR.or (call_listN hn) (call_listOwn M hr hk hc hn)
theorem listY_lst (h1 : H p = some (.lst xs)) (h : newY n (.lst xs) H Q) : rListY n K C sp [.ref p] H Q := .inl ⟨p, xs, rfl, .inl (SqL.of h1), h⟩
theorem listY_tup (h1 : H p = some (.tup xs)) (h : newY n (.lst xs) H Q) : rListY n K C sp [.ref p] H Q := .inl ⟨p, xs, rfl, .inr (SqT.of h1), h⟩
theorem iter_tup {R : Addr → Hp → Prop} (h1 : H p = some (.tup xs)) (h : ∀ it, H it = none → (∀ m o, H m = some o → m < it) → Q (.ref it) (upd H it (TItO p it))) : rIterT K [.ref p] H Q := ⟨p, xs, rfl, SqT.of h1, h⟩
end
end Z
namespace Z
open PySem PySem.Spec PyProof.Rows L2 ItX
/-! ## x in o, o an own instance -/
section
variable {X : Cx} {k j n : Nat} {C : Addr} {m key : Str} {sp : Sp} {K : PySem.W.Frag}
def rInOwn (C : Addr) (sp : Sp) : R2 := fun x y H Q => ∃ p dx fs, y = .ref p ∧ H p = some (.ins C dx fs) ∧ sp [.ref p, x] H (fun v H2 => ∃ b, v = .bl b ∧ Q (.bl b) H2) C8.E0
theorem op_inOwn (c : C8.Met X.prog X.w X.K X.mg X.base k C "__contains__" sp []) (hr : Room j X.A) (hk : k ≤ j) : OpR X (compareOp .In) (rInOwn C sp) := by
  intro pins s σ H x y v u Q I rx ry h
  obtain ⟨p, dx, fs, rfl, hp, hsp⟩ := h
  cases ry
  obtain ⟨f, fd, ps, ds, hc, hm, FN, b, d⟩ := c.ex
  cases d
  obtain ⟨mA, J, _⟩ := ins_get I.hok hp
  obtain ⟨od, J, _⟩ := J.look
  obtain ⟨m0, hF⟩ := I.fr
  refine PySem.W.in_K hF I.ok.mod.kin J hm.at_ hm.fn ?_
  have hl := FN.len _ _ _ _ hsp
  have r2 : Vals [V.ref p, x] [Value.ref p, v] := .cons rfl (.cons rx .nil)
  refine wpAny_call (codeAny_mono (FN.run X.A X.stack s H ⟨[.ref p, v], []⟩ [.ref p, v] [.ref p, x] _ C8.E0 (hr.mono hk) I.env0 (by
    have := b s [.ref p, v] I.kIn (by simpa using hl)
    simpa using this) r2 hsp) fun r s' hq' => ?_)
  cases r with
  | error e => exact False.elim hq'
  | ok fl =>
    cases fl with
    | next => exact False.elim hq'
    | brk => exact False.elim hq'
    | cont => exact False.elim hq'
    | ret u =>
      obtain ⟨z, H2, I2, rv, b, ez, hQ⟩ := I.after hq'
      subst ez
      cases rv
      exact wpAny_truthy_bool ⟨.bl b, H2, I2, rfl, hQ⟩
/-! ## o.m(e, .., key = e') -/
/-- a method that takes n things by place and one by its name -/
structure MetK (P : Program) (w : World) (K : PySem.W.Frag) (mg : Str → Option Value) (base : Heap) (k n : Nat) (C : Addr) (m key : Str) (sp : Sp) : Prop where
  ex : ∃ (f : Addr) (fd : FuncData) (ps : List Str), Cls K C ∧ Meth K C m f ∧ FnOk P w K mg base C8.CX0 k f fd ps sp ∧ ∀ (s : Shared) (us : List Value) (w : Value), us.length = n → BindsTo s fd ⟨us, [(key, w)]⟩ (ps.zip (us ++ [w]))
def tMethK (C : Addr) (m : Str) (n : Nat) (sp : Sp) (ta : TE) (t : TA) (tk : TE) : TE := fun σ H Q => ta σ H fun x H1 => ∃ a dx fs, x = .ref a ∧ H1 a = some (.ins C dx fs) ∧ fs.lookup m = none ∧
  t σ H1 fun vs H2 => tk σ H2 fun z H3 => ([z] : List V).length = 1 ∧ vs.length + 1 = n ∧ sp (x :: (vs ++ [z])) H3 Q C8.E0
theorem pe_mtK {pl : Sem Bool} {o e e' : Expr} {es : List Expr} {apos pos kpos : Pos} {ta tk : TE} {t : TA} (c : MetK X.prog X.w X.K X.mg X.base k n C m key sp) (hr : Room j X.A) (hk : k ≤ j) (he : PE X o ta) (ha : PA X (e :: es) t) (hkw : PE X e' tk)
    (hall : (backToKw pos (keywordEach [⟨some key, e', kpos⟩] X.env)).all (·.1.isSome) = true := by rfl) (hks : (backToKw pos (keywordEach [⟨some key, e', kpos⟩] X.env)).filterMap (·.1) = [key] := by rfl)
    (hst : starEach (e :: es) X.env = (false, eval e X.env) :: starEach es X.env := by rfl) (hpl : ((backTo pos (starEach (e :: es) X.env)).any (·.1) || (backToKw pos (keywordEach [⟨some key, e', kpos⟩] X.env)).any (·.1.isNone)) = false := by rfl)
    (ht : eval (.Call (.Attribute o m apos) (e :: es) [⟨some key, e', kpos⟩] pos) X.env = (do
      let ov ← eval o X.env
      standAt apos.atName
      let (f, first) ← holding [ov] (getMethod ov m pl)
      callWith pos f first (backTo pos (starEach (e :: es) X.env)) (backToKw pos (keywordEach [⟨some key, e', kpos⟩] X.env))) := by rfl) :
    PE X (.Call (.Attribute o m apos) (e :: es) [⟨some key, e', kpos⟩] pos) (tMethK C m n sp ta t tk) := by
  obtain ⟨f, fd, ps, hc, hm, FN, hb⟩ := c.ex
  refine ⟨fun pins s σ H Q I h => ?_⟩
  refine PySem.W.methodCall_KW (pl := pl) (thn (he.run pins s σ H _ I h) ?_) ht
  rintro u s1 ⟨x, H1, I1, rx, a, dx, fs, rfl, ea, l, q⟩
  obtain rfl : u = Value.ref a := rx
  refine getmeth_ok I1 ea hc hm l ?_
  refine PySem.W.callWith_KW (first := [.ref a]) (h₀ := X.base) I.ok.mod.kin hm.kp hall (thn (ha.run pos pins s1 σ H1 _ I1 q) ?_) hpl hst
  rintro us s2 ⟨vs, H2, I2, r, q2⟩
  have hkw2 : PK X [⟨some key, e', kpos⟩] (tCons tk tNil) := pk_cons hkw pk_nil
  refine thn (hkw2.run pos pins s2 σ H2 (fun zs H3 => zs.length = 1 ∧ vs.length + 1 = n ∧ sp (V.ref a :: (vs ++ zs)) H3 Q C8.E0) I2 q2) ?_
  rintro ws s3 ⟨zs, H3, I3, rz, l1, l2, hsp⟩
  refine ⟨I3.kIn, ?_⟩
  rw [hks]
  obtain ⟨z, rfl⟩ := List.length_eq_one_iff.mp l1
  obtain ⟨w', rfl, rw1⟩ := rz.one
  have hl2 := r.length
  have r3 : Vals (V.ref a :: (vs ++ [z])) (Value.ref a :: (us ++ [w'])) := .cons rfl (r.append rz)
  have hbb := hb s3 (Value.ref a :: us) w' (by rw [List.length_cons]; omega)
  have run := FN.run X.A X.stack s3 H3 ⟨Value.ref a :: us, [(key, w')]⟩ (Value.ref a :: (us ++ [w'])) (V.ref a :: (vs ++ [z])) Q C8.E0 (hr.mono hk) I3.env0 hbb r3 hsp
  show wpAny (model X.prog X.w) X.A (call (.ref f) (Value.ref a :: us) [(key, w')]) _ _ s3
  refine wpAny_call (codeAny_mono run fun rr s' hq' => ?_)
  cases rr with
  | error e => exact False.elim hq'
  | ok fl =>
    cases fl with
    | next => exact False.elim hq'
    | brk => exact False.elim hq'
    | cont => exact False.elim hq'
    | ret u => exact I3.after hq'
end
section
variable {C p dx : Addr} {fs : List (Str × V)} {H : Hp} {Q : VK} {sp : Sp} {x y : V} {m : Str} {n : Nat} {ta tk : TE} {t : TA} {σ : L2.St} {K : PySem.W.Frag}
theorem rMethK (h : ta σ H fun x H1 => ∃ a dx fs, x = .ref a ∧ H1 a = some (.ins C dx fs) ∧ fs.lookup m = none ∧ t σ H1 fun vs H2 => tk σ H2 fun z H3 => ([z] : List V).length = 1 ∧ vs.length + 1 = n ∧ sp (x :: (vs ++ [z])) H3 Q C8.E0) : tMethK C m n sp ta t tk σ H Q := h
theorem in_own (hp : H p = some (.ins C dx fs)) (h : sp [.ref p, x] H (fun v H2 => ∃ b, v = .bl b ∧ Q (.bl b) H2) C8.E0) : rInOwn C sp x (.ref p) H Q := ⟨p, dx, fs, rfl, hp, h⟩
end
/-! ## a while whose test compares two names -/
theorem mono_lt {i j : Nat} : ∀ (σ : L2.St) (H : Hp) (Q Q' : Bool → Hp → Prop), (∀ b H1, Q b H1 → Q' b H1) → tTest (tOp rLtU (tVar i) (tVar j)) σ H Q → tTest (tOp rLtU (tVar i) (tVar j)) σ H Q' := by
  rintro σ H Q Q' h ⟨v, hv, w, hw, q⟩
  refine ⟨v, hv, w, hw, ?_⟩
  rcases q with ⟨a, b, e1, e2, k, ek, q⟩ | ⟨a, b, e1, e2, k, ek, q⟩
  · exact .inl ⟨a, b, e1, e2, k, ek, h _ _ q⟩
  · exact .inr ⟨a, b, e1, e2, k, ek, h _ _ q⟩
theorem whileLt {i j : Nat} {tb : TS} {nx : L2.St → Hp → Prop} {rt : VK} {bk ct : L2.St → Hp → Prop} {σ : L2.St} {H : Hp} (Pv : L2.St → Hp → Prop) (μ : L2.St → Hp → Nat) (h0 : Pv σ H)
    (hs : ∀ σ H, Pv σ H → tTest (tOp rLtU (tVar i) (tVar j)) σ H fun b H1 => if b = true then tb ⟨fun σ' H' => Pv σ' H' ∧ μ σ' H' < μ σ H, rt, nx, fun σ' H' => Pv σ' H' ∧ μ σ' H' < μ σ H⟩ σ H1 else nx σ H1) :
    tWhile (tTest (tOp rLtU (tVar i) (tVar j))) tb ⟨nx, rt, bk, ct⟩ σ H := while_by (D := ⟨nx, rt, bk, ct⟩) Pv μ h0 hs mono_lt
end Z
namespace Z
open PySem PySem.Spec PyProof.Rows L2 ItX
/-! ## a + b, -a of own instances -/
structure AddM (P : Program) (w : World) (K : PySem.W.Frag) (mg : Str → Option Value) (base : Heap) (k : Nat) (C : Addr) (sp : Sp) : Prop where
  met : C8.Met P w K mg base k C "__add__" sp []
  first : PySem.W.selfFirst K C = true
section
variable {X : Cx} {k j n : Nat} {C : Addr} {sp : Sp} {K : PySem.W.Frag}
def rAddOwn (C : Addr) (sp : Sp) : R2 := fun x y H Q => ∃ p dx fs q dy gs, x = .ref p ∧ y = .ref q ∧ H p = some (.ins C dx fs) ∧ H q = some (.ins C dy gs) ∧ sp [.ref p, .ref q] H (fun v H2 => ∃ z, v = .ref z ∧ Q (.ref z) H2) C8.E0
theorem op_addOwn (c : AddM X.prog X.w X.K X.mg X.base k C sp) (hr : Room j X.A) (hk : k ≤ j) : OpR X (binaryOp .Add) (rAddOwn C sp) := by
  intro pins s σ H x y v u Q I rx ry h
  obtain ⟨p, dx, fs, q, dy, gs, rfl, rfl, hp, hq, hsp⟩ := h
  cases rx
  cases ry
  obtain ⟨f, fd, ps, ds, hc, hm, FN, b, d⟩ := c.met.ex
  cases d
  obtain ⟨mA, J, _⟩ := ins_get I.hok hp
  obtain ⟨od, J, _⟩ := J.look
  obtain ⟨mB, J2, _⟩ := ins_get I.hok hq
  obtain ⟨od2, J2, _⟩ := J2.look
  obtain ⟨m0, hF⟩ := I.fr
  refine PySem.W.binop_K hF I.ok.mod.kin J J2.type c.first hm.at_ hm.fn ?_
  have hl := FN.len _ _ _ _ hsp
  have r2 : Vals [V.ref p, V.ref q] [Value.ref p, Value.ref q] := .cons rfl (.cons rfl .nil)
  refine wpAny_call (codeAny_mono (FN.run X.A X.stack s H ⟨[.ref p, .ref q], []⟩ [.ref p, .ref q] [.ref p, .ref q] _ C8.E0 (hr.mono hk) I.env0 (by
    have := b s [.ref p, .ref q] I.kIn (by simpa using hl)
    simpa using this) r2 hsp) fun r s' hq' => ?_)
  cases r with
  | error e => exact False.elim hq'
  | ok fl =>
    cases fl with
    | next => exact False.elim hq'
    | brk => exact False.elim hq'
    | cont => exact False.elim hq'
    | ret u =>
      obtain ⟨z, H2, I2, rv, b, ez, hQ⟩ := I.after hq'
      subst ez
      cases rv
      exact ⟨.ref b, H2, I2, rfl, hQ⟩
def rNegOwn (C : Addr) (sp : Sp) : V → Hp → VK → Prop := fun x H Q => ∃ p dx fs, x = .ref p ∧ H p = some (.ins C dx fs) ∧ sp [.ref p] H Q C8.E0
theorem un_negOwn (c : C8.Met X.prog X.w X.K X.mg X.base k C "__neg__" sp []) (hr : Room j X.A) (hk : k ≤ j) : UnR X (unaryOp .USub) (rNegOwn C sp) := by
  intro pins s σ H x v Q I rx h
  obtain ⟨p, dx, fs, rfl, hp, hsp⟩ := h
  cases rx
  obtain ⟨f, fd, ps, ds, hc, hm, FN, b, d⟩ := c.ex
  cases d
  obtain ⟨mA, J, _⟩ := ins_get I.hok hp
  obtain ⟨od, J, _⟩ := J.look
  obtain ⟨m0, hF⟩ := I.fr
  refine PySem.W.ksp_neg hF I.ok.mod.kin J hm.at_ hm.fn ?_
  have hl := FN.len _ _ _ _ hsp
  have r2 : Vals [V.ref p] [Value.ref p] := .cons rfl .nil
  refine wpAny_call (codeAny_mono (FN.run X.A X.stack s H ⟨[.ref p], []⟩ [.ref p] [.ref p] _ C8.E0 (hr.mono hk) I.env0 (by
    have := b s [.ref p] I.kIn (by simpa using hl)
    simpa using this) r2 hsp) fun r s' hq' => ?_)
  cases r with
  | error e => exact False.elim hq'
  | ok fl =>
    cases fl with
    | next => exact False.elim hq'
    | brk => exact False.elim hq'
    | cont => exact False.elim hq'
    | ret u => exact I.after hq'
end
section
variable {C p q dx dy : Addr} {fs gs : List (Str × V)} {H : Hp} {Q : VK} {sp : Sp}
theorem add_own (hp : H p = some (.ins C dx fs)) (hq : H q = some (.ins C dy gs)) (h : sp [.ref p, .ref q] H (fun v H2 => ∃ z, v = .ref z ∧ Q (.ref z) H2) C8.E0) : rAddOwn C sp (.ref p) (.ref q) H Q := ⟨p, dx, fs, q, dy, gs, rfl, rfl, hp, hq, h⟩
theorem neg_own (hp : H p = some (.ins C dx fs)) (h : sp [.ref p] H Q C8.E0) : rNegOwn C sp (.ref p) H Q := ⟨p, dx, fs, rfl, hp, h⟩
end
/-! ## a while: the test is walked with its two ends at once -/
theorem whileG {c : TT} {tb : TS} {nx : L2.St → Hp → Prop} {rt : VK} {bk ct : L2.St → Hp → Prop} {σ : L2.St} {H : Hp} (Pv : L2.St → Hp → Prop) (μ : L2.St → Hp → Nat) (h0 : Pv σ H)
    (hs : ∀ σ H, Pv σ H → c σ H fun b H1 => if b = true then ∃ N : L2.St → Hp → Prop, (∀ σ' H', N σ' H' → ∃ m', m' < μ σ H ∧ m' = μ σ' H' ∧ Pv σ' H') ∧ tb ⟨N, rt, nx, N⟩ σ H1 else nx σ H1) : tWhile c tb ⟨nx, rt, bk, ct⟩ σ H := by
  refine ⟨fun m σ H => m = μ σ H ∧ Pv σ H, ⟨_, rfl, h0⟩, ?_⟩
  rintro m σ H ⟨rfl, p⟩
  exact hs σ H p
theorem wYes {Pv : L2.St → Hp → Prop} {μ : L2.St → Hp → Nat} {m : Nat} {tb : TS} {rt : VK} {nx : L2.St → Hp → Prop} {σ : L2.St} {H : Hp} (h : tb ⟨fun σ' H' => Pv σ' H' ∧ μ σ' H' < m, rt, nx, fun σ' H' => Pv σ' H' ∧ μ σ' H' < m⟩ σ H) :
    ∃ N : L2.St → Hp → Prop, (∀ σ' H', N σ' H' → ∃ m', m' < m ∧ m' = μ σ' H' ∧ Pv σ' H') ∧ tb ⟨N, rt, nx, N⟩ σ H := ⟨_, fun _ _ q => ⟨_, q.2, rfl, q.1⟩, h⟩
end Z
namespace Z
open PySem PySem.Spec PyProof.Rows L2 ItX
/-! ## C.m(e, ..), m a staticmethod -/
structure Stat (P : Program) (w : World) (K : PySem.W.Frag) (mg : Str → Option Value) (base : Heap) (k : Nat) (x m : Str) (sp : Sp) : Prop where
  ex : ∃ (C p g : Addr) (mc : Value) (fd : FuncData) (ps : List Str), mg x = some (.ref C) ∧ ClX.CRead K C mc ∧ PySem.W.findCls K (.ref C) mc m = some (.get (.builtin "staticmethod.__get__") (.ref p) .none (.ref C)) ∧
    (∃ rest, PySem.W.recIn K p "staticmethod" = some (.ref g :: rest)) ∧ PySem.W.keepIn K (.ref g) = true ∧ FnOk P w K mg base C8.CX0 k g fd ps sp ∧ Binds K fd ps []
section
variable {X : Cx} {k j : Nat} {x m : Str} {sp : Sp} {p0 pos apos : Pos} {e o : Expr} {es : List Expr} {t : TA} {ta : TE} {C : Addr}
theorem pe_st {pl : Sem Bool} (c : Stat X.prog X.w X.K X.mg X.base k x m sp) (hr : Room j X.A) (hk : k ≤ j) (hg : Gl X x) (ha : PA X (e :: es) t) (hd : (x == ("__debug__" : Str)) = false := by decide)
    (hst : starEach (e :: es) X.env = (false, eval e X.env) :: starEach es X.env := by rfl) (hpl : (backTo pos (starEach es X.env)).any (·.1) = false := by rfl)
    (ht : eval (.Call (.Attribute (.Name x p0) m apos) (e :: es) [] pos) X.env = (do
      let ov ← eval (.Name x p0) X.env
      standAt apos.atName
      let (f, first) ← holding [ov] (getMethod ov m pl)
      callWith pos f first (backTo pos (starEach (e :: es) X.env)) (backToKw pos (keywordEach [] X.env))) := by rfl) :
    PE X (.Call (.Attribute (.Name x p0) m apos) (e :: es) [] pos) (tCall sp [] C8.E0 t) := by
  obtain ⟨C, p, g, mc, fd, ps, hm, r, at_, ⟨rest, hp⟩, kp, F, b⟩ := c.ex
  refine ⟨fun pins s σ H Q I h => ?_⟩
  refine PySem.W.methodCall_KW (pl := pl) (thn ((pe_cls (p := p0) hg hm hd).run pins s σ H (fun y H1 => y = .ref C ∧ t σ H1 fun vs H2 => sp (vs ++ []) H2 Q C8.E0) I ⟨rfl, h⟩) fun u s1 ⟨y, H1, I1, rx, ex, q⟩ => ?_) ht
  subst ex
  obtain rfl : u = Value.ref C := rx
  refine PySem.W.method_cls I1.kIn r.ga ?_
  refine PySem.W.cls_bind I1.kIn r.rd at_ ?_
  refine wpAny_call (PySem.W.sm_get (s := { s1 with toks := s1.toks + 1 }) I1.kIn hp (PySem.W.handed_on rfl ?_))
  have I2 : Inv X pins σ H1 { s1 with toks := s1.toks + 1 } := I1.tok _
  refine PySem.W.callWith_K (first := []) (h₀ := X.base) I2.ok.mod.kin kp (thn (ha.run pos pins _ σ H1 _ I2 q) fun us s3 ⟨vs, H2, I3, rv, q2⟩ => ⟨I3.kIn, ?_⟩) hst hpl
  exact run_fn F (hr.mono hk) b .nil pass0 I3 rv q2
end
/-! ## a method that may raise -/
structure MetX (P : Program) (w : World) (K : PySem.W.Frag) (mg : Str → Option Value) (base : Heap) (k : Nat) (C : Addr) (m : Str) (sp : Sp) : Prop where
  ex : ∃ (f : Addr) (fd : FuncData) (ps : List Str), Cls K C ∧ Meth K C m f ∧ FnOk P w K mg base (L2.CX P w) k f fd ps sp ∧ Binds K fd ps []
theorem metX {P : Program} {w : World} {K : PySem.W.Frag} {mg : Str → Option Value} {base : Heap} {m qual : Str} {C : Addr} {st : Stmt} {f : Addr} {fd : FuncData} {N ps : List Str} {k : Nat} {sp : Sp} (c : Cls K C) (me : Meth K C m f) (F : C8.Fun K m qual st f fd) (b : Binds K fd ps []) (S : FnScope N ps (C8.fnScope st))
    (len : ∀ vs H Q E, sp vs H Q E → vs.length = ps.length)
    (hbody : ∀ (cdv : Value) (A : Around) (outer : List Env) (s : Shared) (H : Hp) (vs : List V) (Q : VK) (E : XK), Room k (A.deeper (envOfC qual (C8.fnScope st) s.heap.objs.size f cdv)) → sp vs H Q E →
      ∃ t, PSs (cxOf (L2.CX P w) P w K mg base N qual (C8.fnScope st) f cdv A outer s H E) (C8.fnBody st) t ∧ t { nx := fun _ H' => Q .non H', rt := Q } (start N vs) H) : MetX P w K mg base (k + 1) C m sp := by
  refine ⟨f, fd, ps, c, me, ?_, b⟩
  obtain ⟨oc, od, dV, kV, doc, pm, an, cdv, ct, osl, rfl, lk, hcd⟩ := F.ex
  exact fn_of lk hcd S len fun A outer s H vs Q E hr hsp => hbody cdv A outer s H vs Q E hr hsp
def tMethT (C : Addr) (m : Str) (sp : Sp) (E : L2.St → XK) (ta : TE) (t : TA) : TE := fun σ H Q => ta σ H fun x H1 => ∃ a dx fs, x = .ref a ∧ H1 a = some (.ins C dx fs) ∧ fs.lookup m = none ∧ t σ H1 fun vs H2 => sp (x :: vs) H2 Q (E σ)
section
variable {X : Cx} {k j : Nat} {x m : Str} {sp : Sp} {pos apos : Pos} {e o : Expr} {es : List Expr} {t : TA} {ta : TE} {C : Addr} {W : WX}
/-- called where no exception leaves -/
theorem pe_mtn {pl : Sem Bool} (c : MetX X.prog X.w X.K X.mg X.base k C m sp) (hr : Room j X.A) (hk : k ≤ j) (he : PE X o ta) (ha : PA X (e :: es) t)
    (hst : starEach (e :: es) X.env = (false, eval e X.env) :: starEach es X.env := by rfl) (hpl : (backTo pos (starEach es X.env)).any (·.1) = false := by rfl)
    (ht : eval (.Call (.Attribute o m apos) (e :: es) [] pos) X.env = (do
      let ov ← eval o X.env
      standAt apos.atName
      let (f, first) ← holding [ov] (getMethod ov m pl)
      callWith pos f first (backTo pos (starEach (e :: es) X.env)) (backToKw pos (keywordEach [] X.env))) := by rfl) :
    PE X (.Call (.Attribute o m apos) (e :: es) [] pos) (tMeth C m sp [] L2.E0 ta t) := by
  obtain ⟨f, fd, ps, hc, hm, F, b⟩ := c.ex
  exact pe_meth (pl := pl) he hc hm F (hr.mono hk) b .nil passL ha hst hpl ht
/-- called in the body of a try -/
theorem pe_mtt {pl : Sem Bool} (c : MetX X.prog X.w X.K X.mg X.base k C m sp) (tk : Takes X W) (hr : Room j X.A) (hk : k ≤ j) (he : PE X o ta) (ha : PA X (e :: es) t)
    (hst : starEach (e :: es) X.env = (false, eval e X.env) :: starEach es X.env := by rfl) (hpl : (backTo pos (starEach es X.env)).any (·.1) = false := by rfl)
    (ht : eval (.Call (.Attribute o m apos) (e :: es) [] pos) X.env = (do
      let ov ← eval o X.env
      standAt apos.atName
      let (f, first) ← holding [ov] (getMethod ov m pl)
      callWith pos f first (backTo pos (starEach (e :: es) X.env)) (backToKw pos (keywordEach [] X.env))) := by rfl) :
    PE X (.Call (.Attribute o m apos) (e :: es) [] pos) (tMethT C m sp (WE W) ta t) := by
  obtain ⟨f, fd, ps, hc, hm, F, b⟩ := c.ex
  refine ⟨fun pins s σ H Q I h => ?_⟩
  refine PySem.W.methodCall_KW (pl := pl) (thn (he.run pins s σ H _ I h) fun u s1 ⟨x, H1, I1, rx, a, dx, fs, ex, ea, l, q⟩ => ?_) ht
  subst ex
  obtain rfl : u = Value.ref a := rx
  refine getmeth_ok I1 ea hc hm l ?_
  refine PySem.W.callWith_K (first := [.ref a]) (h₀ := X.base) I.ok.mod.kin hm.kp (thn (ha.run pos pins s1 σ H1 _ I1 q) fun us s2 ⟨vs, H2, I2, r, q2⟩ => ⟨I2.kIn, ?_⟩) hst hpl
  exact run_fnS (us := .ref a :: us) (vs := .ref a :: vs) F (hr.mono hk) b (passAt tk σ) I2 (.cons rfl r) q2
end
section
variable {σ : L2.St} {H : Hp} {Q : VK} {ta : TE} {t : TA} {C p q dx : Addr} {m : Str} {sp : Sp} {fs : List (Str × V)} {E : L2.St → XK} {xs : List V} {K : PySem.W.Frag}
theorem rMethT (h : ta σ H fun x H1 => ∃ a dx fs, x = .ref a ∧ H1 a = some (.ins C dx fs) ∧ fs.lookup m = none ∧ t σ H1 fun vs H2 => sp (x :: vs) H2 Q (E σ)) : tMethT C m sp E ta t σ H Q := h
end
/-! ## two tuples of the same things -/
def noFB : V → Bool
  | .byt _ => false
  | .flt _ => false
  | _ => true
def rNeT (K : PySem.W.Frag) : R2 := fun x y H Q => rNeU K x y H Q ∨ ∃ p q xs, x = .ref p ∧ y = .ref q ∧ H p = some (.tup xs) ∧ H q = some (.tup xs) ∧ xs.all noFB = true ∧ Q (.bl false) H
theorem same_eqAt {A : Around} {s : Shared} : ∀ {x : V} {u v : Value}, RelV x u → RelV x v → noFB x = true → SeqAt.EqAt A s u v true
  | .non, _, _, h1, h2, _ => by cases h1; cases h2; exact .same _
  | .bl _, _, _, h1, h2, _ => by cases h1; cases h2; exact .same _
  | .int i, _, _, h1, h2, _ => by
    obtain ⟨t, rfl⟩ := h1
    obtain ⟨t', rfl⟩ := h2
    have := SeqAt.EqAt.int_int (A := A) (s := s) i t i t'
    rwa [beq_self_eq_true] at this
  | .str i, _, _, h1, h2, _ => by
    obtain ⟨t, rfl⟩ := h1
    obtain ⟨t', rfl⟩ := h2
    have := SeqAt.EqAt.str_str (A := A) (s := s) i t i t'
    rwa [beq_self_eq_true] at this
  | .ref _, _, _, h1, h2, _ => by cases h1; cases h2; exact .same _
  | .ty _, _, _, h1, h2, _ => by cases h1; cases h2; exact .same _
  | .byt _, _, _, _, _, h => nomatch h
  | .flt _, _, _, _, _, h => nomatch h
theorem op_neT {X : Cx} {K : PySem.W.Frag} (hu : X.A.units + 64 < cLine) (hK : X.K = K := by rfl) : OpR X (compareOp .NotEq) (rNeT K) := by
  intro pins s σ H x y v u Q I rx ry h
  rcases h with h | ⟨p, q, xs, rfl, rfl, hp, hq, hn, k⟩
  · exact op_neK K hu hK pins s σ H x y v u Q I rx ry h
  cases rx
  cases ry
  obtain ⟨is1, r1, l1, z1⟩ := I.tuple (SqT.of hp)
  obtain ⟨is2, r2, l2, z2⟩ := I.tuple (SqT.of hq)
  have e1 := r1.length
  have e2 := r2.length
  refine SeqAt.RcNeAt.tuples (e := fun _ => true) l1 l2 (by omega) (fun j h1 h2 => ?_) X.prog X.w _ _ ?_
  · have j1 : j < is1.length := by simpa using h1
    have j2 : j < is2.length := by simpa using h2
    have j0 : j < xs.length := by omega
    obtain ⟨u1, hu1, k1⟩ := r1.get (List.getElem?_eq_getElem j0)
    obtain ⟨u2, hu2, k2⟩ := r2.get (List.getElem?_eq_getElem j0)
    rw [List.getElem?_eq_getElem j1] at hu1
    rw [List.getElem?_eq_getElem j2] at hu2
    have g1 : is1.toArray[j] = u1 := by rw [List.getElem_toArray]; exact Option.some.inj hu1
    have g2 : is2.toArray[j] = u2 := by rw [List.getElem_toArray]; exact Option.some.inj hu2
    rw [g1, g2]
    exact same_eqAt k1 k2 (List.all_eq_true.mp hn _ (List.getElem_mem j0))
  · have e : (!((List.range (min is1.toArray.size is2.toArray.size)).all (fun _ => true) && is1.toArray.size == is2.toArray.size)) = false := by
      have : is1.length = is2.length := by omega
      simp [this]
    rw [e]
    exact ⟨.bl false, H, I, rfl, k⟩
theorem ne_same {K : PySem.W.Frag} {p q : Addr} {xs : List V} {H : Hp} {Q : VK} (hp : H p = some (.tup xs)) (hq : H q = some (.tup xs)) (hn : xs.all noFB = true) (h : Q (.bl false) H) : rNeT K (.ref p) (.ref q) H Q := .inr ⟨p, q, xs, rfl, rfl, hp, hq, hn, h⟩
theorem ne_t {K : PySem.W.Frag} {x y : V} {H : Hp} {Q : VK} (h : rNeU K x y H Q) : rNeT K x y H Q := .inl h
/-! ## sorted(..) of whole numbers -/
theorem call_sortI {X : Cx} {K : PySem.W.Frag} (hK : X.K = K := by rfl) : CallR X (.builtin "sorted") (rSortedI K) := by subst hK; exact cr_sortedI
theorem sort_lst {K : PySem.W.Frag} {p : Addr} {ns : List Int} {H : Hp} {Q : VK} (hp : H p = some (.lst (ns.map V.int))) (h : ∀ ns' : List Int, ns'.Perm ns → ns'.Pairwise (· ≤ ·) → newO (.lst (ns'.map V.int)) H Q) : rSortedI K [.ref p] H Q :=
  ⟨p, ns, rfl, SqL.of hp, fun ns' q h1 h2 hq => h ns' h1 h2 q hq⟩
/-! ## a comprehension over a range with a step -/
section
variable {g : TG} {te : TE} {tt : TT} {vs : List Nat} {σ : L2.St} {H : Hp} {Q : VK} {tas : TA} {n i : Nat} {lo c : Int}
theorem rLcR3 (h : tas σ H fun as H1 => ∃ (i j c : Int) (n : Nat), as = [.int i, .int j, .int c] ∧ RgC i j c n ∧ compJ (Itc i c n) g tt te vs σ H1 Q) : tLc (iRng3 tas) g tt te vs σ H Q := h
theorem rg16 {m : Nat} {R : Int → Int → Nat → Prop} (b : m < 100000000) (h : R 0 16 ((m + 15) / 16)) : ∃ (i' j' c : Int) (n : Nat), [V.int 0, V.int (m : Int), V.int 16] = [.int i', .int j', .int c] ∧ RgC i' j' c n ∧ R i' c n := by
  have e : Builtin.Range.rangeSize 0 (m : Int) 16 = (((m + 15) / 16 : Nat) : Int) := by
    unfold Builtin.Range.rangeSize
    rw [if_pos (by decide)]
    split <;> omega
  refine ⟨0, m, 16, _, rfl, ⟨by decide, by decide, ?_, e⟩, h⟩
  unfold Builtin.Range.small
  rw [e, if_pos (by decide)]
  have f : ∀ z : Int, -1000000000 ≤ z → z ≤ 1000000000 → Builtin.Range.rangeFitsLong z = true := fun z h1 h2 => by
    unfold Builtin.Range.rangeFitsLong
    rw [Bool.and_eq_true]
    exact ⟨decide_eq_true (by omega), decide_eq_true (by omega)⟩
  rw [f 0 (by omega) (by omega), f (m : Int) (by omega) (by omega), f 16 (by omega) (by omega), f _ (by omega) (by omega), f ((m : Int) + (16 - 1)) (by omega) (by omega)]
  simp
theorem lc_rangeC {D : Addr} {H1 : Hp} {Qd : Hp → Prop} (Pv : Nat → Hp → Prop) (h0 : Pv 0 (upd H1 D (.lst [])))
    (hs : ∀ i H, i < n → Pv i H → g (.int (lo + (i : Nat) * c)) (wipe σ vs) H fun σ2 H2 => wipe σ2 vs = wipe σ vs ∧ tt σ2 H2 fun b H3 =>
      if b = true then te σ2 H3 fun y H4 => ∃ acc, H4 D = some (.lst acc) ∧ acc.length < sizeLine ∧ Pv (i + 1) (upd H4 D (.lst (acc ++ [y]))) else Pv (i + 1) H3) (hd : ∀ H, Pv n H → Qd H) :
    ∃ W : Nat → Nat → Hp → Prop, (∃ m, W 0 m (upd H1 D (.lst []))) ∧ ∀ i m H, W i m H →
      ((Itc lo c n).stop i H ∧ Qd H) ∨ ((Itc lo c n).go i H ∧ ∃ Nx : Hp → Prop, (∀ H', Nx H' → ∃ m', m' < m ∧ W (i + 1) m' H') ∧ ∀ x H', (Itc lo c n).yld i H x H' → g x (wipe σ vs) H' fun σ2 H2 => wipe σ2 vs = wipe σ vs ∧ tt σ2 H2 fun b H3 =>
        if b = true then te σ2 H3 fun y H4 => ∃ acc, H4 D = some (.lst acc) ∧ acc.length < sizeLine ∧ Nx (upd H4 D (.lst (acc ++ [y]))) else Nx H3) := by
  refine ⟨fun i m H => m = n - i ∧ i ≤ n ∧ Pv i H, ⟨n, by simp, Nat.zero_le _, h0⟩, ?_⟩
  rintro i m H ⟨rfl, hi, p⟩
  by_cases hlt : i < n
  · refine .inr ⟨hlt, Pv (i + 1), fun H' p' => ⟨n - (i + 1), by omega, rfl, hlt, p'⟩, fun x H' y => ?_⟩
    obtain ⟨e, y⟩ := y
    subst e y
    exact hs i _ hlt p
  · have e : i = n := by omega
    subst e
    exact .inl ⟨Nat.le_refl _, hd H p⟩
theorem compC_pure (Pa : List V → Hp → Prop) (h0 : ∀ H2, Same H H2 → Pa [] H2)
    (hs : ∀ acc H2 D, pIn H D n acc H2 → Pa acc H2 → te ((σ.set i none).set i (some (.int (lo + (acc.length : Nat) * c)))) H2 (fun y H3 => pD H D Pa acc.length y H3))
    (hd : ∀ acc H2 D, acc.length = n → Pa acc H2 → Same H H2 → H2 D = some (.lst acc) → Frs H D → Q (.ref D) H2) : compJ (Itc lo c n) (gName i) tYes te [i] σ H Q := by
  intro D hD
  refine lc_rangeC (Qd := fun H' => Q (.ref D) H') (fun k H' => ∃ acc, acc.length = k ∧ Pa acc H' ∧ Same H H' ∧ H' D = some (.lst acc)) ⟨[], rfl, h0 _ (Same.upd_new (Same.refl H) hD), Same.upd_new (Same.refl H) hD, upd_same⟩ ?_ ?_
  · rintro k H' hk ⟨acc, rfl, pa, s, hDl⟩
    exact ⟨wipe1 σ i _, (hs acc H' D ⟨hDl, hD, s, hk⟩ pa)⟩
  · rintro H' ⟨acc, e, pa, s, hDl⟩
    exact hd acc H' D e pa s hDl hD
end
/-- a def of which nothing is promised -/
theorem cal_none {P : Program} {w : World} {K : PySem.W.Frag} {mg : Str → Option Value} {base : Heap} {x : Str} {st : Stmt} {f : Addr} {fd : FuncData} {ps : List Str} {k : Nat} {sp : Sp} (F : C8.Def K mg x st f fd) (b : Binds K fd ps []) (d : Vals [] []) (no : ∀ vs H Q E, sp vs H Q E → False) : C8.Cal P w K mg base k x sp [] :=
  ⟨f, fd, ps, [], ⟨fun vs H Q E h => (no vs H Q E h).elim, fun _ _ _ H _ _ vs Q E _ _ _ _ h => (no vs H Q E h).elim⟩, F.mgf, F.kp, b, d⟩
/-- a whole number of the module -/
theorem pe_gi {X : Cx} {x : Str} {i : Int} {p : Pos} (hg : Gl X x) (hm : ∃ t, X.mg x = some (.int i t)) (hd : (x == ("__debug__" : Str)) = false := by decide) : PE X (.Name x p) (tC (.int i)) :=
  let ⟨t, e⟩ := hm
  pe_glob hg e ⟨t, rfl⟩ hd
end Z
namespace Z
open PySem PySem.Spec L2 ItX
open Rp
local macro_rules | `(tactic| walk_at "ne") => `(tactic| first
  | with_reducible assumption
  | with_reducible exact Ne.symm (by assumption)
  | exact Frs.ne (by with_reducible assumption) (by walk_at "hp")
  | exact Frs.ne' (by with_reducible assumption) (by walk_at "hp"))
local macro_rules | `(tactic| walk_at "hp") => `(tactic| first
  | with_reducible assumption
  | (with_reducible refine Same.at (by assumption) ?_; walk_at "hp")
  | (with_reducible refine SL.tup (by assumption) ?_; walk_at "hp")
  | (with_reducible refine SL.at (by assumption) (by walk_at "ne") ?_; walk_at "hp"))
local macro_rules | `(tactic| walk_at "sz") => `(tactic| first
  | with_reducible assumption
  | exact Nat.le_of_ble_eq_true rfl
  | (refine sz_le ?_; omega)
  | (refine sz_lt ?_; omega)
  | decide +kernel)
local macro_rules | `(tactic| walk_at "at") => `(tactic| first
  | with_reducible assumption
  | with_reducible exact at0
  | with_reducible exact at1
  | with_reducible exact at2
  | with_reducible exact ixN0)
local macro_rules | `(tactic| walk_at "nn") => `(tactic| first
  | omega
  | decide
  | exact ⟨by decide, by decide⟩
  | exact ⟨by omega, by omega⟩
  | exact ⟨by omega, by omega, by omega, by omega⟩)
local macro_rules | `(tactic| walk_at "rdv") => `(tactic| first
  | (with_reducible refine add_int ?_)
  | (with_reducible refine sub_int ?_)
  | (with_reducible refine neg_int ?_)
  | ((with_reducible refine ix_tpl (xs := ?xs) (v := ?v) ?h1 ?h2 ?_); (case h1 => walk_at "hp"); (case h2 => walk_at "at"))
  | ((with_reducible refine ix_lst (xs := ?xs) (v := ?v) ?h1 ?h2 ?_); (case h1 => walk_at "hp"); (case h2 => walk_at "at"))
  | (with_reducible refine eq_int ?_)
  | (with_reducible refine ne_int ?_)
  | (with_reducible refine lt_int ?_)
  | (with_reducible refine le_int ?_)
  | (with_reducible refine gt_int ?_)
  | (with_reducible refine ge_int ?_)
  | (with_reducible refine eq_str ?_)
  | (with_reducible refine ne_str ?_)
  | (with_reducible refine eq_bl ?_)
  | (with_reducible refine ne_bl ?_)
  | ((with_reducible refine mod_int ?hc ?_); (case hc => walk_at "nn"))
  | ((with_reducible refine div_int ?hc ?_); (case hc => walk_at "nn"))
  | ((with_reducible refine mul_intR ?hc ?_); (case hc => exact ⟨by decide, by decide⟩))
  | ((with_reducible refine mul_intR ?hc ?_); (case hc => exact ⟨by omega, by omega⟩))
  | ((with_reducible refine mul_intL ?hc ?_); (case hc => exact ⟨by omega, by omega⟩))
  | ((with_reducible refine pow_int ?hc ?_); (case hc => exact ⟨by decide, by decide, by decide⟩))
  | ((with_reducible refine add_str ?hc ?_); (case hc => walk_at "sz"))
  | ((with_reducible refine add_lst (xs := ?xs) (ys := ?ys) ?h1 ?h2 ?hc ?_); (case h1 => walk_at "hp"); (case h2 => walk_at "hp"); (case hc => walk_at "sz"))
  | ((with_reducible refine sl_strU ?hc ?_); (case hc => walk_at "sz"))
  | ((with_reducible refine sl_lst (xs := ?xs) ?h1 ?_); (case h1 => walk_at "hp"))
  | (with_reducible refine is_bl ?_)
  | (with_reducible refine isnt_bl ?_)
  | (with_reducible refine is_non ?_)
  | (with_reducible refine isnt_non ?_))
local macro_rules | `(tactic| walk_at "rdc") => `(tactic| first
  | ((with_reducible refine len_lst (xs := ?xs) ?h1 ?_); (case h1 => walk_at "hp"))
  | ((with_reducible refine len_tup (xs := ?xs) ?h1 ?_); (case h1 => walk_at "hp"))
  | ((with_reducible refine len_str ?hc ?_); (case hc => walk_at "sz"))
  | (with_reducible refine int_int ?_)
  | (with_reducible refine max_int ?_)
  | (with_reducible refine min_int ?_)
  | (with_reducible refine abs_int ?_)
  | (with_reducible refine isi_ii ?_)
  | (with_reducible refine isi_ib ?_)
  | (with_reducible refine isi_ss ?_)
  | (with_reducible refine isi_bb ?_)
  | ((with_reducible refine isi_tt (xs := ?xs) ?h1 ?_); (case h1 => walk_at "hp"))
  | ((with_reducible refine isi_ll (xs := ?xs) ?h1 ?_); (case h1 => walk_at "hp"))
  | ((with_reducible refine list_lst (xs := ?xs) ?h1 ?_); (case h1 => walk_at "hp"))
  | ((with_reducible refine list_tup (xs := ?xs) ?h1 ?_); (case h1 => walk_at "hp"))
  | ((with_reducible refine tuple_lst (xs := ?xs) ?h1 ?_); (case h1 => walk_at "hp"))
  | ((with_reducible refine tuple_tup (xs := ?xs) ?h1 ?_); (case h1 => walk_at "hp"))
  | ((with_reducible refine append_lst (xs := ?xs) ?h1 ?hc ?_); (case h1 => walk_at "hp"); (case hc => walk_at "sz"))
  | ((with_reducible refine clear_lst (xs := ?xs) ?h1 ?_); (case h1 => walk_at "hp"))
  | ((with_reducible refine set_lst (xs := ?xs) (k := ?k) ?h1 ?h2 ?_); (case h1 => walk_at "hp"); (case h2 => walk_at "at")))
local macro_rules | `(tactic| walk_at "rd1") => `(tactic| first
  | ((with_reducible refine rVar (v := ?v) ?h ?_); (case h => exact rfl))
  | (with_reducible refine rC ?_)
  | (with_reducible refine rCons ?_)
  | (with_reducible refine rNil ?_)
  | (with_reducible refine rOp ?_)
  | (with_reducible refine rSeq ?_)
  | (with_reducible refine rAsgN ?_)
  | (with_reducible refine rAsgT ?_)
  | (with_reducible refine rAsgS ?_)
  | (with_reducible refine rTest ?_)
  | (with_reducible refine rBl ?_)
  | (with_reducible refine rBl' ?_)
  | (with_reducible refine rInt ?_)
  | (with_reducible refine rInt' ?_)
  | (with_reducible refine rCall ?_)
  | (with_reducible refine rCB ?_)
  | (with_reducible refine rRet ?_)
  | (with_reducible refine rDrop ?_)
  | (with_reducible refine rIfS ?_)
  | (with_reducible refine rTup ?_)
  | (with_reducible refine rLst ?_)
  | (with_reducible refine ⟨Nat.le_of_ble_eq_true rfl, ?_⟩)
  | (with_reducible refine rSl ?_)
  | (with_reducible refine rPart ?_)
  | (with_reducible refine rNoPart ?_)
  | (with_reducible refine rBM ?_)
  | (with_reducible refine rBM0 ?_)
  | ((with_reducible refine tyL (xs := ?xs) ?h1 ?_); (case h1 => walk_at "hp"))
  | (with_reducible refine rM1 ?_)
  | (with_reducible refine rM0 ?_)
  | (with_reducible refine rStr ?_)
  | (with_reducible refine rTru ?_)
  | (with_reducible refine tru_bl ?_)
  | (with_reducible refine tru_int ?_)
  | ((with_reducible refine tru_lst (xs := ?xs) ?h1 ?_); (case h1 => walk_at "hp"))
  | ((with_reducible refine tru_tup (xs := ?xs) ?h1 ?_); (case h1 => walk_at "hp"))
  | ((with_reducible refine tru_str ?hc ?_); (case hc => walk_at "sz"))
  | (with_reducible refine rAnd ?_)
  | (with_reducible refine rOr ?_)
  | (with_reducible refine rNot ?_)
  | (with_reducible refine rAndV ?_)
  | (with_reducible refine rOrV ?_)
  | (with_reducible refine rNotV ?_)
  | (with_reducible refine rIfE ?_)
  | (with_reducible refine rChain ?_)
  | (with_reducible refine rChain3 ?_)
  | (with_reducible refine ifT ?_)
  | (with_reducible refine ifF ?_)
  | (with_reducible refine ifNF ?_)
  | (with_reducible refine ifNT ?_)
  | (with_reducible refine rNext ?_)
  | (with_reducible refine rBrk ?_)
  | (with_reducible refine rCnt ?_)
  | (with_reducible refine rRetN ?_)
  | (with_reducible refine rForR1 ?_)
  | (with_reducible refine rForR2 ?_)
  | (with_reducible refine rForL ?_)
  | ((with_reducible refine rRg1 ?hb ?_); (case hb => walk_at "nn"))
  | ((with_reducible refine rRg2 ?hb ?_); (case hb => walk_at "nn"))
  | ((with_reducible refine rRf (xs := ?xs) ?h1 ?_); (case h1 => walk_at "hp"))
  | (with_reducible refine rLcR1 ?_)
  | (with_reducible refine rLcR2 ?_)
  | (with_reducible refine rLcL ?_)
  | (with_reducible refine gN ?_)
  | (with_reducible refine gNl ?_)
  | (with_reducible refine gC ?_)
  | ((with_reducible refine gT (xs := ?xs) ?h1 ?h2 ?_); (case h1 => walk_at "hp"); (case h2 => exact rfl))
  | (with_reducible refine rUn ?_)
  | walk_at "rdv"
  | walk_at "rdc")
local macro_rules | `(tactic| walk_at "rd") => `(tactic| repeat walk_at "rd1")

local macro_rules | `(tactic| walk_at "rd1") => `(tactic| first
  | (with_reducible refine rCallS ?_)
  | (with_reducible refine rRaise ?_)
  | (with_reducible refine rXf ?_)
  | (with_reducible refine rXi ?_)
  | (with_reducible refine rOst ?_)
  | (with_reducible refine rRevL ?_)
  | ((with_reducible refine revL_end (xs := ?xs) ?h1 ?_); (case h1 => walk_at "hp")))

local macro_rules | `(tactic| walk_at "rd1") => `(tactic| first
  | (with_reducible refine rForR3 ?_)
  | ((with_reducible refine rRgD ?hb ?_); (case hb => walk_at "nn"))
  | (with_reducible refine gS ?_))

local macro_rules | `(tactic| walk_at "rd1") => `(tactic| first
  | (with_reducible refine rFld ?_)
  | (with_reducible refine rSFld ?_)
  | (with_reducible refine rMake ?_)
  | (with_reducible refine rMeth ?_)
  | (with_reducible refine rForT ?_)
  | (with_reducible refine rLcT ?_)
  | (with_reducible refine rLcO ?_)
  | (with_reducible refine rForO ?_)
  | (with_reducible refine rLstY ?_)
  | ((with_reducible refine rRt (xs := ?xs) ?h1 ?_); (case h1 => walk_at "hp"))
  | ((with_reducible refine listY_lst (xs := ?xs) ?h1 ?_); (case h1 => walk_at "hp"))
  | ((with_reducible refine listY_tup (xs := ?xs) ?h1 ?_); (case h1 => walk_at "hp")))

structure F_Rope (K : PySem.W.Frag) (mg : Str → Option Value) (C : Addr) : Prop where
  u : ClsF K mg C "Rope"
  n_piece : NoAttr K C "piece"
  n_left : NoAttr K C "left"
  n_right : NoAttr K C "right"
  n_size : NoAttr K C "size"
  n_height : NoAttr K C "height"
/-! ## ropes as objects -/
theorem lk_ne {k a : Str} {v : V} {l : List (Str × V)} (h : (k == a) = false) : List.lookup k ((a, v) :: l) = List.lookup k l := by
  show (match (k == a) with | true => some v | false => List.lookup k l) = _
  rw [h]
theorem lk_eq {k : Str} {v : V} {l : List (Str × V)} : List.lookup k ((k, v) :: l) = some v := by
  show (match (k == k) with | true => some v | false => List.lookup k l) = _
  rw [beq_self_eq_true]
def ropF (pc l r : V) (s h : Int) : List (Str × V) := [("piece", pc), ("left", l), ("right", r), ("size", .int s), ("height", .int h)]
section
variable {pc l r : V} {s h : Int}
theorem ropF_left : (ropF pc l r s h).lookup ("left" : Str) = some l := (lk_ne (by decide +kernel)).trans lk_eq
theorem ropF_right : (ropF pc l r s h).lookup ("right" : Str) = some r := (lk_ne (by decide +kernel)).trans ((lk_ne (by decide +kernel)).trans lk_eq)
theorem ropF_size : (ropF pc l r s h).lookup ("size" : Str) = some (.int s) := (lk_ne (by decide +kernel)).trans ((lk_ne (by decide +kernel)).trans ((lk_ne (by decide +kernel)).trans lk_eq))
theorem ropF_height : (ropF pc l r s h).lookup ("height" : Str) = some (.int h) := (lk_ne (by decide +kernel)).trans ((lk_ne (by decide +kernel)).trans ((lk_ne (by decide +kernel)).trans ((lk_ne (by decide +kernel)).trans lk_eq)))
theorem ropF_no {m : Str} (h1 : (m == ("piece" : Str)) = false) (h2 : (m == ("left" : Str)) = false) (h3 : (m == ("right" : Str)) = false) (h4 : (m == ("size" : Str)) = false) (h5 : (m == ("height" : Str)) = false) : (ropF pc l r s h).lookup m = none :=
  (lk_ne h1).trans ((lk_ne h2).trans ((lk_ne h3).trans ((lk_ne h4).trans ((lk_ne h5).trans rfl))))
end
def RopeAt (C : Addr) (H : Hp) : V → Rp → Prop
  | v, .leaf s => ∃ p dx, v = .ref p ∧ H p = some (.ins C dx (ropF (.str s) .non .non ((leaf s).size : Int) ((leaf s).ht : Int)))
  | v, .node l r => ∃ p dx a b, v = .ref p ∧ H p = some (.ins C dx (ropF (.str "") a b ((Rp.node l r).size : Int) ((Rp.node l r).ht : Int))) ∧ RopeAt C H a l ∧ RopeAt C H b r
theorem RopeAt.kp {C : Addr} {H H' : Hp} (s : KpS H H') : ∀ {R : Rp} {v : V}, RopeAt C H v R → RopeAt C H' v R
  | .leaf _, _, h => let ⟨p, dx, e, q⟩ := h; ⟨p, dx, e, s.ins q⟩
  | .node _ _, _, h => let ⟨p, dx, a, b, e, q, h1, h2⟩ := h; ⟨p, dx, a, b, e, s.ins q, RopeAt.kp s h1, RopeAt.kp s h2⟩
theorem RopeAt.sm {C : Addr} {H H' : Hp} (s : Same H H') {R : Rp} {v : V} (h : RopeAt C H v R) : RopeAt C H' v R := h.kp (KpS.same s)
theorem RopeAt.obj {C : Addr} {H : Hp} : ∀ {R : Rp} {v : V}, RopeAt C H v R → ∃ p dx pc l r, v = .ref p ∧ H p = some (.ins C dx (ropF pc l r (R.size : Int) (R.ht : Int)))
  | .leaf _, _, h => let ⟨p, dx, e, q⟩ := h; ⟨p, dx, _, _, _, e, q⟩
  | .node _ _, _, h => let ⟨p, dx, a, b, e, q, _, _⟩ := h; ⟨p, dx, _, _, _, e, q⟩
theorem RopeAt.nd {C p : Addr} {H : Hp} {l r : Rp} (h : RopeAt C H (.ref p) (node l r)) : ∃ dx a b, H p = some (.ins C dx (ropF (.str "") a b ((Rp.node l r).size : Int) ((Rp.node l r).ht : Int))) ∧ RopeAt C H a l ∧ RopeAt C H b r := by
  obtain ⟨q, dx, a, b, e, h1, h2, h3⟩ := h
  cases e
  exact ⟨dx, a, b, h1, h2, h3⟩
theorem RopeAt.lf {C p : Addr} {H : Hp} {s : Str} (h : RopeAt C H (.ref p) (leaf s)) : ∃ dx, H p = some (.ins C dx (ropF (.str s) .non .non ((leaf s).size : Int) ((leaf s).ht : Int))) := by
  obtain ⟨q, dx, e, h1⟩ := h
  cases e
  exact ⟨dx, h1⟩
theorem leaf_htI (s : Str) : ((leaf s).ht : Int) = if (s.length : Int) < 1 then (s.length : Int) else 1 := by
  show ((if s.length < 1 then s.length else 1 : Nat) : Int) = _
  split <;> split <;> omega
section
variable {K : PySem.W.Frag} {mg : Str → Option Value} {C p dx : Addr} {H : Hp} {pc l r : V} {s h : Int} {R : V → Prop}
theorem fR_piece (u : F_Rope K mg C) (hp : H p = some (.ins C dx (ropF pc l r s h))) (k : R pc) : ∃ a C dx fs v, V.ref p = .ref a ∧ H a = some (.ins C dx fs) ∧ Cls K C ∧ NoAttr K C "piece" ∧ fs.lookup ("piece" : Str) = some v ∧ R v := fld_end hp u.u u.n_piece lk_eq k
theorem fR_left (u : F_Rope K mg C) (hp : H p = some (.ins C dx (ropF pc l r s h))) (k : R l) : ∃ a C dx fs v, V.ref p = .ref a ∧ H a = some (.ins C dx fs) ∧ Cls K C ∧ NoAttr K C "left" ∧ fs.lookup ("left" : Str) = some v ∧ R v := fld_end hp u.u u.n_left ropF_left k
theorem fR_right (u : F_Rope K mg C) (hp : H p = some (.ins C dx (ropF pc l r s h))) (k : R r) : ∃ a C dx fs v, V.ref p = .ref a ∧ H a = some (.ins C dx fs) ∧ Cls K C ∧ NoAttr K C "right" ∧ fs.lookup ("right" : Str) = some v ∧ R v := fld_end hp u.u u.n_right ropF_right k
theorem fR_size (u : F_Rope K mg C) (hp : H p = some (.ins C dx (ropF pc l r s h))) (k : R (.int s)) : ∃ a C dx fs v, V.ref p = .ref a ∧ H a = some (.ins C dx fs) ∧ Cls K C ∧ NoAttr K C "size" ∧ fs.lookup ("size" : Str) = some v ∧ R v := fld_end hp u.u u.n_size ropF_size k
theorem fR_height (u : F_Rope K mg C) (hp : H p = some (.ins C dx (ropF pc l r s h))) (k : R (.int h)) : ∃ a C dx fs v, V.ref p = .ref a ∧ H a = some (.ins C dx fs) ∧ Cls K C ∧ NoAttr K C "height" ∧ fs.lookup ("height" : Str) = some v ∧ R v := fld_end hp u.u u.n_height ropF_height k
end
/-! ## promises -/
def sp_Rope_init (C : Addr) : Sp := fun vs H Q _ => ∃ (x dx : Addr) (pc : Str) (l r : V) (s h : Int), vs = [.ref x, .str pc, l, r] ∧ H x = some (.ins C dx []) ∧ pc.length ≤ 16777216 ∧ Q .non (upd H x (.ins C dx (ropF (.str pc) l r s h))) ∧
  ((l = .non ∧ s = pc.length ∧ h = if (pc.length : Int) < 1 then (pc.length : Int) else 1) ∨ ∃ (a b da db : Addr) (p1 l1 r1 p2 l2 r2 : V) (s1 h1 s2 h2 : Int), l = .ref a ∧ r = .ref b ∧ a ≠ x ∧ b ≠ x ∧ H a = some (.ins C da (ropF p1 l1 r1 s1 h1)) ∧ H b = some (.ins C db (ropF p2 l2 r2 s2 h2)) ∧ s = s1 + s2 ∧ h = 1 + (if h2 > h1 then h2 else h1))
def W_Rope (C : Addr) : List V → Hp → VK → Prop := fun vs H Q => (∃ pc : Str, vs = [.str pc, .non, .non] ∧ pc.length ≤ 16777216 ∧ newI C (ropF (.str pc) .non .non ((leaf pc).size : Int) ((leaf pc).ht : Int)) H Q) ∨
  ∃ (l r : V) (L R : Rp), vs = [.str "", l, r] ∧ RopeAt C H l L ∧ RopeAt C H r R ∧ newI C (ropF (.str "") l r ((node L R).size : Int) ((node L R).ht : Int)) H Q
theorem mk_Rope {C : Addr} : ∀ vs H1 Q, W_Rope C vs H1 Q → ∀ x dx, H1 x = none → H1 dx = none → dx ≠ x → sp_Rope_init C (.ref x :: (vs ++ [])) (upd (upd H1 dx (.own x)) x (.ins C dx [])) (fun v H2 => v = .non ∧ Q (.ref x) H2) C8.E0 := by
  rintro vs H1 Q (⟨pc, rfl, hl, h⟩ | ⟨l, r, L, R, rfl, hL, hR, h⟩) x dx hx hd hdx
  · exact ⟨x, dx, pc, .non, .non, _, _, rfl, upd_same, hl, ⟨rfl, h x dx _ hx (same_ins hx hd hdx) upd_same⟩, .inl ⟨rfl, rfl, leaf_htI pc⟩⟩
  · obtain ⟨a, da, p1, l1, r1, rfl, ha⟩ := hL.obj
    obtain ⟨b, db, p2, l2, r2, rfl, hb⟩ := hR.obj
    refine ⟨x, dx, "", _, _, _, _, rfl, upd_same, by decide +kernel, ⟨rfl, h x dx _ hx (same_ins hx hd hdx) upd_same⟩, .inr ⟨a, b, da, db, p1, l1, r1, p2, l2, r2, (L.size : Int), (L.ht : Int), (R.size : Int), (R.ht : Int), rfl, rfl, ne_of_none ha hx, ne_of_none hb hx, ?_, ?_, ?_, ?_⟩⟩
    · rw [upd_ne (ne_of_none ha hx), upd_ne (ne_of_none ha hd)]; exact ha
    · rw [upd_ne (ne_of_none hb hx), upd_ne (ne_of_none hb hd)]; exact hb
    · show ((L.size + R.size : Nat) : Int) = _
      omega
    · show ((1 + max L.ht R.ht : Nat) : Int) = _
      split <;> omega
theorem mkLeaf {C : Addr} {pc : Str} {H : Hp} {Q : VK} (hl : pc.length ≤ 16777216) (h : ∀ v H', Same H H' → RopeAt C H' v (leaf pc) → Q v H') : W_Rope C [.str pc, .non, .non] H Q :=
  .inl ⟨pc, rfl, hl, fun p dx H' _ s e => h _ H' s ⟨p, dx, rfl, e⟩⟩
theorem mkNode {C : Addr} {l r : V} {L R : Rp} {H : Hp} {Q : VK} (h1 : RopeAt C H l L) (h2 : RopeAt C H r R) (h : ∀ v H', Same H H' → RopeAt C H' v (node L R) → Q v H') : W_Rope C [.str "", l, r] H Q :=
  .inr ⟨l, r, L, R, rfl, h1, h2, fun p dx H' _ s e => h _ H' s ⟨p, dx, l, r, rfl, e, h1.sm s, h2.sm s⟩⟩
def sp_empty_rope (C : Addr) : Sp := fun vs H Q _ => vs = [] ∧ ∀ v H', Same H H' → RopeAt C H' v (leaf "") → Q v H'
theorem use_empty {C : Addr} {H : Hp} {Q : VK} {E : XK} (h : ∀ v H', Same H H' → RopeAt C H' v (leaf "") → Q v H') : sp_empty_rope C [] H Q E := ⟨rfl, h⟩
def sp_rope_of_row (C : Addr) (n : Nat) : Sp := fun vs H Q _ => ∃ (p : Addr) (us : List V) (Rs : List Rp), vs = [.ref p] ∧ H p = some (.lst us) ∧ Paired (RopeAt C H) us Rs ∧ Rs ≠ [] ∧ (∀ R ∈ Rs, R.Bal ∧ R.ht = 1) ∧ 2 * Rs.length ≤ 2 ^ n ∧
  ∀ v H' R, Same H H' → RopeAt C H' v R → R.Bal → R.txt = (Rs.map Rp.txt).flatten → Lg (R.ht - 1) Rs.length → Q v H'
theorem no_rope_of_row {C : Addr} {vs : List V} {H : Hp} {Q : VK} {E : XK} (h : sp_rope_of_row C 0 vs H Q E) : False := by
  obtain ⟨p, us, Rs, _, _, _, h1, _, h2, _⟩ := h
  cases Rs with
  | nil => exact h1 rfl
  | cons a l => rw [List.length_cons, Nat.pow_zero] at h2; omega
theorem use_row {C p : Addr} {n : Nat} {us : List V} {Rs : List Rp} {H : Hp} {Q : VK} {E : XK} (hp : H p = some (.lst us)) (hR : Paired (RopeAt C H) us Rs) (h0 : Rs ≠ []) (hb : ∀ R ∈ Rs, R.Bal ∧ R.ht = 1) (hn : 2 * Rs.length ≤ 2 ^ n)
    (h : ∀ v H' R, Same H H' → RopeAt C H' v R → R.Bal → R.txt = (Rs.map Rp.txt).flatten → Lg (R.ht - 1) Rs.length → Q v H') : sp_rope_of_row C n [.ref p] H Q E := ⟨p, us, Rs, rfl, hp, hR, h0, hb, hn, h⟩
def sp_Rope_of (C : Addr) : Sp := fun vs H Q _ => ∃ t : Str, vs = [.str t] ∧ t.length ≤ 100000 ∧ ∀ v H' R, Same H H' → RopeAt C H' v R → Rok R → R.txt = TL.tl t → Q v H'
theorem use_of {C : Addr} {t : Str} {H : Hp} {Q : VK} {E : XK} (hl : t.length ≤ 100000) (h : ∀ v H' R, Same H H' → RopeAt C H' v R → Rok R → R.txt = TL.tl t → Q v H') : sp_Rope_of C [.str t] H Q E := ⟨t, rfl, hl, h⟩
def sp_balanced_rope (C : Addr) : Sp := fun vs H Q _ => ∃ (v u : V) (L R : Rp), vs = [v, u] ∧ RopeAt C H v L ∧ RopeAt C H u R ∧ L.Bal ∧ R.Bal ∧ ∀ x H', Same H H' → RopeAt C H' x (balR L R) → Q x H'
theorem use_balanced {C : Addr} {v u : V} {L R : Rp} {H : Hp} {Q : VK} {E : XK} (h1 : RopeAt C H v L) (h2 : RopeAt C H u R) (b1 : L.Bal) (b2 : R.Bal) (h : ∀ x H', Same H H' → RopeAt C H' x (balR L R) → Q x H') : sp_balanced_rope C [v, u] H Q E := ⟨v, u, L, R, rfl, h1, h2, b1, b2, h⟩
def sp_join_ropes (C : Addr) (n : Nat) : Sp := fun vs H Q _ => ∃ (v u : V) (L R : Rp), vs = [v, u] ∧ RopeAt C H v L ∧ RopeAt C H u R ∧ Rok L ∧ Rok R ∧ L.ht < R.ht + n ∧ R.ht < L.ht + n ∧
  ∀ x H' J, Same H H' → RopeAt C H' x J → Rok J → J.txt = L.txt ++ R.txt → (L.Bal → R.Bal → Jn L R J) → Q x H'
theorem no_join_ropes {C : Addr} {vs : List V} {H : Hp} {Q : VK} {E : XK} (h : sp_join_ropes C 0 vs H Q E) : False := by
  obtain ⟨v, u, L, R, _, _, _, _, _, h1, h2, _⟩ := h
  omega
theorem use_joinN {C : Addr} {n : Nat} {v u : V} {L R : Rp} {H : Hp} {Q : VK} {E : XK} (h1 : RopeAt C H v L) (h2 : RopeAt C H u R) (b1 : Rok L) (b2 : Rok R) (g1 : L.ht < R.ht + n) (g2 : R.ht < L.ht + n)
    (h : ∀ x H' J, Same H H' → RopeAt C H' x J → Rok J → J.txt = L.txt ++ R.txt → (L.Bal → R.Bal → Jn L R J) → Q x H') : sp_join_ropes C n [v, u] H Q E := ⟨v, u, L, R, rfl, h1, h2, b1, b2, g1, g2, h⟩
theorem use_join {C : Addr} {v u : V} {L R : Rp} {H : Hp} {Q : VK} {E : XK} (h1 : RopeAt C H v L) (h2 : RopeAt C H u R) (b1 : Rok L) (b2 : Rok R) (g1 : L.size ≤ 200000) (g2 : R.size ≤ 200000)
    (h : ∀ x H' J, Same H H' → RopeAt C H' x J → Rok J → J.txt = L.txt ++ R.txt → Q x H') : sp_join_ropes C 27 [v, u] H Q E :=
  use_joinN h1 h2 b1 b2 (by have := b1.ht g1; omega) (by have := b2.ht g2; omega) fun x H' J s r o t _ => h x H' J s r o t
def sp_cut_rope (C : Addr) (n : Nat) : Sp := fun vs H Q _ => ∃ (v : V) (R : Rp) (s e : Int), vs = [v, .int s, .int e] ∧ RopeAt C H v R ∧ Rok R ∧ R.ht < n ∧ R.size ≤ 200000 ∧ 0 ≤ s ∧ s ≤ e ∧ e ≤ R.size ∧
  ∀ x H' J, Same H H' → RopeAt C H' x J → Rok J → J.txt = (R.txt.take e.toNat).drop s.toNat → Q x H'
theorem no_cut_rope {C : Addr} {vs : List V} {H : Hp} {Q : VK} {E : XK} (h : sp_cut_rope C 0 vs H Q E) : False := by
  obtain ⟨v, R, s, e, _, _, _, h1, _⟩ := h
  omega
theorem use_cutN {C : Addr} {n : Nat} {v : V} {R : Rp} {s e : Int} {H : Hp} {Q : VK} {E : XK} (h1 : RopeAt C H v R) (b : Rok R) (hn : R.ht < n) (hz : R.size ≤ 200000) (k : 0 ≤ s ∧ s ≤ e ∧ e ≤ R.size)
    (h : ∀ x H' J, Same H H' → RopeAt C H' x J → Rok J → J.txt = (R.txt.take e.toNat).drop s.toNat → Q x H') : sp_cut_rope C n [v, .int s, .int e] H Q E := ⟨v, R, s, e, rfl, h1, b, hn, hz, k.1, k.2.1, k.2.2, h⟩
theorem use_cutR {C : Addr} {v : V} {R : Rp} {s e : Int} {H : Hp} {Q : VK} {E : XK} (h1 : RopeAt C H v R) (b : Rok R) (hz : R.size ≤ 200000) (k : 0 ≤ s ∧ s ≤ e ∧ e ≤ R.size)
    (h : ∀ x H' J, Same H H' → RopeAt C H' x J → Rok J → J.txt = (R.txt.take e.toNat).drop s.toNat → Q x H') : sp_cut_rope C 27 [v, .int s, .int e] H Q E := use_cutN h1 b (by have := b.ht hz; omega) hz k h
def sp_Rope_whole (C : Addr) : Sp := fun vs H Q _ => ∃ (v : V) (R : Rp), vs = [v] ∧ RopeAt C H v R ∧ Rok R ∧ R.size ≤ 200000 ∧ ∀ z H', Same H H' → TL.tl z = R.txt → Q (.str z) H'
def sp_Rope_char (C : Addr) : Sp := fun vs H Q _ => ∃ (v : V) (R : Rp) (k c : Nat), vs = [v, .int k] ∧ RopeAt C H v R ∧ Rok R ∧ R.txt[k]? = some c ∧ Q (.str ⟨#[c]⟩) H
def sp_Rope_cut (C : Addr) : Sp := fun vs H Q _ => ∃ (v : V) (R : Rp) (s e : Int), vs = [v, .int s, .int e] ∧ RopeAt C H v R ∧ Rok R ∧ R.size ≤ 200000 ∧ 0 ≤ s ∧ s ≤ e ∧ e ≤ R.size ∧
  ∀ x H' J, Same H H' → RopeAt C H' x J → Rok J → J.txt = (R.txt.take e.toNat).drop s.toNat → Q x H'
def sp_Rope_joined (C : Addr) : Sp := fun vs H Q _ => ∃ (v u : V) (L R : Rp), vs = [v, u] ∧ RopeAt C H v L ∧ RopeAt C H u R ∧ Rok L ∧ Rok R ∧ L.size ≤ 200000 ∧ R.size ≤ 200000 ∧ ∀ x H' J, Same H H' → RopeAt C H' x J → Rok J → J.txt = L.txt ++ R.txt → Q x H'
def sp_Rope_edited (C aE : Addr) : Sp := fun vs H Q E => ∃ (v : V) (R : Rp) (t : Str) (p : Addr) (us : List V) (es : List Ed), vs = [v, .ref p] ∧ RopeAt C H v R ∧ Rok R ∧ R.txt = TL.tl t ∧ H p = some (.lst us) ∧ Edits H us es ∧ Mild es ∧
  (fits t.length es → (∀ k, sza t.length (es.take k) ≤ 100000) ∧ ∀ x H' J, Same H H' → RopeAt C H' x J → Rok J → J.txt = TL.tl (aps t es) → Q x H') ∧ ∀ n : Nat, fu t.length es = n → n ≤ 1000 → BadX aE n H E
theorem use_edited {C aE : Addr} {v : V} {R : Rp} {t : Str} {p : Addr} {us : List V} {es : List Ed} {H : Hp} {Q : VK} {E : XK} (h1 : RopeAt C H v R) (b : Rok R) (ht : R.txt = TL.tl t) (hp : H p = some (.lst us)) (he : Edits H us es) (hs : Mild es)
    (k1 : fits t.length es → (∀ k, sza t.length (es.take k) ≤ 100000) ∧ ∀ x H' J, Same H H' → RopeAt C H' x J → Rok J → J.txt = TL.tl (aps t es) → Q x H') (k2 : ∀ n : Nat, fu t.length es = n → n ≤ 1000 → BadX aE n H E) : sp_Rope_edited C aE [v, .ref p] H Q E :=
  ⟨v, R, t, p, us, es, rfl, h1, b, ht, hp, he, hs, k1, k2⟩
local macro_rules | `(tactic| walk_at "rd1") => `(tactic| first
  | (with_reducible refine rLcR3 ?_)
  | (with_reducible refine rMethT ?_)
  | (with_reducible refine rMkW ?_)
  | ((with_reducible refine fR_piece (mg := ?mg) (C := ?C) (dx := ?dx) (pc := ?pc) (l := ?l) (r := ?r) (s := ?s) (h := ?h) ?hu ?hp ?_); (case hu => with_reducible assumption); (case hp => walk_at "hp"))
  | ((with_reducible refine fR_left (mg := ?mg) (C := ?C) (dx := ?dx) (pc := ?pc) (l := ?l) (r := ?r) (s := ?s) (h := ?h) ?hu ?hp ?_); (case hu => with_reducible assumption); (case hp => walk_at "hp"))
  | ((with_reducible refine fR_right (mg := ?mg) (C := ?C) (dx := ?dx) (pc := ?pc) (l := ?l) (r := ?r) (s := ?s) (h := ?h) ?hu ?hp ?_); (case hu => with_reducible assumption); (case hp => walk_at "hp"))
  | ((with_reducible refine fR_size (mg := ?mg) (C := ?C) (dx := ?dx) (pc := ?pc) (l := ?l) (r := ?r) (s := ?s) (h := ?h) ?hu ?hp ?_); (case hu => with_reducible assumption); (case hp => walk_at "hp"))
  | ((with_reducible refine fR_height (mg := ?mg) (C := ?C) (dx := ?dx) (pc := ?pc) (l := ?l) (r := ?r) (s := ?s) (h := ?h) ?hu ?hp ?_); (case hu => with_reducible assumption); (case hp => walk_at "hp")))
local macro_rules | `(tactic| walk_at "rd1") => `(tactic| first
  | (with_reducible refine rMeth ?_)
  | ((with_reducible refine meth_end (C := ?C) (dx := ?dx) (fs := ?fs) ?hp ?hl ?_); (case hp => walk_at "hp"); (case hl => exact ropF_no (by decide +kernel) (by decide +kernel) (by decide +kernel) (by decide +kernel) (by decide +kernel))))

section
variable {P : Program} {w : World} {K : PySem.W.Frag} {mg : Str → Option Value} {base : Heap} {aE aRope : Addr}
theorem mak_Rope {f : Addr} {fd : FuncData} (T : Txt mg) (FU : C8.Fun K "__init__" "Rope.__init__" s_Rope___init__ f fd) (b : Binds K fd ["self", "piece", "left", "right"] []) (u_Rope : F_Rope K mg aRope) (M : Mk K aRope f) : C8.Mak P w K mg base 1 "Rope" aRope (sp_Rope_init aRope) [] := by
  refine C8.mak0 M u_Rope.u.mgC FU b .nil sc_Rope___init__ (fun vs H Q E h => ?_) (fun cdv A outer s H vs Q E hr h => ?_)
  · obtain ⟨x, dx, pc, l, r, s, h, rfl, _⟩ := h; rfl
  · obtain ⟨x, dx, pc, l, r, s, h, rfl, hx, hpc, k, hw⟩ := h
    refine ⟨_, (pss_cons (ps_fldK (K := K) (pv 0) (pv 1) rfl)
  (pss_cons (ps_fldK (K := K) (pv 0) (pv 2) rfl)
  (pss_cons (ps_fldK (K := K) (pv 0) (pv 3) rfl)
  (pss_one (ps_if (pt_cmpR op_isU (pv 2) pe_non (nomark _)) (pss_cons (ps_fldK (K := K) (pv 0) (pe_callB (call_lenK K) (by rfl) T.n_len PySem.boot_len (pa_cons (pv 1) pa_nil)) rfl)
  (pss_one (ps_fldK (K := K) (pv 0) (pe_callB (call_min2U rfl) (by rfl) T.n_min (by decide +kernel) (pa_cons pe_int (pa_cons (pe_callB (call_lenK K) (by rfl) T.n_len PySem.boot_len (pa_cons (pv 1) pa_nil)) pa_nil))) rfl))) (pss_cons (ps_fldK (K := K) (pv 0) (pe_op (op_addK K) (pe_fldK (K := K) (pv 2) rfl) (pe_fldK (K := K) (pv 3) rfl)) rfl)
  (pss_one (ps_fldK (K := K) (pv 0) (pe_op (op_addK K) pe_int (pe_callB (call_max2U rfl) (by rfl) T.n_max (by decide +kernel) (pa_cons (pe_fldK (K := K) (pv 2) rfl) (pa_cons (pe_fldK (K := K) (pv 3) rfl) pa_nil)))) rfl)))))))), ?_⟩
    show (_ : TS) _ [some (.ref x), some (.str pc), some l, some r] H
    walk_at "rd"
    refine ⟨x, aRope, dx, _, rfl, hx, u_Rope.u.cl, u_Rope.n_piece, by show 0 < 1000; omega, ?_⟩
    walk_at "rd"
    refine ⟨x, aRope, dx, _, rfl, upd_same, u_Rope.u.cl, u_Rope.n_left, by show 1 < 1000; omega, ?_⟩
    walk_at "rd"
    have e1 : putF "left" l (putF "piece" (.str pc) []) = [(("piece" : Str), V.str pc), (("left" : Str), l)] := by
      show (if ("piece" : Str) = "left" then _ else (("piece" : Str), V.str pc) :: putF "left" l []) = _
      rw [if_neg (by decide +kernel)]
      rfl
    rw [e1, upd_upd]
    refine ⟨x, aRope, dx, _, rfl, upd_same, u_Rope.u.cl, u_Rope.n_right, by show 2 < 1000; omega, ?_⟩
    have e2 : putF "right" r [(("piece" : Str), V.str pc), (("left" : Str), l)] = [(("piece" : Str), V.str pc), (("left" : Str), l), (("right" : Str), r)] := by
      show (if ("piece" : Str) = "right" then _ else (("piece" : Str), V.str pc) :: (if ("left" : Str) = "right" then _ else (("left" : Str), l) :: putF "right" r [])) = _
      rw [if_neg (by decide +kernel), if_neg (by decide +kernel)]
      rfl
    rw [e2, upd_upd]
    have e3 : ∀ i : Int, putF "size" (.int i) [(("piece" : Str), V.str pc), (("left" : Str), l), (("right" : Str), r)] = [(("piece" : Str), V.str pc), (("left" : Str), l), (("right" : Str), r), (("size" : Str), V.int i)] := fun i => by
      show (if ("piece" : Str) = "size" then _ else (("piece" : Str), V.str pc) :: (if ("left" : Str) = "size" then _ else (("left" : Str), l) :: (if ("right" : Str) = "size" then _ else (("right" : Str), r) :: putF "size" (.int i) []))) = _
      rw [if_neg (by decide +kernel), if_neg (by decide +kernel), if_neg (by decide +kernel)]
      rfl
    have e4 : ∀ i j : Int, putF "height" (.int j) [(("piece" : Str), V.str pc), (("left" : Str), l), (("right" : Str), r), (("size" : Str), V.int i)] = ropF (.str pc) l r i j := fun i j => by
      show (if ("piece" : Str) = "height" then _ else (("piece" : Str), V.str pc) :: (if ("left" : Str) = "height" then _ else (("left" : Str), l) :: (if ("right" : Str) = "height" then _ else (("right" : Str), r) :: (if ("size" : Str) = "height" then _ else (("size" : Str), V.int i) :: putF "height" (.int j) [])))) = _
      rw [if_neg (by decide +kernel), if_neg (by decide +kernel), if_neg (by decide +kernel), if_neg (by decide +kernel)]
      rfl
    rcases hw with ⟨rfl, rfl, rfl⟩ | ⟨a, b, da, db, p1, l1, r1, p2, l2, r2, s1, h1, s2, h2, rfl, rfl, hax, hbx, ha, hb, rfl, rfl⟩
    · walk_at "rd"
      refine ifDy rfl ?_
      walk_at "rd"
      refine ⟨x, aRope, dx, _, rfl, upd_same, u_Rope.u.cl, u_Rope.n_size, by show 3 < 1000; omega, ?_⟩
      rw [e3, upd_upd]
      walk_at "rd"
      refine ⟨x, aRope, dx, _, rfl, upd_same, u_Rope.u.cl, u_Rope.n_height, by show 4 < 1000; omega, ?_⟩
      rw [e4, upd_upd]
      exact k
    · have up : ∀ {c dc : Addr} {fs gs : List (Str × V)}, c ≠ x → H c = some (.ins aRope dc fs) → (upd H x (.ins aRope dx gs)) c = some (.ins aRope dc fs) := fun n e => by rw [upd_ne n]; exact e
      walk_at "rd"
      refine ifDn (fun z => nomatch z) ?_
      have ha1 := up (gs := [(("piece" : Str), V.str pc), (("left" : Str), V.ref a), (("right" : Str), V.ref b)]) hax ha
      have hb1 := up (gs := [(("piece" : Str), V.str pc), (("left" : Str), V.ref a), (("right" : Str), V.ref b)]) hbx hb
      walk_at "rd"
      refine ⟨x, aRope, dx, _, rfl, upd_same, u_Rope.u.cl, u_Rope.n_size, by show 3 < 1000; omega, ?_⟩
      rw [e3, upd_upd]
      have ha2 := up (gs := [(("piece" : Str), V.str pc), (("left" : Str), V.ref a), (("right" : Str), V.ref b), (("size" : Str), V.int (s1 + s2))]) hax ha
      have hb2 := up (gs := [(("piece" : Str), V.str pc), (("left" : Str), V.ref a), (("right" : Str), V.ref b), (("size" : Str), V.int (s1 + s2))]) hbx hb
      walk_at "rd"
      refine ⟨x, aRope, dx, _, rfl, upd_same, u_Rope.u.cl, u_Rope.n_height, by show 4 < 1000; omega, ?_⟩
      rw [e4, upd_upd]
      exact k
theorem cal_empty_rope {f : Addr} {fd : FuncData} (T : Txt mg) (FD : C8.Def K mg "empty_rope" s_empty_rope f fd) (b : Binds K fd [] [])
    (c_Rope_init : C8.Mak P w K mg base 1 "Rope" aRope (sp_Rope_init aRope) []) : C8.Cal P w K mg base 3 "empty_rope" (sp_empty_rope aRope) [] := by
  refine C8.cal0 FD b .nil sc_empty_rope (fun vs H Q E h => ?_) (fun cdv A outer s H vs Q E hr h => ?_)
  · obtain ⟨rfl, _⟩ := h; rfl
  · obtain ⟨rfl, k⟩ := h
    refine ⟨_, (pss_one (ps_ret (pe_mkI (W := W_Rope aRope) c_Rope_init hr (by decide) (by rfl) (pa_cons pe_str (pa_cons pe_non (pa_cons pe_non pa_nil))) mk_Rope))), ?_⟩
    show (_ : TS) _ [] H
    walk_at "rd"
    refine mkLeaf (by decide +kernel) k
theorem step_rope_of_row {f : Addr} {fd : FuncData} (T : Txt mg) (FD : C8.Def K mg "rope_of_row" s_rope_of_row f fd) (b : Binds K fd ["pieces"] [])
    (c_Rope_init : C8.Mak P w K mg base 1 "Rope" aRope (sp_Rope_init aRope) []) {n : Nat} (c_rope_of_row : C8.Cal P w K mg base (2 + n) "rope_of_row" (sp_rope_of_row aRope n) []) : C8.Cal P w K mg base (2 + n + 1) "rope_of_row" (sp_rope_of_row aRope (n + 1)) [] := by
  refine C8.cal0 FD b .nil sc_rope_of_row (fun vs H Q E h => ?_) (fun cdv A outer s H vs Q E hr h => ?_)
  · obtain ⟨p, us, Rs, rfl, _⟩ := h; rfl
  · obtain ⟨p, us, Rs, rfl, hp, hR, h0, hb, hn, k⟩ := h
    refine ⟨_, (pss_cons (ps_if (pt_cmpR (op_eqK K (hu64 hr)) (pe_callB (call_lenK K) (by rfl) T.n_len PySem.boot_len (pa_cons (pv 0) pa_nil)) pe_int (nomark _)) (pss_one (ps_ret (pe_ix (ix_K K) (pv 0) pe_int (fun _ _ => rfl)))) pss_nil)
  (pss_cons (ps_set (i := 1) sc_rope_of_row.nd rfl (.inl rfl) (pe_op op_divU (pe_callB (call_lenK K) (by rfl) T.n_len PySem.boot_len (pa_cons (pv 0) pa_nil)) pe_int))
  (pss_one (ps_ret (pe_mkI (W := W_Rope aRope) c_Rope_init hr (by omega) (by rfl) (pa_cons pe_str (pa_cons (C8.pe_c c_rope_of_row hr (by omega) (by rfl) (pa_cons (pe_slice (sl_K K) (pv 0) po_none (po_some (pv 1))) pa_nil)) (pa_cons (C8.pe_c c_rope_of_row hr (by omega) (by rfl) (pa_cons (pe_slice (sl_K K) (pv 0) (po_some (pv 1)) po_none) pa_nil)) pa_nil))) mk_Rope))))), ?_⟩
    show (_ : TS) _ [some (.ref p), none] H
    have hul := Paired.len hR
    have hpos : 0 < Rs.length := List.length_pos_iff.mpr h0
    walk_at "rd"
    refine ifD (fun c => ?_) (fun c => ?_)
    · obtain ⟨R, rfl⟩ := List.length_eq_one_iff.mp (show Rs.length = 1 by omega)
      obtain ⟨v, rfl⟩ := List.length_eq_one_iff.mp (show us.length = 1 by rw [hul]; rfl)
      cases hR with
      | cons h1 _ =>
        obtain ⟨b1, b2⟩ := hb R (List.mem_singleton.mpr rfl)
        walk_at "rd"
        refine k v H R (Same.refl H) h1 b1 (by simp) ?_
        rw [b2]
        exact ⟨Nat.le_refl 1, Nat.lt_succ_self 1⟩
    · have hdiv : ((us.length : Int) / 2).toNat = Rs.length / 2 := by omega
      have hge : (0 : Int) ≤ (us.length : Int) / 2 := by omega
      have l1 : (Rs.take (Rs.length / 2)).length = Rs.length / 2 := by rw [List.length_take]; omega
      have l2 : (Rs.drop (Rs.length / 2)).length = Rs.length - Rs.length / 2 := by rw [List.length_drop]
      have hn2 : Rs.length ≤ 2 ^ n := by rw [Nat.pow_succ] at hn; omega
      have hn3 : 2 * (Rs.length - Rs.length / 2) ≤ 2 ^ n := by
        cases n with
        | zero => rw [Nat.pow_zero] at hn2; omega
        | succ m => rw [Nat.pow_succ] at hn2 ⊢; omega
      walk_at "rd"
      refine newO_gen fun q1 H1 f1 s1 h1 => ?_
      have hR1 := Paired.cut (Paired.imp (fun _ _ r => RopeAt.sm s1 r) hR) none (some ((us.length : Int) / 2))
      rw [cut_to hge, cut_to hge, hdiv] at hR1
      rw [cutV_cut, cut_to hge, hdiv] at h1
      walk_at "rd"
      refine use_row h1 hR1 (fun z => by rw [z] at l1; simp at l1; omega) (fun R m => hb R (List.mem_of_mem_take m)) (by rw [l1]; omega) fun v2 H2 R2 s2 r2 b2 t2 g2 => ?_
      have hp2 := s2 _ _ (s1 _ _ hp)
      walk_at "rd"
      refine newO_gen fun q3 H3 f3 s3 h3 => ?_
      have hR3 := Paired.cut (Paired.imp (fun _ _ r => RopeAt.sm (Same.trans s1 (Same.trans s2 s3)) r) hR) (some ((us.length : Int) / 2)) none
      rw [cut_from hge, cut_from hge, hdiv] at hR3
      rw [cutV_cut, cut_from hge, hdiv] at h3
      walk_at "rd"
      refine use_row h3 hR3 (fun z => by rw [z] at l2; simp at l2; omega) (fun R m => hb R (List.mem_of_mem_drop m)) (by rw [l2]; exact hn3) fun v4 H4 R4 s4 r4 b4 t4 g4 => ?_
      rw [l1] at g2
      rw [l2] at g4
      have p2 := (bal_pos b2).1
      have p4 := (bal_pos b4).1
      obtain ⟨j1, j2, j3⟩ := g2.join g4 (by omega) (by omega)
      walk_at "rd"
      refine mkNode (r2.sm (Same.trans s3 s4)) r4 fun v5 H5 s5 r5 => ?_
      refine k v5 H5 _ (Same.trans s1 (Same.trans s2 (Same.trans s3 (Same.trans s4 s5)))) r5 ⟨b2, b4, by omega, by omega⟩ ?_ ?_
      · show R2.txt ++ R4.txt = _
        rw [t2, t4, ← List.flatten_append, ← List.map_append, List.take_append_drop]
      · have e : (node R2 R4).ht - 1 = 1 + max (R2.ht - 1) (R4.ht - 1) := by
          show 1 + max R2.ht R4.ht - 1 = _
          omega
        rw [e, show Rs.length = Rs.length / 2 + (Rs.length - Rs.length / 2) by omega]
        exact j3
theorem cal_rope_of_row {f : Addr} {fd : FuncData} (T : Txt mg) (FD : C8.Def K mg "rope_of_row" s_rope_of_row f fd) (b : Binds K fd ["pieces"] [])
    (c_Rope_init : C8.Mak P w K mg base 1 "Rope" aRope (sp_Rope_init aRope) []) : C8.Cal P w K mg base 16 "rope_of_row" (sp_rope_of_row aRope 14) [] := by
  have key : ∀ n, C8.Cal P w K mg base (2 + n) "rope_of_row" (sp_rope_of_row aRope n) [] := fun n => by
    induction n with
    | zero => exact cal_none FD b .nil fun vs H Q E h => no_rope_of_row h
    | succ n ih => exact step_rope_of_row T FD b c_Rope_init ih
  exact key 14
end
end Z
namespace Z
open PySem PySem.Spec L2 ItX
open Rp
local macro_rules | `(tactic| walk_at "ne") => `(tactic| first
  | with_reducible assumption
  | with_reducible exact Ne.symm (by assumption)
  | exact Frs.ne (by with_reducible assumption) (by walk_at "hp")
  | exact Frs.ne' (by with_reducible assumption) (by walk_at "hp"))
local macro_rules | `(tactic| walk_at "hp") => `(tactic| first
  | with_reducible assumption
  | (with_reducible refine Same.at (by assumption) ?_; walk_at "hp")
  | (with_reducible refine SL.tup (by assumption) ?_; walk_at "hp")
  | (with_reducible refine SL.at (by assumption) (by walk_at "ne") ?_; walk_at "hp"))
local macro_rules | `(tactic| walk_at "sz") => `(tactic| first
  | with_reducible assumption
  | exact Nat.le_of_ble_eq_true rfl
  | (refine sz_le ?_; omega)
  | (refine sz_lt ?_; omega)
  | decide +kernel)
local macro_rules | `(tactic| walk_at "at") => `(tactic| first
  | with_reducible assumption
  | with_reducible exact at0
  | with_reducible exact at1
  | with_reducible exact at2
  | with_reducible exact ixN0)
local macro_rules | `(tactic| walk_at "nn") => `(tactic| first
  | omega
  | decide
  | exact ⟨by decide, by decide⟩
  | exact ⟨by omega, by omega⟩
  | exact ⟨by omega, by omega, by omega, by omega⟩)
local macro_rules | `(tactic| walk_at "rdv") => `(tactic| first
  | (with_reducible refine add_int ?_)
  | (with_reducible refine sub_int ?_)
  | (with_reducible refine neg_int ?_)
  | ((with_reducible refine ix_tpl (xs := ?xs) (v := ?v) ?h1 ?h2 ?_); (case h1 => walk_at "hp"); (case h2 => walk_at "at"))
  | ((with_reducible refine ix_lst (xs := ?xs) (v := ?v) ?h1 ?h2 ?_); (case h1 => walk_at "hp"); (case h2 => walk_at "at"))
  | (with_reducible refine eq_int ?_)
  | (with_reducible refine ne_int ?_)
  | (with_reducible refine lt_int ?_)
  | (with_reducible refine le_int ?_)
  | (with_reducible refine gt_int ?_)
  | (with_reducible refine ge_int ?_)
  | (with_reducible refine eq_str ?_)
  | (with_reducible refine ne_str ?_)
  | (with_reducible refine eq_bl ?_)
  | (with_reducible refine ne_bl ?_)
  | ((with_reducible refine mod_int ?hc ?_); (case hc => walk_at "nn"))
  | ((with_reducible refine div_int ?hc ?_); (case hc => walk_at "nn"))
  | ((with_reducible refine mul_intR ?hc ?_); (case hc => exact ⟨by decide, by decide⟩))
  | ((with_reducible refine mul_intR ?hc ?_); (case hc => exact ⟨by omega, by omega⟩))
  | ((with_reducible refine mul_intL ?hc ?_); (case hc => exact ⟨by omega, by omega⟩))
  | ((with_reducible refine pow_int ?hc ?_); (case hc => exact ⟨by decide, by decide, by decide⟩))
  | ((with_reducible refine add_str ?hc ?_); (case hc => walk_at "sz"))
  | ((with_reducible refine add_lst (xs := ?xs) (ys := ?ys) ?h1 ?h2 ?hc ?_); (case h1 => walk_at "hp"); (case h2 => walk_at "hp"); (case hc => walk_at "sz"))
  | ((with_reducible refine sl_strU ?hc ?_); (case hc => walk_at "sz"))
  | ((with_reducible refine sl_lst (xs := ?xs) ?h1 ?_); (case h1 => walk_at "hp"))
  | (with_reducible refine is_bl ?_)
  | (with_reducible refine isnt_bl ?_)
  | (with_reducible refine is_non ?_)
  | (with_reducible refine isnt_non ?_))
local macro_rules | `(tactic| walk_at "rdc") => `(tactic| first
  | ((with_reducible refine len_lst (xs := ?xs) ?h1 ?_); (case h1 => walk_at "hp"))
  | ((with_reducible refine len_tup (xs := ?xs) ?h1 ?_); (case h1 => walk_at "hp"))
  | ((with_reducible refine len_str ?hc ?_); (case hc => walk_at "sz"))
  | (with_reducible refine int_int ?_)
  | (with_reducible refine max_int ?_)
  | (with_reducible refine min_int ?_)
  | (with_reducible refine abs_int ?_)
  | (with_reducible refine isi_ii ?_)
  | (with_reducible refine isi_ib ?_)
  | (with_reducible refine isi_ss ?_)
  | (with_reducible refine isi_bb ?_)
  | ((with_reducible refine isi_tt (xs := ?xs) ?h1 ?_); (case h1 => walk_at "hp"))
  | ((with_reducible refine isi_ll (xs := ?xs) ?h1 ?_); (case h1 => walk_at "hp"))
  | ((with_reducible refine list_lst (xs := ?xs) ?h1 ?_); (case h1 => walk_at "hp"))
  | ((with_reducible refine list_tup (xs := ?xs) ?h1 ?_); (case h1 => walk_at "hp"))
  | ((with_reducible refine tuple_lst (xs := ?xs) ?h1 ?_); (case h1 => walk_at "hp"))
  | ((with_reducible refine tuple_tup (xs := ?xs) ?h1 ?_); (case h1 => walk_at "hp"))
  | ((with_reducible refine append_lst (xs := ?xs) ?h1 ?hc ?_); (case h1 => walk_at "hp"); (case hc => walk_at "sz"))
  | ((with_reducible refine clear_lst (xs := ?xs) ?h1 ?_); (case h1 => walk_at "hp"))
  | ((with_reducible refine set_lst (xs := ?xs) (k := ?k) ?h1 ?h2 ?_); (case h1 => walk_at "hp"); (case h2 => walk_at "at")))
local macro_rules | `(tactic| walk_at "rd1") => `(tactic| first
  | ((with_reducible refine rVar (v := ?v) ?h ?_); (case h => exact rfl))
  | (with_reducible refine rC ?_)
  | (with_reducible refine rCons ?_)
  | (with_reducible refine rNil ?_)
  | (with_reducible refine rOp ?_)
  | (with_reducible refine rSeq ?_)
  | (with_reducible refine rAsgN ?_)
  | (with_reducible refine rAsgT ?_)
  | (with_reducible refine rAsgS ?_)
  | (with_reducible refine rTest ?_)
  | (with_reducible refine rBl ?_)
  | (with_reducible refine rBl' ?_)
  | (with_reducible refine rInt ?_)
  | (with_reducible refine rInt' ?_)
  | (with_reducible refine rCall ?_)
  | (with_reducible refine rCB ?_)
  | (with_reducible refine rRet ?_)
  | (with_reducible refine rDrop ?_)
  | (with_reducible refine rIfS ?_)
  | (with_reducible refine rTup ?_)
  | (with_reducible refine rLst ?_)
  | (with_reducible refine ⟨Nat.le_of_ble_eq_true rfl, ?_⟩)
  | (with_reducible refine rSl ?_)
  | (with_reducible refine rPart ?_)
  | (with_reducible refine rNoPart ?_)
  | (with_reducible refine rBM ?_)
  | (with_reducible refine rBM0 ?_)
  | ((with_reducible refine tyL (xs := ?xs) ?h1 ?_); (case h1 => walk_at "hp"))
  | (with_reducible refine rM1 ?_)
  | (with_reducible refine rM0 ?_)
  | (with_reducible refine rStr ?_)
  | (with_reducible refine rTru ?_)
  | (with_reducible refine tru_bl ?_)
  | (with_reducible refine tru_int ?_)
  | ((with_reducible refine tru_lst (xs := ?xs) ?h1 ?_); (case h1 => walk_at "hp"))
  | ((with_reducible refine tru_tup (xs := ?xs) ?h1 ?_); (case h1 => walk_at "hp"))
  | ((with_reducible refine tru_str ?hc ?_); (case hc => walk_at "sz"))
  | (with_reducible refine rAnd ?_)
  | (with_reducible refine rOr ?_)
  | (with_reducible refine rNot ?_)
  | (with_reducible refine rAndV ?_)
  | (with_reducible refine rOrV ?_)
  | (with_reducible refine rNotV ?_)
  | (with_reducible refine rIfE ?_)
  | (with_reducible refine rChain ?_)
  | (with_reducible refine rChain3 ?_)
  | (with_reducible refine ifT ?_)
  | (with_reducible refine ifF ?_)
  | (with_reducible refine ifNF ?_)
  | (with_reducible refine ifNT ?_)
  | (with_reducible refine rNext ?_)
  | (with_reducible refine rBrk ?_)
  | (with_reducible refine rCnt ?_)
  | (with_reducible refine rRetN ?_)
  | (with_reducible refine rForR1 ?_)
  | (with_reducible refine rForR2 ?_)
  | (with_reducible refine rForL ?_)
  | ((with_reducible refine rRg1 ?hb ?_); (case hb => walk_at "nn"))
  | ((with_reducible refine rRg2 ?hb ?_); (case hb => walk_at "nn"))
  | ((with_reducible refine rRf (xs := ?xs) ?h1 ?_); (case h1 => walk_at "hp"))
  | (with_reducible refine rLcR1 ?_)
  | (with_reducible refine rLcR2 ?_)
  | (with_reducible refine rLcL ?_)
  | (with_reducible refine gN ?_)
  | (with_reducible refine gNl ?_)
  | (with_reducible refine gC ?_)
  | ((with_reducible refine gT (xs := ?xs) ?h1 ?h2 ?_); (case h1 => walk_at "hp"); (case h2 => exact rfl))
  | (with_reducible refine rUn ?_)
  | walk_at "rdv"
  | walk_at "rdc")
local macro_rules | `(tactic| walk_at "rd") => `(tactic| repeat walk_at "rd1")

local macro_rules | `(tactic| walk_at "rd1") => `(tactic| first
  | (with_reducible refine rCallS ?_)
  | (with_reducible refine rRaise ?_)
  | (with_reducible refine rXf ?_)
  | (with_reducible refine rXi ?_)
  | (with_reducible refine rOst ?_)
  | (with_reducible refine rRevL ?_)
  | ((with_reducible refine revL_end (xs := ?xs) ?h1 ?_); (case h1 => walk_at "hp")))

local macro_rules | `(tactic| walk_at "rd1") => `(tactic| first
  | (with_reducible refine rForR3 ?_)
  | ((with_reducible refine rRgD ?hb ?_); (case hb => walk_at "nn"))
  | (with_reducible refine gS ?_))

local macro_rules | `(tactic| walk_at "rd1") => `(tactic| first
  | (with_reducible refine rFld ?_)
  | (with_reducible refine rSFld ?_)
  | (with_reducible refine rMake ?_)
  | (with_reducible refine rMeth ?_)
  | (with_reducible refine rForT ?_)
  | (with_reducible refine rLcT ?_)
  | (with_reducible refine rLcO ?_)
  | (with_reducible refine rForO ?_)
  | (with_reducible refine rLstY ?_)
  | ((with_reducible refine rRt (xs := ?xs) ?h1 ?_); (case h1 => walk_at "hp"))
  | ((with_reducible refine listY_lst (xs := ?xs) ?h1 ?_); (case h1 => walk_at "hp"))
  | ((with_reducible refine listY_tup (xs := ?xs) ?h1 ?_); (case h1 => walk_at "hp")))

local macro_rules | `(tactic| walk_at "rd1") => `(tactic| first
  | (with_reducible refine rLcR3 ?_)
  | (with_reducible refine rMethT ?_)
  | (with_reducible refine rMkW ?_)
  | ((with_reducible refine fR_piece (mg := ?mg) (C := ?C) (dx := ?dx) (pc := ?pc) (l := ?l) (r := ?r) (s := ?s) (h := ?h) ?hu ?hp ?_); (case hu => with_reducible assumption); (case hp => walk_at "hp"))
  | ((with_reducible refine fR_left (mg := ?mg) (C := ?C) (dx := ?dx) (pc := ?pc) (l := ?l) (r := ?r) (s := ?s) (h := ?h) ?hu ?hp ?_); (case hu => with_reducible assumption); (case hp => walk_at "hp"))
  | ((with_reducible refine fR_right (mg := ?mg) (C := ?C) (dx := ?dx) (pc := ?pc) (l := ?l) (r := ?r) (s := ?s) (h := ?h) ?hu ?hp ?_); (case hu => with_reducible assumption); (case hp => walk_at "hp"))
  | ((with_reducible refine fR_size (mg := ?mg) (C := ?C) (dx := ?dx) (pc := ?pc) (l := ?l) (r := ?r) (s := ?s) (h := ?h) ?hu ?hp ?_); (case hu => with_reducible assumption); (case hp => walk_at "hp"))
  | ((with_reducible refine fR_height (mg := ?mg) (C := ?C) (dx := ?dx) (pc := ?pc) (l := ?l) (r := ?r) (s := ?s) (h := ?h) ?hu ?hp ?_); (case hu => with_reducible assumption); (case hp => walk_at "hp")))
local macro_rules | `(tactic| walk_at "rd1") => `(tactic| first
  | (with_reducible refine rMeth ?_)
  | ((with_reducible refine meth_end (C := ?C) (dx := ?dx) (fs := ?fs) ?hp ?hl ?_); (case hp => walk_at "hp"); (case hl => exact ropF_no (by decide +kernel) (by decide +kernel) (by decide +kernel) (by decide +kernel) (by decide +kernel))))

/-- the k-th piece of a text -/
def pieceS (t : Str) (k : Nat) : Str := cutS t (some (0 + (k : Int) * 16)) (some (0 + (k : Int) * 16 + 16))
theorem tl_piece (t : Str) (k : Nat) : TL.tl (pieceS t k) = ((TL.tl t).take (16 * k + 16)).drop (16 * k) := by
  unfold pieceS
  rw [tl_cutS, cut_mid (by omega) (by omega)]
  have e1 : (0 + (k : Int) * 16).toNat = 16 * k := by omega
  have e2 : (0 + (k : Int) * 16 + 16).toNat = 16 * k + 16 := by omega
  rw [e1, e2]
theorem pieces_txt (t : Str) : ∀ k : Nat, (((List.range k).map fun i => leaf (pieceS t i)).map Rp.txt).flatten = (TL.tl t).take (16 * k)
  | 0 => by simp
  | k + 1 => by
    rw [List.range_succ, List.map_append, List.map_append, List.flatten_append, pieces_txt t k]
    show _ ++ ([TL.tl (pieceS t k)]).flatten = _
    rw [tl_piece]
    have e : (TL.tl t).take (16 * (k + 1)) = ((TL.tl t).take (16 * k + 16)).take (16 * k) ++ ((TL.tl t).take (16 * k + 16)).drop (16 * k) := by rw [List.take_append_drop]; rfl
    rw [e, List.take_take, Nat.min_eq_left (by omega)]
    simp
theorem piece_len {t : Str} {k : Nat} (h : k < (t.length + 15) / 16) : 0 < (pieceS t k).length ∧ (pieceS t k).length ≤ 16 := by
  have e := tl_piece t k
  have l := congrArg List.length e
  rw [← TL.len_tl, List.length_drop, List.length_take, ← TL.len_tl] at l
  omega
section
variable {P : Program} {w : World} {K : PySem.W.Frag} {mg : Str → Option Value} {base : Heap} {aE aRope : Addr}
theorem stat_Rope_of {p_ : Addr} {mc : Value} {f : Addr} {fd : FuncData} (T : Txt mg) (FU : C8.Fun K "of" "Rope.of" s_Rope_of f fd) (b : Binds K fd ["text"] []) (hm : mg "Rope" = some (.ref aRope)) (rd : ClX.CRead K aRope mc) (at_ : PySem.W.findCls K (.ref aRope) mc "of" = some (.get (.builtin "staticmethod.__get__") (.ref p_) .none (.ref aRope))) (rc : ∃ rest, PySem.W.recIn K p_ "staticmethod" = some (.ref f :: rest)) (kp : PySem.W.keepIn K (.ref f) = true)
    (c_rope_of_row : C8.Cal P w K mg base 16 "rope_of_row" (sp_rope_of_row aRope 14) [])
    (c_empty_rope : C8.Cal P w K mg base 3 "empty_rope" (sp_empty_rope aRope) [])
    (c_Rope_init : C8.Mak P w K mg base 1 "Rope" aRope (sp_Rope_init aRope) []) : Stat P w K mg base 17 "Rope" "of" (sp_Rope_of aRope) := by
  refine ⟨_, _, f, _, fd, _, hm, rd, at_, rc, kp, C8.fn0 FU sc_Rope_of (fun vs H Q E h => ?_) (fun cdv A outer s H vs Q E hr h => ?_), b⟩
  · obtain ⟨t, rfl, _⟩ := h; rfl
  · obtain ⟨t, rfl, hl, k⟩ := h
    refine ⟨_, (pss_cons (ps_setLc (i := 1) (own := [("at", 2)]) rfl sc_Rope_of.nd rfl rfl (sw_true rfl rfl rfl (by decide +kernel)) (pi_range3 rfl T.n_range (pa_cons pe_int (pa_cons (pe_callB (call_lenK K) (by rfl) T.n_len PySem.boot_len (pa_cons (pv 0) pa_nil)) (pa_cons (pe_gi (by rfl) T.c_PIECE_SIZE) pa_nil)))) (blkOk_by (own := [("at", 2)]) (N := ["text", "pieces", "at"]) (sc := C8.fnScope s_Rope_of) (by decide +kernel)) (fun _ _ _ _ _ => (pg_name (i := 2) sc_Rope_of.nd rfl (.inl rfl))) (fun _ _ _ _ _ => pts_nil) (fun _ _ _ _ _ => (pe_mkI (W := W_Rope aRope) c_Rope_init hr (by decide) (by rfl) (pa_cons (pe_slice (sl_K K) (pv 0) (po_some (pv 2)) (po_some (pe_op (op_addK K) (pv 2) (pe_gi (by rfl) T.c_PIECE_SIZE)))) (pa_cons pe_non (pa_cons pe_non pa_nil))) mk_Rope)))
  (pss_cons (ps_if (pt_not (pt_truK K (pv 1) (by intro _; rfl))) (pss_one (ps_ret (pe_c0 c_empty_rope hr (by decide) (by rfl)))) pss_nil)
  (pss_one (ps_ret (C8.pe_c c_rope_of_row hr (by decide) (by rfl) (pa_cons (pv 1) pa_nil)))))), ?_⟩
    show (_ : TS) _ [some (.str t), none, none] H
    walk_at "rd"
    refine rg16 (by omega) ?_
    refine compC_pure (fun acc H' => Paired (RopeAt aRope H') acc ((List.range acc.length).map fun i => leaf (pieceS t i))) (fun _ _ => .nil) (fun acc H2 D ci pa => ?_) fun acc H2 D hacc pa s2 hD fD => ?_
    · have hlt := ci.lt
      have hpl := piece_len hlt
      walk_at "rd"
      refine mkLeaf (pc := pieceS t acc.length) (by omega) fun v H3 s3 r3 => ?_
      refine pD_of ci (by omega) s3 fun H5 s5 => ?_
      rw [List.length_append]
      show Paired _ _ ((List.range (acc.length + 1)).map _)
      rw [List.range_succ, List.map_append]
      exact Paired.snoc (Paired.imp (fun _ _ r => (r.sm s3).kp (KpS.sl s5)) pa) (r3.kp (KpS.sl s5))
    · rw [hacc] at pa
      walk_at "rd"
      refine ifB (fun c => ?_) (fun c => ?_)
      · have h0 : t.length = 0 := by
          have : acc = [] := by cases acc with
            | nil => rfl
            | cons a l => simp at c
          rw [this, List.length_nil] at hacc
          omega
        walk_at "rd"
        refine use_empty fun v H3 s3 r3 => ?_
        refine k v H3 _ (Same.trans s2 s3) r3 (.inr ⟨"", rfl, by decide +kernel⟩) ?_
        have e : TL.tl t = [] := List.length_eq_zero_iff.mp (by rw [← TL.len_tl]; exact h0)
        rw [e]
        decide +kernel
      · have h0 : acc ≠ [] := fun z => by rw [z] at c; simp at c
        have hpos : 0 < acc.length := List.length_pos_iff.mpr h0
        have hrl : ((List.range ((t.length + 15) / 16)).map fun i => leaf (pieceS t i)).length = (t.length + 15) / 16 := by rw [List.length_map, List.length_range]
        walk_at "rd"
        refine use_row hD pa (fun z => by rw [z] at hrl; simp at hrl; omega) (fun R hR => ?_) (by rw [hrl]; show _ ≤ 16384; omega) fun v H3 R s3 r3 b3 t3 _ => ?_
        · obtain ⟨i, hi, rfl⟩ := List.mem_map.mp hR
          have hpl := piece_len (List.mem_range.mp hi)
          exact ⟨hpl, leaf_ht hpl.1⟩
        · refine k v H3 R (Same.trans s2 s3) r3 (.inl b3) ?_
          rw [t3, pieces_txt, List.take_of_length_le]
          rw [← TL.len_tl]
          omega
theorem cal_balanced_rope {f : Addr} {fd : FuncData} (T : Txt mg) (FD : C8.Def K mg "balanced_rope" s_balanced_rope f fd) (b : Binds K fd ["left", "right"] [])
    (c_Rope_init : C8.Mak P w K mg base 1 "Rope" aRope (sp_Rope_init aRope) [])
    (u_Rope : F_Rope K mg aRope) : C8.Cal P w K mg base 3 "balanced_rope" (sp_balanced_rope aRope) [] := by
  refine C8.cal0 FD b .nil sc_balanced_rope (fun vs H Q E h => ?_) (fun cdv A outer s H vs Q E hr h => ?_)
  · obtain ⟨v, u, L, R, rfl, _⟩ := h; rfl
  · obtain ⟨v, u, L, R, rfl, hL, hR, bL, bR, k⟩ := h
    refine ⟨_, (pss_cons (ps_if (pt_cmpR (op_eqK K (hu64 hr)) (pe_fldK (K := K) (pv 1) rfl) (pe_op (op_addK K) (pe_fldK (K := K) (pv 0) rfl) pe_int) (nomark _)) (pss_cons (ps_set (i := 2) sc_balanced_rope.nd rfl (.inl rfl) (pe_fldK (K := K) (pv 1) rfl))
  (pss_cons (ps_if (pt_cmpR op_leU (pe_fldK (K := K) (pv 2) rfl) (pe_fldK (K := K) (pe_fldK (K := K) (pv 1) rfl) rfl) (nomark _)) (pss_one (ps_ret (pe_mkI (W := W_Rope aRope) c_Rope_init hr (by decide) (by rfl) (pa_cons pe_str (pa_cons (pe_mkI (W := W_Rope aRope) c_Rope_init hr (by decide) (by rfl) (pa_cons pe_str (pa_cons (pv 0) (pa_cons (pv 2) pa_nil))) mk_Rope) (pa_cons (pe_fldK (K := K) (pv 1) rfl) pa_nil))) mk_Rope))) pss_nil)
  (pss_one (ps_ret (pe_mkI (W := W_Rope aRope) c_Rope_init hr (by decide) (by rfl) (pa_cons pe_str (pa_cons (pe_mkI (W := W_Rope aRope) c_Rope_init hr (by decide) (by rfl) (pa_cons pe_str (pa_cons (pv 0) (pa_cons (pe_fldK (K := K) (pv 2) rfl) pa_nil))) mk_Rope) (pa_cons (pe_mkI (W := W_Rope aRope) c_Rope_init hr (by decide) (by rfl) (pa_cons pe_str (pa_cons (pe_fldK (K := K) (pv 2) rfl) (pa_cons (pe_fldK (K := K) (pv 1) rfl) pa_nil))) mk_Rope) pa_nil))) mk_Rope))))) pss_nil)
  (pss_cons (ps_if (pt_cmpR (op_eqK K (hu64 hr)) (pe_fldK (K := K) (pv 0) rfl) (pe_op (op_addK K) (pe_fldK (K := K) (pv 1) rfl) pe_int) (nomark _)) (pss_cons (ps_set (i := 2) sc_balanced_rope.nd rfl (.inl rfl) (pe_fldK (K := K) (pv 0) rfl))
  (pss_cons (ps_if (pt_cmpR op_leU (pe_fldK (K := K) (pv 2) rfl) (pe_fldK (K := K) (pe_fldK (K := K) (pv 0) rfl) rfl) (nomark _)) (pss_one (ps_ret (pe_mkI (W := W_Rope aRope) c_Rope_init hr (by decide) (by rfl) (pa_cons pe_str (pa_cons (pe_fldK (K := K) (pv 0) rfl) (pa_cons (pe_mkI (W := W_Rope aRope) c_Rope_init hr (by decide) (by rfl) (pa_cons pe_str (pa_cons (pv 2) (pa_cons (pv 1) pa_nil))) mk_Rope) pa_nil))) mk_Rope))) pss_nil)
  (pss_one (ps_ret (pe_mkI (W := W_Rope aRope) c_Rope_init hr (by decide) (by rfl) (pa_cons pe_str (pa_cons (pe_mkI (W := W_Rope aRope) c_Rope_init hr (by decide) (by rfl) (pa_cons pe_str (pa_cons (pe_fldK (K := K) (pv 0) rfl) (pa_cons (pe_fldK (K := K) (pv 2) rfl) pa_nil))) mk_Rope) (pa_cons (pe_mkI (W := W_Rope aRope) c_Rope_init hr (by decide) (by rfl) (pa_cons pe_str (pa_cons (pe_fldK (K := K) (pv 2) rfl) (pa_cons (pv 1) pa_nil))) mk_Rope) pa_nil))) mk_Rope))))) pss_nil)
  (pss_one (ps_ret (pe_mkI (W := W_Rope aRope) c_Rope_init hr (by decide) (by rfl) (pa_cons pe_str (pa_cons (pv 0) (pa_cons (pv 1) pa_nil))) mk_Rope))))), ?_⟩
    obtain ⟨p, dx, pc, l, r, rfl, hp⟩ := hL.obj
    obtain ⟨q, dy, qc, l', r', rfl, hq⟩ := hR.obj
    show (_ : TS) _ [some (.ref p), some (.ref q), none] H
    have pl := bal_pos bL
    have pr := bal_pos bR
    walk_at "rd"
    refine ifD (fun c => ?_) (fun c => ?_)
    · obtain ⟨m, rr, rfl⟩ := bal_node bR (by omega)
      obtain ⟨bm, brr, g1, g2⟩ := bR
      clear hq
      obtain ⟨dy', am, arr, hq, hm, hrr⟩ := hR.nd
      unfold balR at k
      rw [if_pos (by omega)] at k
      dsimp only at k
      obtain ⟨pm, dm, mc, ml, mr, rfl, hpm⟩ := hm.obj
      obtain ⟨prr, drr, rc, rl, rr', rfl, hprr⟩ := hrr.obj
      have eR : (node m rr).ht = 1 + max m.ht rr.ht := rfl
      walk_at "rd"
      refine ifD (fun c2 => ?_) (fun c2 => ?_)
      · rw [if_pos (by omega)] at k
        walk_at "rd"
        refine mkNode hL hm fun v1 H1 s1 r1 => ?_
        walk_at "rd"
        refine mkNode r1 (hrr.sm s1) fun v2 H2 s2 r2 => ?_
        exact k v2 H2 (Same.trans s1 s2) r2
      · rw [if_neg (by omega)] at k
        have pm1 := bal_pos brr
        obtain ⟨ml', mr', rfl⟩ := bal_node bm (by omega)
        clear hpm
        obtain ⟨dm', aml, amr, hpm, hml, hmr⟩ := hm.nd
        dsimp only at k
        walk_at "rd"
        refine mkNode hL hml fun v1 H1 s1 r1 => ?_
        walk_at "rd"
        refine mkNode (hmr.sm s1) (hrr.sm s1) fun v2 H2 s2 r2 => ?_
        walk_at "rd"
        refine mkNode (r1.sm s2) r2 fun v3 H3 s3 r3 => ?_
        exact k v3 H3 (Same.trans s1 (Same.trans s2 s3)) r3
    · walk_at "rd"
      refine ifD (fun c1 => ?_) (fun c1 => ?_)
      · obtain ⟨ll, m, rfl⟩ := bal_node bL (by omega)
        obtain ⟨bll, bm, g1, g2⟩ := bL
        clear hp
        obtain ⟨dy', all_, am, hp, hll, hm⟩ := hL.nd
        unfold balR at k
        rw [if_neg (by omega), if_pos (by omega)] at k
        dsimp only at k
        obtain ⟨pm, dm, mc, ml, mr, rfl, hpm⟩ := hm.obj
        obtain ⟨pll, dll, lc, ll1, ll2, rfl, hpll⟩ := hll.obj
        have eL : (node ll m).ht = 1 + max ll.ht m.ht := rfl
        walk_at "rd"
        refine ifD (fun c2 => ?_) (fun c2 => ?_)
        · rw [if_pos (by omega)] at k
          walk_at "rd"
          refine mkNode hm hR fun v1 H1 s1 r1 => ?_
          walk_at "rd"
          refine mkNode (hll.sm s1) r1 fun v2 H2 s2 r2 => ?_
          exact k v2 H2 (Same.trans s1 s2) r2
        · rw [if_neg (by omega)] at k
          have pm1 := bal_pos bll
          obtain ⟨ml', mr', rfl⟩ := bal_node bm (by omega)
          clear hpm
          obtain ⟨dm', aml, amr, hpm, hml, hmr⟩ := hm.nd
          dsimp only at k
          walk_at "rd"
          refine mkNode hll hml fun v1 H1 s1 r1 => ?_
          walk_at "rd"
          refine mkNode (hmr.sm s1) (hR.sm s1) fun v2 H2 s2 r2 => ?_
          walk_at "rd"
          refine mkNode (r1.sm s2) r2 fun v3 H3 s3 r3 => ?_
          exact k v3 H3 (Same.trans s1 (Same.trans s2 s3)) r3
      · unfold balR at k
        rw [if_neg (by omega), if_neg (by omega)] at k
        walk_at "rd"
        exact mkNode hL hR k
theorem step_join_ropes {f : Addr} {fd : FuncData} (T : Txt mg) (FD : C8.Def K mg "join_ropes" s_join_ropes f fd) (b : Binds K fd ["left", "right"] [])
    (c_balanced_rope : C8.Cal P w K mg base 3 "balanced_rope" (sp_balanced_rope aRope) [])
    (c_Rope_init : C8.Mak P w K mg base 1 "Rope" aRope (sp_Rope_init aRope) [])
    (u_Rope : F_Rope K mg aRope) {n : Nat} (c_join_ropes : C8.Cal P w K mg base (3 + n) "join_ropes" (sp_join_ropes aRope n) []) : C8.Cal P w K mg base (3 + n + 1) "join_ropes" (sp_join_ropes aRope (n + 1)) [] := by
  refine C8.cal0 FD b .nil sc_join_ropes (fun vs H Q E h => ?_) (fun cdv A outer s H vs Q E hr h => ?_)
  · obtain ⟨v, u, L, R, rfl, _⟩ := h; rfl
  · obtain ⟨v, u, L, R, rfl, hL, hR, oL, oR, n1, n2, k⟩ := h
    refine ⟨_, (pss_cons (ps_if (pt_cmpR (op_eqK K (hu64 hr)) (pe_fldK (K := K) (pv 0) rfl) pe_int (nomark _)) (pss_one (ps_ret (pv 1))) pss_nil)
  (pss_cons (ps_if (pt_cmpR (op_eqK K (hu64 hr)) (pe_fldK (K := K) (pv 1) rfl) pe_int (nomark _)) (pss_one (ps_ret (pv 0))) pss_nil)
  (pss_cons (ps_if (pt_cmpR op_gtU (pe_fldK (K := K) (pv 0) rfl) (pe_op (op_addK K) (pe_fldK (K := K) (pv 1) rfl) pe_int) (nomark _)) (pss_one (ps_ret (C8.pe_c c_balanced_rope hr (by omega) (by rfl) (pa_cons (pe_fldK (K := K) (pv 0) rfl) (pa_cons (C8.pe_c c_join_ropes hr (by omega) (by rfl) (pa_cons (pe_fldK (K := K) (pv 0) rfl) (pa_cons (pv 1) pa_nil))) pa_nil))))) pss_nil)
  (pss_cons (ps_if (pt_cmpR op_gtU (pe_fldK (K := K) (pv 1) rfl) (pe_op (op_addK K) (pe_fldK (K := K) (pv 0) rfl) pe_int) (nomark _)) (pss_one (ps_ret (C8.pe_c c_balanced_rope hr (by omega) (by rfl) (pa_cons (C8.pe_c c_join_ropes hr (by omega) (by rfl) (pa_cons (pv 0) (pa_cons (pe_fldK (K := K) (pv 1) rfl) pa_nil))) (pa_cons (pe_fldK (K := K) (pv 1) rfl) pa_nil))))) pss_nil)
  (pss_one (ps_ret (pe_mkI (W := W_Rope aRope) c_Rope_init hr (by omega) (by rfl) (pa_cons pe_str (pa_cons (pv 0) (pa_cons (pv 1) pa_nil))) mk_Rope))))))), ?_⟩
    obtain ⟨p, dx, pc, l, r, rfl, hp⟩ := hL.obj
    obtain ⟨q, dy, qc, l', r', rfl, hq⟩ := hR.obj
    show (_ : TS) _ [some (.ref p), some (.ref q)] H
    walk_at "rd"
    refine ifD (fun c => ?_) (fun c => ?_)
    · have z := oL.nil (by omega)
      walk_at "rd"
      exact k _ H R (Same.refl H) hR oR (by rw [z.1]; rfl) fun b _ => by have := bal_pos b; omega
    walk_at "rd"
    refine ifD (fun c2 => ?_) (fun c2 => ?_)
    · have z := oR.nil (by omega)
      walk_at "rd"
      exact k _ H L (Same.refl H) hL oL (by rw [z.1, List.append_nil]) fun _ b => by have := bal_pos b; omega
    have bL := oL.bal (by omega)
    have bR := oR.bal (by omega)
    have pl := bal_pos bL
    have pr := bal_pos bR
    walk_at "rd"
    refine ifD (fun c3 => ?_) (fun c3 => ?_)
    · obtain ⟨ll, lr, rfl⟩ := bal_node bL (by omega)
      clear hp
      obtain ⟨dx', al, ar, hp, hll, hlr⟩ := hL.nd
      have eL : (node ll lr).ht = 1 + max ll.ht lr.ht := rfl
      have bL' := bL
      obtain ⟨bll, blr, g1, g2⟩ := bL'
      walk_at "rd"
      refine use_joinN hlr hR (.inl blr) (.inl bR) (by omega) (by omega) fun x H1 J s1 r1 _ _ j1 => ?_
      obtain ⟨e1, e2, jn⟩ := Jn.left bL bR (by omega) (j1 blr bR)
      walk_at "rd"
      refine use_balanced (hll.sm s1) r1 bll (j1 blr bR).bal fun y H2 s2 r2 => ?_
      exact k y H2 _ (Same.trans s1 s2) r2 (.inl jn.bal) jn.txt fun _ _ => jn
    walk_at "rd"
    refine ifD (fun c4 => ?_) (fun c4 => ?_)
    · obtain ⟨rl, rr, rfl⟩ := bal_node bR (by omega)
      clear hq
      obtain ⟨dx', al, ar, hq, hrl, hrr⟩ := hR.nd
      have eR : (node rl rr).ht = 1 + max rl.ht rr.ht := rfl
      have bR' := bR
      obtain ⟨brl, brr, g1, g2⟩ := bR'
      walk_at "rd"
      refine use_joinN hL hrl (.inl bL) (.inl brl) (by omega) (by omega) fun x H1 J s1 r1 _ _ j1 => ?_
      obtain ⟨e1, e2, jn⟩ := Jn.right bL bR (by omega) (j1 bL brl)
      have hq1 := s1 _ _ hq
      walk_at "rd"
      refine use_balanced r1 (hrr.sm s1) (j1 bL brl).bal brr fun y H2 s2 r2 => ?_
      exact k y H2 _ (Same.trans s1 s2) r2 (.inl jn.bal) jn.txt fun _ _ => jn
    have jn := Jn.node bL bR (by omega) (by omega)
    walk_at "rd"
    refine mkNode hL hR fun y H2 s2 r2 => ?_
    exact k y H2 _ s2 r2 (.inl jn.bal) jn.txt fun _ _ => jn
theorem cal_join_ropes {f : Addr} {fd : FuncData} (T : Txt mg) (FD : C8.Def K mg "join_ropes" s_join_ropes f fd) (b : Binds K fd ["left", "right"] [])
    (c_balanced_rope : C8.Cal P w K mg base 3 "balanced_rope" (sp_balanced_rope aRope) [])
    (c_Rope_init : C8.Mak P w K mg base 1 "Rope" aRope (sp_Rope_init aRope) [])
    (u_Rope : F_Rope K mg aRope) : C8.Cal P w K mg base 30 "join_ropes" (sp_join_ropes aRope 27) [] := by
  have key : ∀ n, C8.Cal P w K mg base (3 + n) "join_ropes" (sp_join_ropes aRope n) [] := fun n => by
    induction n with
    | zero => exact cal_none FD b .nil fun vs H Q E h => no_join_ropes h
    | succ n ih => exact step_join_ropes T FD b c_balanced_rope c_Rope_init u_Rope ih
  exact key 27
theorem step_cut_rope {f : Addr} {fd : FuncData} (T : Txt mg) (FD : C8.Def K mg "cut_rope" s_cut_rope f fd) (b : Binds K fd ["rope", "start", "end"] [])
    (c_join_ropes : C8.Cal P w K mg base 30 "join_ropes" (sp_join_ropes aRope 27) [])
    (c_empty_rope : C8.Cal P w K mg base 3 "empty_rope" (sp_empty_rope aRope) [])
    (c_Rope_init : C8.Mak P w K mg base 1 "Rope" aRope (sp_Rope_init aRope) [])
    (u_Rope : F_Rope K mg aRope) {n : Nat} (c_cut_rope : C8.Cal P w K mg base (30 + n) "cut_rope" (sp_cut_rope aRope n) []) : C8.Cal P w K mg base (30 + n + 1) "cut_rope" (sp_cut_rope aRope (n + 1)) [] := by
  refine C8.cal0 FD b .nil sc_cut_rope (fun vs H Q E h => ?_) (fun cdv A outer s H vs Q E hr h => ?_)
  · obtain ⟨v, R, s, e, rfl, _⟩ := h; rfl
  · obtain ⟨v, R, s, e, rfl, hR, oR, hn, hz, k0, k1, k2, k⟩ := h
    refine ⟨_, (C8.pss_cut (ps_if (PW.pt (pw_and (pt_cmpR op_leU (pv 1) pe_int (nomark _)) (pw_and1 (pt_cmpR op_leU (pe_fldK (K := K) (pv 0) rfl) (pv 2) (nomark _))))) (pss_one (ps_ret (pv 0))) pss_nil)
  (pss_cons (ps_if (pt_cmpR op_leU (pv 2) (pv 1) (nomark _)) (pss_one (ps_ret (pe_c0 c_empty_rope hr (by omega) (by rfl)))) pss_nil)
  (pss_cons (ps_if (pt_cmpR (op_eqK K (hu64 hr)) (pe_fldK (K := K) (pv 0) rfl) pe_int (nomark _)) (pss_one (ps_ret (pe_mkI (W := W_Rope aRope) c_Rope_init hr (by omega) (by rfl) (pa_cons (pe_slice (sl_K K) (pe_fldK (K := K) (pv 0) rfl) (po_some (pv 1)) (po_some (pv 2))) (pa_cons pe_non (pa_cons pe_non pa_nil))) mk_Rope))) pss_nil)
  (pss_cons (ps_set (i := 3) sc_cut_rope.nd rfl (.inl rfl) (pe_fldK (K := K) (pe_fldK (K := K) (pv 0) rfl) rfl))
  (pss_cons (ps_if (pt_cmpR op_leU (pv 2) (pv 3) (nomark _)) (pss_one (ps_ret (C8.pe_c c_cut_rope hr (by omega) (by rfl) (pa_cons (pe_fldK (K := K) (pv 0) rfl) (pa_cons (pv 1) (pa_cons (pv 2) pa_nil)))))) pss_nil)
  (pss_cons (ps_if (pt_cmpR op_leU (pv 3) (pv 1) (nomark _)) (pss_one (ps_ret (C8.pe_c c_cut_rope hr (by omega) (by rfl) (pa_cons (pe_fldK (K := K) (pv 0) rfl) (pa_cons (pe_op op_subU (pv 1) (pv 3)) (pa_cons (pe_op op_subU (pv 2) (pv 3)) pa_nil)))))) pss_nil)
  (pss_one (ps_ret (C8.pe_c c_join_ropes hr (by omega) (by rfl) (pa_cons (C8.pe_c c_cut_rope hr (by omega) (by rfl) (pa_cons (pe_fldK (K := K) (pv 0) rfl) (pa_cons (pv 1) (pa_cons (pv 3) pa_nil)))) (pa_cons (C8.pe_c c_cut_rope hr (by omega) (by rfl) (pa_cons (pe_fldK (K := K) (pv 0) rfl) (pa_cons pe_int (pa_cons (pe_op op_subU (pv 2) (pv 3)) pa_nil)))) pa_nil))))))))))), ?_⟩
    obtain ⟨p, dx, pc, l, r, rfl, hp⟩ := hR.obj
    show (_ : TS) _ [some (.ref p), some (.int s), some (.int e), none] H
    have tl := txt_len R
    have whole : s ≤ 0 → (R.size : Int) ≤ e → Q (.ref p) H := fun a b => by
      refine k _ H R (Same.refl H) hR oR ?_
      rw [show s.toNat = 0 by omega, List.drop_zero, List.take_of_length_le (by omega)]
    refine rCut (fun σ' H' => σ' = [some (.ref p), some (.int s), some (.int e), none] ∧ H' = H ∧ ¬ (s ≤ 0 ∧ (R.size : Int) ≤ e)) ?_ ?_
    · walk_at "rd"
      refine ifD (fun c => ?_) (fun c => ?_)
      · walk_at "rd"
        refine ifD (fun c2 => ?_) (fun c2 => ?_)
        · walk_at "rd"
          exact whole c c2
        · walk_at "rd"
          exact ⟨rfl, rfl, fun z => c2 z.2⟩
      · walk_at "rd"
        exact ⟨rfl, rfl, fun z => c z.1⟩
    rintro σ' H' ⟨rfl, rfl, hc⟩
    walk_at "rd"
    refine ifD (fun c => ?_) (fun c => ?_)
    · walk_at "rd"
      refine use_empty fun v H1 s1 r1 => ?_
      refine k v H1 _ s1 r1 (.inr ⟨"", rfl, by decide +kernel⟩) ?_
      rw [show e.toNat = s.toNat by omega, List.drop_eq_nil_of_le (by rw [List.length_take]; omega)]
      decide +kernel
    have bR := oR.bal (by omega)
    have pR := bal_pos bR
    walk_at "rd"
    refine ifD (fun c2 => ?_) (fun c2 => ?_)
    · obtain ⟨t, rfl⟩ := bal_leaf bR (by omega)
      clear hp
      obtain ⟨dx', hp⟩ := hR.lf
      have hb := bR.1
      have hb2 := bR.2
      have e1 : (leaf t).size = t.length := rfl
      have q1 := cutS_length t (some s) (some e)
      walk_at "rd"
      refine mkLeaf (by omega) fun v H1 s1 r1 => ?_
      have tx : TL.tl (cutS t (some s) (some e)) = ((leaf t).txt.take e.toNat).drop s.toNat := by rw [tl_cutS, cut_mid k0 (by omega)]; rfl
      have ln := congrArg List.length tx
      rw [← TL.len_tl, List.length_drop, List.length_take, tl] at ln
      exact k v H1 _ s1 r1 (.inl ⟨by omega, by omega⟩) tx
    obtain ⟨L, R', rfl⟩ := bal_node bR (by omega)
    clear hp
    obtain ⟨dx', a, b, hp, ha, hb⟩ := hR.nd
    obtain ⟨bL, bR2, g1, g2⟩ := bR
    obtain ⟨pa, da, ac, al, ar, rfl, hpa⟩ := ha.obj
    have eh : (node L R').ht = 1 + max L.ht R'.ht := rfl
    have es : (node L R').size = L.size + R'.size := rfl
    have et : (node L R').txt = L.txt ++ R'.txt := rfl
    have tL := txt_len L
    have tR := txt_len R'
    walk_at "rd"
    refine ifD (fun c3 => ?_) (fun c3 => ?_)
    · walk_at "rd"
      refine use_cutN ha (.inl bL) (by omega) (by omega) ⟨k0, k1, by omega⟩ fun x H1 J s1 r1 o1 t1 => ?_
      refine k x H1 J s1 r1 o1 ?_
      rw [t1, et, List.take_append_of_le_length (by omega)]
    walk_at "rd"
    refine ifD (fun c4 => ?_) (fun c4 => ?_)
    · walk_at "rd"
      refine use_cutN hb (.inl bR2) (by omega) (by omega) ⟨by omega, by omega, by omega⟩ fun x H1 J s1 r1 o1 t1 => ?_
      refine k x H1 J s1 r1 o1 ?_
      rw [t1, et, List.take_append, List.take_of_length_le (l := L.txt) (by omega), List.drop_append, List.drop_eq_nil_of_le (as := L.txt) (by omega), List.nil_append, tL]
      congr 1
      · omega
      · congr 1
        omega
    walk_at "rd"
    refine use_cutN ha (.inl bL) (by omega) (by omega) ⟨k0, by omega, by omega⟩ fun x H1 J1 s1 r1 o1 t1 => ?_
    have hp1 := s1 _ _ hp
    walk_at "rd"
    refine use_cutN (hb.sm s1) (.inl bR2) (by omega) (by omega) ⟨by omega, by omega, by omega⟩ fun y H2 J2 s2 r2 o2 t2 => ?_
    have z1 : J1.size ≤ 200000 := by rw [← txt_len, t1, List.length_drop, List.length_take]; omega
    have z2 : J2.size ≤ 200000 := by rw [← txt_len, t2, List.length_drop, List.length_take]; omega
    walk_at "rd"
    refine use_join (r1.sm s2) r2 o1 o2 z1 z2 fun z H3 J s3 r3 o3 t3 => ?_
    refine k z H3 J (Same.trans s1 (Same.trans s2 s3)) r3 o3 ?_
    have a1 : L.txt.take ((L.size : Int)).toNat = L.txt := List.take_of_length_le (by omega)
    have a2 : (L.txt ++ R'.txt).take e.toNat = L.txt ++ R'.txt.take (e.toNat - L.size) := by rw [List.take_append, List.take_of_length_le (l := L.txt) (by omega), tL]
    have a3 : ∀ X : List Nat, (L.txt ++ X).drop s.toNat = L.txt.drop s.toNat ++ X := fun X => List.drop_append_of_le_length (by omega)
    have a4 : (e - (L.size : Int)).toNat = e.toNat - L.size := by omega
    rw [t3, t1, t2, et, a1, a2, a3, a4]
    rfl
theorem cal_cut_rope {f : Addr} {fd : FuncData} (T : Txt mg) (FD : C8.Def K mg "cut_rope" s_cut_rope f fd) (b : Binds K fd ["rope", "start", "end"] [])
    (c_join_ropes : C8.Cal P w K mg base 30 "join_ropes" (sp_join_ropes aRope 27) [])
    (c_empty_rope : C8.Cal P w K mg base 3 "empty_rope" (sp_empty_rope aRope) [])
    (c_Rope_init : C8.Mak P w K mg base 1 "Rope" aRope (sp_Rope_init aRope) [])
    (u_Rope : F_Rope K mg aRope) : C8.Cal P w K mg base 57 "cut_rope" (sp_cut_rope aRope 27) [] := by
  have key : ∀ n, C8.Cal P w K mg base (30 + n) "cut_rope" (sp_cut_rope aRope n) [] := fun n => by
    induction n with
    | zero => exact cal_none FD b .nil fun vs H Q E h => no_cut_rope h
    | succ n ih => exact step_cut_rope T FD b c_join_ropes c_empty_rope c_Rope_init u_Rope ih
  exact key 27
end
end Z
namespace Z
open PySem PySem.Spec L2 ItX
open Rp
local macro_rules | `(tactic| walk_at "ne") => `(tactic| first
  | with_reducible assumption
  | with_reducible exact Ne.symm (by assumption)
  | exact Frs.ne (by with_reducible assumption) (by walk_at "hp")
  | exact Frs.ne' (by with_reducible assumption) (by walk_at "hp"))
local macro_rules | `(tactic| walk_at "hp") => `(tactic| first
  | with_reducible assumption
  | (with_reducible refine Same.at (by assumption) ?_; walk_at "hp")
  | (with_reducible refine SL.tup (by assumption) ?_; walk_at "hp")
  | (with_reducible refine SL.at (by assumption) (by walk_at "ne") ?_; walk_at "hp"))
local macro_rules | `(tactic| walk_at "sz") => `(tactic| first
  | with_reducible assumption
  | exact Nat.le_of_ble_eq_true rfl
  | (refine sz_le ?_; omega)
  | (refine sz_lt ?_; omega)
  | decide +kernel)
local macro_rules | `(tactic| walk_at "at") => `(tactic| first
  | with_reducible assumption
  | with_reducible exact at0
  | with_reducible exact at1
  | with_reducible exact at2
  | with_reducible exact ixN0)
local macro_rules | `(tactic| walk_at "nn") => `(tactic| first
  | omega
  | decide
  | exact ⟨by decide, by decide⟩
  | exact ⟨by omega, by omega⟩
  | exact ⟨by omega, by omega, by omega, by omega⟩)
local macro_rules | `(tactic| walk_at "rdv") => `(tactic| first
  | (with_reducible refine add_int ?_)
  | (with_reducible refine sub_int ?_)
  | (with_reducible refine neg_int ?_)
  | ((with_reducible refine ix_tpl (xs := ?xs) (v := ?v) ?h1 ?h2 ?_); (case h1 => walk_at "hp"); (case h2 => walk_at "at"))
  | ((with_reducible refine ix_lst (xs := ?xs) (v := ?v) ?h1 ?h2 ?_); (case h1 => walk_at "hp"); (case h2 => walk_at "at"))
  | (with_reducible refine eq_int ?_)
  | (with_reducible refine ne_int ?_)
  | (with_reducible refine lt_int ?_)
  | (with_reducible refine le_int ?_)
  | (with_reducible refine gt_int ?_)
  | (with_reducible refine ge_int ?_)
  | (with_reducible refine eq_str ?_)
  | (with_reducible refine ne_str ?_)
  | (with_reducible refine eq_bl ?_)
  | (with_reducible refine ne_bl ?_)
  | ((with_reducible refine mod_int ?hc ?_); (case hc => walk_at "nn"))
  | ((with_reducible refine div_int ?hc ?_); (case hc => walk_at "nn"))
  | ((with_reducible refine mul_intR ?hc ?_); (case hc => exact ⟨by decide, by decide⟩))
  | ((with_reducible refine mul_intR ?hc ?_); (case hc => exact ⟨by omega, by omega⟩))
  | ((with_reducible refine mul_intL ?hc ?_); (case hc => exact ⟨by omega, by omega⟩))
  | ((with_reducible refine pow_int ?hc ?_); (case hc => exact ⟨by decide, by decide, by decide⟩))
  | ((with_reducible refine add_str ?hc ?_); (case hc => walk_at "sz"))
  | ((with_reducible refine add_lst (xs := ?xs) (ys := ?ys) ?h1 ?h2 ?hc ?_); (case h1 => walk_at "hp"); (case h2 => walk_at "hp"); (case hc => walk_at "sz"))
  | ((with_reducible refine sl_strU ?hc ?_); (case hc => walk_at "sz"))
  | ((with_reducible refine sl_lst (xs := ?xs) ?h1 ?_); (case h1 => walk_at "hp"))
  | (with_reducible refine is_bl ?_)
  | (with_reducible refine isnt_bl ?_)
  | (with_reducible refine is_non ?_)
  | (with_reducible refine isnt_non ?_))
local macro_rules | `(tactic| walk_at "rdc") => `(tactic| first
  | ((with_reducible refine len_lst (xs := ?xs) ?h1 ?_); (case h1 => walk_at "hp"))
  | ((with_reducible refine len_tup (xs := ?xs) ?h1 ?_); (case h1 => walk_at "hp"))
  | ((with_reducible refine len_str ?hc ?_); (case hc => walk_at "sz"))
  | (with_reducible refine int_int ?_)
  | (with_reducible refine max_int ?_)
  | (with_reducible refine min_int ?_)
  | (with_reducible refine abs_int ?_)
  | (with_reducible refine isi_ii ?_)
  | (with_reducible refine isi_ib ?_)
  | (with_reducible refine isi_ss ?_)
  | (with_reducible refine isi_bb ?_)
  | ((with_reducible refine isi_tt (xs := ?xs) ?h1 ?_); (case h1 => walk_at "hp"))
  | ((with_reducible refine isi_ll (xs := ?xs) ?h1 ?_); (case h1 => walk_at "hp"))
  | ((with_reducible refine list_lst (xs := ?xs) ?h1 ?_); (case h1 => walk_at "hp"))
  | ((with_reducible refine list_tup (xs := ?xs) ?h1 ?_); (case h1 => walk_at "hp"))
  | ((with_reducible refine tuple_lst (xs := ?xs) ?h1 ?_); (case h1 => walk_at "hp"))
  | ((with_reducible refine tuple_tup (xs := ?xs) ?h1 ?_); (case h1 => walk_at "hp"))
  | ((with_reducible refine append_lst (xs := ?xs) ?h1 ?hc ?_); (case h1 => walk_at "hp"); (case hc => walk_at "sz"))
  | ((with_reducible refine clear_lst (xs := ?xs) ?h1 ?_); (case h1 => walk_at "hp"))
  | ((with_reducible refine set_lst (xs := ?xs) (k := ?k) ?h1 ?h2 ?_); (case h1 => walk_at "hp"); (case h2 => walk_at "at")))
local macro_rules | `(tactic| walk_at "rd1") => `(tactic| first
  | ((with_reducible refine rVar (v := ?v) ?h ?_); (case h => exact rfl))
  | (with_reducible refine rC ?_)
  | (with_reducible refine rCons ?_)
  | (with_reducible refine rNil ?_)
  | (with_reducible refine rOp ?_)
  | (with_reducible refine rSeq ?_)
  | (with_reducible refine rAsgN ?_)
  | (with_reducible refine rAsgT ?_)
  | (with_reducible refine rAsgS ?_)
  | (with_reducible refine rTest ?_)
  | (with_reducible refine rBl ?_)
  | (with_reducible refine rBl' ?_)
  | (with_reducible refine rInt ?_)
  | (with_reducible refine rInt' ?_)
  | (with_reducible refine rCall ?_)
  | (with_reducible refine rCB ?_)
  | (with_reducible refine rRet ?_)
  | (with_reducible refine rDrop ?_)
  | (with_reducible refine rIfS ?_)
  | (with_reducible refine rTup ?_)
  | (with_reducible refine rLst ?_)
  | (with_reducible refine ⟨Nat.le_of_ble_eq_true rfl, ?_⟩)
  | (with_reducible refine rSl ?_)
  | (with_reducible refine rPart ?_)
  | (with_reducible refine rNoPart ?_)
  | (with_reducible refine rBM ?_)
  | (with_reducible refine rBM0 ?_)
  | ((with_reducible refine tyL (xs := ?xs) ?h1 ?_); (case h1 => walk_at "hp"))
  | (with_reducible refine rM1 ?_)
  | (with_reducible refine rM0 ?_)
  | (with_reducible refine rStr ?_)
  | (with_reducible refine rTru ?_)
  | (with_reducible refine tru_bl ?_)
  | (with_reducible refine tru_int ?_)
  | ((with_reducible refine tru_lst (xs := ?xs) ?h1 ?_); (case h1 => walk_at "hp"))
  | ((with_reducible refine tru_tup (xs := ?xs) ?h1 ?_); (case h1 => walk_at "hp"))
  | ((with_reducible refine tru_str ?hc ?_); (case hc => walk_at "sz"))
  | (with_reducible refine rAnd ?_)
  | (with_reducible refine rOr ?_)
  | (with_reducible refine rNot ?_)
  | (with_reducible refine rAndV ?_)
  | (with_reducible refine rOrV ?_)
  | (with_reducible refine rNotV ?_)
  | (with_reducible refine rIfE ?_)
  | (with_reducible refine rChain ?_)
  | (with_reducible refine rChain3 ?_)
  | (with_reducible refine ifT ?_)
  | (with_reducible refine ifF ?_)
  | (with_reducible refine ifNF ?_)
  | (with_reducible refine ifNT ?_)
  | (with_reducible refine rNext ?_)
  | (with_reducible refine rBrk ?_)
  | (with_reducible refine rCnt ?_)
  | (with_reducible refine rRetN ?_)
  | (with_reducible refine rForR1 ?_)
  | (with_reducible refine rForR2 ?_)
  | (with_reducible refine rForL ?_)
  | ((with_reducible refine rRg1 ?hb ?_); (case hb => walk_at "nn"))
  | ((with_reducible refine rRg2 ?hb ?_); (case hb => walk_at "nn"))
  | ((with_reducible refine rRf (xs := ?xs) ?h1 ?_); (case h1 => walk_at "hp"))
  | (with_reducible refine rLcR1 ?_)
  | (with_reducible refine rLcR2 ?_)
  | (with_reducible refine rLcL ?_)
  | (with_reducible refine gN ?_)
  | (with_reducible refine gNl ?_)
  | (with_reducible refine gC ?_)
  | ((with_reducible refine gT (xs := ?xs) ?h1 ?h2 ?_); (case h1 => walk_at "hp"); (case h2 => exact rfl))
  | (with_reducible refine rUn ?_)
  | walk_at "rdv"
  | walk_at "rdc")
local macro_rules | `(tactic| walk_at "rd") => `(tactic| repeat walk_at "rd1")

local macro_rules | `(tactic| walk_at "rd1") => `(tactic| first
  | (with_reducible refine rCallS ?_)
  | (with_reducible refine rRaise ?_)
  | (with_reducible refine rXf ?_)
  | (with_reducible refine rXi ?_)
  | (with_reducible refine rOst ?_)
  | (with_reducible refine rRevL ?_)
  | ((with_reducible refine revL_end (xs := ?xs) ?h1 ?_); (case h1 => walk_at "hp")))

local macro_rules | `(tactic| walk_at "rd1") => `(tactic| first
  | (with_reducible refine rForR3 ?_)
  | ((with_reducible refine rRgD ?hb ?_); (case hb => walk_at "nn"))
  | (with_reducible refine gS ?_))

local macro_rules | `(tactic| walk_at "rd1") => `(tactic| first
  | (with_reducible refine rFld ?_)
  | (with_reducible refine rSFld ?_)
  | (with_reducible refine rMake ?_)
  | (with_reducible refine rMeth ?_)
  | (with_reducible refine rForT ?_)
  | (with_reducible refine rLcT ?_)
  | (with_reducible refine rLcO ?_)
  | (with_reducible refine rForO ?_)
  | (with_reducible refine rLstY ?_)
  | ((with_reducible refine rRt (xs := ?xs) ?h1 ?_); (case h1 => walk_at "hp"))
  | ((with_reducible refine listY_lst (xs := ?xs) ?h1 ?_); (case h1 => walk_at "hp"))
  | ((with_reducible refine listY_tup (xs := ?xs) ?h1 ?_); (case h1 => walk_at "hp")))

local macro_rules | `(tactic| walk_at "rd1") => `(tactic| first
  | (with_reducible refine rLcR3 ?_)
  | (with_reducible refine rMethT ?_)
  | (with_reducible refine rMkW ?_)
  | ((with_reducible refine fR_piece (mg := ?mg) (C := ?C) (dx := ?dx) (pc := ?pc) (l := ?l) (r := ?r) (s := ?s) (h := ?h) ?hu ?hp ?_); (case hu => with_reducible assumption); (case hp => walk_at "hp"))
  | ((with_reducible refine fR_left (mg := ?mg) (C := ?C) (dx := ?dx) (pc := ?pc) (l := ?l) (r := ?r) (s := ?s) (h := ?h) ?hu ?hp ?_); (case hu => with_reducible assumption); (case hp => walk_at "hp"))
  | ((with_reducible refine fR_right (mg := ?mg) (C := ?C) (dx := ?dx) (pc := ?pc) (l := ?l) (r := ?r) (s := ?s) (h := ?h) ?hu ?hp ?_); (case hu => with_reducible assumption); (case hp => walk_at "hp"))
  | ((with_reducible refine fR_size (mg := ?mg) (C := ?C) (dx := ?dx) (pc := ?pc) (l := ?l) (r := ?r) (s := ?s) (h := ?h) ?hu ?hp ?_); (case hu => with_reducible assumption); (case hp => walk_at "hp"))
  | ((with_reducible refine fR_height (mg := ?mg) (C := ?C) (dx := ?dx) (pc := ?pc) (l := ?l) (r := ?r) (s := ?s) (h := ?h) ?hu ?hp ?_); (case hu => with_reducible assumption); (case hp => walk_at "hp")))
local macro_rules | `(tactic| walk_at "rd1") => `(tactic| first
  | (with_reducible refine rMeth ?_)
  | ((with_reducible refine meth_end (C := ?C) (dx := ?dx) (fs := ?fs) ?hp ?hl ?_); (case hp => walk_at "hp"); (case hl => exact ropF_no (by decide +kernel) (by decide +kernel) (by decide +kernel) (by decide +kernel) (by decide +kernel))))

theorem whileM {c : TT} {tb : TS} {nx : L2.St → Hp → Prop} {rt : VK} {bk ct : L2.St → Hp → Prop} {σ : L2.St} {H : Hp} (W : Nat → L2.St → Hp → Prop) {m : Nat} (h0 : W m σ H)
    (hs : ∀ m σ H, W m σ H → c σ H fun b H1 => if b = true then ∃ N : L2.St → Hp → Prop, (∀ σ' H', N σ' H' → ∃ m', m' < m ∧ W m' σ' H') ∧ tb ⟨N, rt, nx, N⟩ σ H1 else nx σ H1) : tWhile c tb ⟨nx, rt, bk, ct⟩ σ H := ⟨W, ⟨m, h0⟩, hs⟩
theorem wGo {W : Nat → L2.St → Hp → Prop} {m : Nat} {tb : TS} {rt : VK} {nx : L2.St → Hp → Prop} {σ : L2.St} {H : Hp} (h : tb ⟨fun σ' H' => ∃ m', m' < m ∧ W m' σ' H', rt, nx, fun σ' H' => ∃ m', m' < m ∧ W m' σ' H'⟩ σ H) :
    ∃ N : L2.St → Hp → Prop, (∀ σ' H', N σ' H' → ∃ m', m' < m ∧ W m' σ' H') ∧ tb ⟨N, rt, nx, N⟩ σ H := ⟨_, fun _ _ q => q, h⟩
theorem cnts_len : ∀ Rs : List Rp, Rs.length ≤ (Rs.map Rp.cnt).sum
  | [] => Nat.le_refl _
  | R :: Rs => by
    have := cnt_pos R
    have := cnts_len Rs
    show Rs.length + 1 ≤ R.cnt + (Rs.map Rp.cnt).sum
    omega
theorem lens_sum : ∀ fs : List Str, (fs.map (·.length)).sum = ((fs.map TL.tl).flatten).length
  | [] => rfl
  | f :: fs => by
    rw [List.map_cons, List.sum_cons, List.map_cons, List.flatten_cons, List.length_append, ← lens_sum fs, ← TL.len_tl]
section
variable {P : Program} {w : World} {K : PySem.W.Frag} {mg : Str → Option Value} {base : Heap} {aE aRope : Addr}
theorem met_Rope_cut {f : Addr} {fd : FuncData} (T : Txt mg) (FU : C8.Fun K "cut" "Rope.cut" s_Rope_cut f fd) (b : Binds K fd ["self", "start", "end"] []) (u_Rope : F_Rope K mg aRope) (me : Meth K aRope "cut" f)
    (c_cut_rope : C8.Cal P w K mg base 57 "cut_rope" (sp_cut_rope aRope 27) []) : C8.Met P w K mg base 58 aRope "cut" (sp_Rope_cut aRope) [] := by
  refine C8.met0 u_Rope.u.cl me FU b sc_Rope_cut (fun vs H Q E h => ?_) (fun cdv A outer s H vs Q E hr h => ?_)
  · obtain ⟨v, R, s, e, rfl, _⟩ := h; rfl
  · obtain ⟨v, R, s, e, rfl, hR, oR, hz, k0, k1, k2, k⟩ := h
    refine ⟨_, (pss_one (ps_ret (C8.pe_c c_cut_rope hr (by decide) (by rfl) (pa_cons (pv 0) (pa_cons (pv 1) (pa_cons (pv 2) pa_nil)))))), ?_⟩
    show (_ : TS) _ [some v, some (.int s), some (.int e)] H
    walk_at "rd"
    exact use_cutR hR oR hz ⟨k0, k1, k2⟩ k
theorem met_Rope_joined {f : Addr} {fd : FuncData} (T : Txt mg) (FU : C8.Fun K "joined" "Rope.joined" s_Rope_joined f fd) (b : Binds K fd ["self", "other"] []) (u_Rope : F_Rope K mg aRope) (me : Meth K aRope "joined" f)
    (c_join_ropes : C8.Cal P w K mg base 30 "join_ropes" (sp_join_ropes aRope 27) []) : C8.Met P w K mg base 31 aRope "joined" (sp_Rope_joined aRope) [] := by
  refine C8.met0 u_Rope.u.cl me FU b sc_Rope_joined (fun vs H Q E h => ?_) (fun cdv A outer s H vs Q E hr h => ?_)
  · obtain ⟨v, u, L, R, rfl, _⟩ := h; rfl
  · obtain ⟨v, u, L, R, rfl, hL, hR, oL, oR, z1, z2, k⟩ := h
    refine ⟨_, (pss_one (ps_ret (C8.pe_c c_join_ropes hr (by decide) (by rfl) (pa_cons (pv 0) (pa_cons (pv 1) pa_nil))))), ?_⟩
    show (_ : TS) _ [some v, some u] H
    walk_at "rd"
    exact use_join hL hR oL oR z1 z2 k
theorem met_Rope_edited {f : Addr} {fd : FuncData} (T : Txt mg) (FU : C8.Fun K "edited" "Rope.edited" s_Rope_edited f fd) (b : Binds K fd ["self", "edits"] []) (u_Rope : F_Rope K mg aRope) (me : Meth K aRope "edited" f)
    (c_check_edits : CalX P w K mg base 3 "check_edits" (sp_check_edits aE))
    (c_join_ropes : C8.Cal P w K mg base 30 "join_ropes" (sp_join_ropes aRope 27) [])
    (c_cut_rope : C8.Cal P w K mg base 57 "cut_rope" (sp_cut_rope aRope 27) [])
    (c_Rope_of : Stat P w K mg base 17 "Rope" "of" (sp_Rope_of aRope)) : MetX P w K mg base 58 aRope "edited" (sp_Rope_edited aRope aE) := by
  refine metX u_Rope.u.cl me FU b sc_Rope_edited (fun vs H Q E h => ?_) (fun cdv A outer s H vs Q E hr h => ?_)
  · obtain ⟨v, R, t, p, us, es, rfl, _⟩ := h; rfl
  · obtain ⟨v, R, t, p, us, es, rfl, hR, oR, ht, hp, hed, hsm, k1, k2⟩ := h
    refine ⟨_, (pss_cons (ps_expr (pe_cx c_check_edits (takes_of rfl rfl rfl rfl) hr (by decide) (by rfl) (pa_cons (pe_fldK (K := K) (pv 0) rfl) (pa_cons (pv 1) pa_nil))))
  (PSs.nox (pss_cons (ps_set (i := 2) sc_Rope_edited.nd rfl (.inl rfl) (pv 0))
  (pss_cons (ps_for PassesOwn.never rfl (pi_listK K (pv 1)) (pg_tup rfl (pgs_cons (pg_name (i := 3) sc_Rope_edited.nd rfl (.inl rfl)) (pgs_cons (pg_name (i := 4) sc_Rope_edited.nd rfl (.inl rfl)) (pgs_cons (pg_name (i := 5) sc_Rope_edited.nd rfl (.inl rfl)) pgs_nil)))) (pss_one (ps_if (PW.pt (pw_or (pt_cmpR op_ltU (pv 3) (pv 4) (nomark _)) (pw_or1 (pt_truK K (pv 5) (by intro _; rfl))))) (pss_cons (ps_set (i := 6) sc_Rope_edited.nd rfl (.inl rfl) (C8.pe_c c_join_ropes hr (by decide) (by rfl) (pa_cons (C8.pe_c c_cut_rope hr (by decide) (by rfl) (pa_cons (pv 2) (pa_cons pe_int (pa_cons (pv 3) pa_nil)))) (pa_cons (pe_st c_Rope_of hr (by decide) (by rfl) (pa_cons (pv 5) pa_nil)) pa_nil))))
  (pss_one (ps_set (i := 2) sc_Rope_edited.nd rfl (.inl rfl) (C8.pe_c c_join_ropes hr (by decide) (by rfl) (pa_cons (pv 6) (pa_cons (C8.pe_c c_cut_rope hr (by decide) (by rfl) (pa_cons (pv 2) (pa_cons (pv 4) (pa_cons (pe_fldK (K := K) (pv 2) rfl) pa_nil)))) pa_nil)))))) pss_nil)))
  (pss_one (ps_ret (pv 2))))))), ?_⟩
    obtain ⟨pv, dv, vc, vl, vr, rfl, hpv⟩ := hR.obj
    show (_ : TS) _ [some (.ref pv), some (.ref p), none, none, none, none, none] H
    have hul := Paired.len hed
    have hsz : R.size = t.length := by rw [← txt_len, ht, ← TL.len_tl]
    rw [hsz] at hpv
    walk_at "rd"
    refine use_check_edits hp hed hsm (fun hfit => ?_) k2
    obtain ⟨hall, k⟩ := k1 hfit
    walk_at "rd"
    refine loopL_by (xs := us) (fun i σ' H' => ∃ (v' : V) (R' : Rp) (o3 o4 o5 o6 : Option V), σ' = [some (.ref pv), some (.ref p), some v', o3, o4, o5, o6] ∧ Same H H' ∧ RopeAt aRope H' v' R' ∧ Rok R' ∧ R'.txt = TL.tl (aps t (es.take i))) ?_ ?_ ?_ ?_
    · exact ⟨_, R, none, none, none, none, rfl, Same.refl H, hR, oR, by rw [List.take_zero]; exact ht⟩
    · rintro i σ' H' _ ⟨_, _, _, _, _, _, _, s, _⟩
      exact s _ _ hp
    · rintro i u σ' H1 hu ⟨v', R', o3, o4, o5, o6, rfl, s1, hR', oR', ht'⟩
      obtain ⟨x, hx, px, rfl, hpx⟩ := Paired.at hed hu
      have hpx1 := s1 _ _ hpx
      have hxn := (hsm.new x (List.mem_of_getElem? hx)).1
      have hf0 := fits_take hfit i
      have hf1 := fits_take hfit (i + 1)
      rw [take_snoc hx] at hf1
      have hfx := (fits_app.mp hf1).2.1
      have hla := len_aps hf0
      rw [← hla] at hfx
      have hb0 := hall i
      have hb1 := hall (i + 1)
      rw [take_snoc hx, sza_snoc, ← hla] at hb1
      rw [← hla] at hb0
      have etx : TL.tl (aps t (es.take (i + 1))) = (R'.txt.take x.s.toNat) ++ TL.tl x.n ++ R'.txt.drop x.e.toNat := by rw [take_snoc hx, aps_snoc, tl_ap hfx, ht']
      generalize aps t (es.take i) = T at *
      have hsT : R'.size = T.length := by rw [← txt_len, ht', ← TL.len_tl]
      obtain ⟨pw, dw, wc, wl, wr, rfl, hpw⟩ := hR'.obj
      have hns : nsz (T.length : Int) x = (T.length : Int) - (x.e - x.s) + x.n.length := rfl
      walk_at "rd"
      · walk_at "rd"
        refine ifD (fun c => ?_) (fun c => ?_)
        rotate_left 1
        walk_at "rd"
        refine ifB (fun c2 => ?_) (fun c2 => ?_)
        rotate_left 1
        · have c3 : (x.n.length : Int) = 0 := by simpa using c2
          walk_at "rd"
          refine ⟨_, R', _, _, _, _, rfl, s1, hR', oR', ?_⟩
          have e0 : TL.tl x.n = [] := List.length_eq_zero_iff.mp (by rw [← TL.len_tl]; omega)
          rw [etx, e0, List.append_nil, show x.e.toNat = x.s.toNat by omega, List.take_append_drop]
        all_goals
          walk_at "rd"
          refine use_cutR hR' oR' (by omega) ⟨Int.le_refl 0, hfx.1, by omega⟩ fun v2 H2 R2 s2 r2 k2' t2 => ?_
          walk_at "rd"
          refine use_of (by omega) fun v3 H3 R3 s3 r3 k3 t3 => ?_
          have z2 : R2.size ≤ 200000 := by rw [← txt_len, t2, List.length_drop, List.length_take, txt_len]; omega
          have z3 : R3.size = x.n.length := by rw [← txt_len, t3, ← TL.len_tl]
          walk_at "rd"
          refine use_join (r2.sm s3) r3 k2' k3 z2 (by omega) fun v4 H4 R4 s4 r4 k4 t4 => ?_
          have s14 := Same.trans s2 (Same.trans s3 s4)
          have hpw4 := s14 _ _ hpw
          walk_at "rd"
          refine use_cutR (hR'.sm s14) oR' (by omega) ⟨by omega, by omega, by omega⟩ fun v5 H5 R5 s5 r5 k5 t5 => ?_
          have z5 : R5.size ≤ 200000 := by rw [← txt_len, t5, List.length_drop, List.length_take, txt_len]; omega
          have z4 : R4.size ≤ 200000 := by rw [← txt_len, t4, List.length_append, txt_len, txt_len, z3]; rw [← txt_len, t2, List.length_drop, List.length_take, txt_len]; omega
          walk_at "rd"
          refine use_join (r4.sm s5) r5 k4 k5 z4 z5 fun v6 H6 R6 s6 r6 k6 t6 => ?_
          walk_at "rd"
          refine ⟨_, R6, _, _, _, _, rfl, Same.trans s1 (Same.trans s14 (Same.trans s5 s6)), r6, k6, ?_⟩
          rw [t6, t4, t2, t3, t5, etx, List.take_of_length_le (i := ((R'.size : Int)).toNat) (by rw [txt_len]; omega)]
          rfl
    · rintro σ' H1 ⟨v', R', o3, o4, o5, o6, rfl, s1, hR', oR', ht'⟩
      rw [hul, List.take_length] at ht'
      walk_at "rd"
      exact k v' H1 R' s1 hR' oR' ht'
end
end Z
namespace Z
open PySem PySem.Spec L2
local macro_rules | `(tactic| walk_at "ne") => `(tactic| first
  | with_reducible assumption
  | with_reducible exact Ne.symm (by assumption)
  | exact Frs.ne (by with_reducible assumption) (by walk_at "hp")
  | exact Frs.ne' (by with_reducible assumption) (by walk_at "hp"))
local macro_rules | `(tactic| walk_at "hp") => `(tactic| first
  | with_reducible assumption
  | (with_reducible refine Same.at (by assumption) ?_; walk_at "hp")
  | (with_reducible refine SL.tup (by assumption) ?_; walk_at "hp")
  | (with_reducible refine SL.at (by assumption) (by walk_at "ne") ?_; walk_at "hp"))
local macro_rules | `(tactic| walk_at "sz") => `(tactic| first
  | with_reducible assumption
  | exact Nat.le_of_ble_eq_true rfl
  | (refine sz_le ?_; omega)
  | (refine sz_lt ?_; omega)
  | decide +kernel)
local macro_rules | `(tactic| walk_at "at") => `(tactic| first
  | with_reducible assumption
  | with_reducible exact at0
  | with_reducible exact at1
  | with_reducible exact at2
  | with_reducible exact ixN0)
local macro_rules | `(tactic| walk_at "nn") => `(tactic| first
  | omega
  | decide
  | exact ⟨by decide, by decide⟩
  | exact ⟨by omega, by omega⟩
  | exact ⟨by omega, by omega, by omega, by omega⟩)
local macro_rules | `(tactic| walk_at "rdv") => `(tactic| first
  | (with_reducible refine add_int ?_)
  | (with_reducible refine sub_int ?_)
  | (with_reducible refine neg_int ?_)
  | ((with_reducible refine ix_tpl (xs := ?xs) (v := ?v) ?h1 ?h2 ?_); (case h1 => walk_at "hp"); (case h2 => walk_at "at"))
  | ((with_reducible refine ix_lst (xs := ?xs) (v := ?v) ?h1 ?h2 ?_); (case h1 => walk_at "hp"); (case h2 => walk_at "at"))
  | (with_reducible refine eq_int ?_)
  | (with_reducible refine ne_int ?_)
  | (with_reducible refine lt_int ?_)
  | (with_reducible refine le_int ?_)
  | (with_reducible refine gt_int ?_)
  | (with_reducible refine ge_int ?_)
  | (with_reducible refine eq_str ?_)
  | (with_reducible refine ne_str ?_)
  | (with_reducible refine eq_bl ?_)
  | (with_reducible refine ne_bl ?_)
  | ((with_reducible refine mod_int ?hc ?_); (case hc => walk_at "nn"))
  | ((with_reducible refine div_int ?hc ?_); (case hc => walk_at "nn"))
  | ((with_reducible refine mul_intR ?hc ?_); (case hc => exact ⟨by decide, by decide⟩))
  | ((with_reducible refine mul_intR ?hc ?_); (case hc => exact ⟨by omega, by omega⟩))
  | ((with_reducible refine mul_intL ?hc ?_); (case hc => exact ⟨by omega, by omega⟩))
  | ((with_reducible refine pow_int ?hc ?_); (case hc => exact ⟨by decide, by decide, by decide⟩))
  | ((with_reducible refine add_str ?hc ?_); (case hc => walk_at "sz"))
  | ((with_reducible refine add_lst (xs := ?xs) (ys := ?ys) ?h1 ?h2 ?hc ?_); (case h1 => walk_at "hp"); (case h2 => walk_at "hp"); (case hc => walk_at "sz"))
  | ((with_reducible refine sl_strU ?hc ?_); (case hc => walk_at "sz"))
  | ((with_reducible refine sl_lst (xs := ?xs) ?h1 ?_); (case h1 => walk_at "hp"))
  | (with_reducible refine is_bl ?_)
  | (with_reducible refine isnt_bl ?_)
  | (with_reducible refine is_non ?_)
  | (with_reducible refine isnt_non ?_))
local macro_rules | `(tactic| walk_at "rdc") => `(tactic| first
  | ((with_reducible refine len_lst (xs := ?xs) ?h1 ?_); (case h1 => walk_at "hp"))
  | ((with_reducible refine len_tup (xs := ?xs) ?h1 ?_); (case h1 => walk_at "hp"))
  | ((with_reducible refine len_str ?hc ?_); (case hc => walk_at "sz"))
  | (with_reducible refine int_int ?_)
  | (with_reducible refine max_int ?_)
  | (with_reducible refine min_int ?_)
  | (with_reducible refine abs_int ?_)
  | (with_reducible refine isi_ii ?_)
  | (with_reducible refine isi_ib ?_)
  | (with_reducible refine isi_ss ?_)
  | (with_reducible refine isi_bb ?_)
  | ((with_reducible refine isi_tt (xs := ?xs) ?h1 ?_); (case h1 => walk_at "hp"))
  | ((with_reducible refine isi_ll (xs := ?xs) ?h1 ?_); (case h1 => walk_at "hp"))
  | ((with_reducible refine list_lst (xs := ?xs) ?h1 ?_); (case h1 => walk_at "hp"))
  | ((with_reducible refine list_tup (xs := ?xs) ?h1 ?_); (case h1 => walk_at "hp"))
  | ((with_reducible refine tuple_lst (xs := ?xs) ?h1 ?_); (case h1 => walk_at "hp"))
  | ((with_reducible refine tuple_tup (xs := ?xs) ?h1 ?_); (case h1 => walk_at "hp"))
  | ((with_reducible refine append_lst (xs := ?xs) ?h1 ?hc ?_); (case h1 => walk_at "hp"); (case hc => walk_at "sz"))
  | ((with_reducible refine clear_lst (xs := ?xs) ?h1 ?_); (case h1 => walk_at "hp"))
  | ((with_reducible refine set_lst (xs := ?xs) (k := ?k) ?h1 ?h2 ?_); (case h1 => walk_at "hp"); (case h2 => walk_at "at")))
local macro_rules | `(tactic| walk_at "rd1") => `(tactic| first
  | ((with_reducible refine rVar (v := ?v) ?h ?_); (case h => exact rfl))
  | (with_reducible refine rC ?_)
  | (with_reducible refine rCons ?_)
  | (with_reducible refine rNil ?_)
  | (with_reducible refine rOp ?_)
  | (with_reducible refine rSeq ?_)
  | (with_reducible refine rAsgN ?_)
  | (with_reducible refine rAsgT ?_)
  | (with_reducible refine rAsgS ?_)
  | (with_reducible refine rTest ?_)
  | (with_reducible refine rBl ?_)
  | (with_reducible refine rBl' ?_)
  | (with_reducible refine rInt ?_)
  | (with_reducible refine rInt' ?_)
  | (with_reducible refine rCall ?_)
  | (with_reducible refine rCB ?_)
  | (with_reducible refine rRet ?_)
  | (with_reducible refine rDrop ?_)
  | (with_reducible refine rIfS ?_)
  | (with_reducible refine rTup ?_)
  | (with_reducible refine rLst ?_)
  | (with_reducible refine ⟨Nat.le_of_ble_eq_true rfl, ?_⟩)
  | (with_reducible refine rSl ?_)
  | (with_reducible refine rPart ?_)
  | (with_reducible refine rNoPart ?_)
  | (with_reducible refine rBM ?_)
  | (with_reducible refine rBM0 ?_)
  | ((with_reducible refine tyL (xs := ?xs) ?h1 ?_); (case h1 => walk_at "hp"))
  | (with_reducible refine rM1 ?_)
  | (with_reducible refine rM0 ?_)
  | (with_reducible refine rStr ?_)
  | (with_reducible refine rTru ?_)
  | (with_reducible refine tru_bl ?_)
  | (with_reducible refine tru_int ?_)
  | ((with_reducible refine tru_lst (xs := ?xs) ?h1 ?_); (case h1 => walk_at "hp"))
  | ((with_reducible refine tru_tup (xs := ?xs) ?h1 ?_); (case h1 => walk_at "hp"))
  | ((with_reducible refine tru_str ?hc ?_); (case hc => walk_at "sz"))
  | (with_reducible refine rAnd ?_)
  | (with_reducible refine rOr ?_)
  | (with_reducible refine rNot ?_)
  | (with_reducible refine rAndV ?_)
  | (with_reducible refine rOrV ?_)
  | (with_reducible refine rNotV ?_)
  | (with_reducible refine rIfE ?_)
  | (with_reducible refine rChain ?_)
  | (with_reducible refine rChain3 ?_)
  | (with_reducible refine ifT ?_)
  | (with_reducible refine ifF ?_)
  | (with_reducible refine ifNF ?_)
  | (with_reducible refine ifNT ?_)
  | (with_reducible refine rNext ?_)
  | (with_reducible refine rBrk ?_)
  | (with_reducible refine rCnt ?_)
  | (with_reducible refine rRetN ?_)
  | (with_reducible refine rForR1 ?_)
  | (with_reducible refine rForR2 ?_)
  | (with_reducible refine rForL ?_)
  | ((with_reducible refine rRg1 ?hb ?_); (case hb => walk_at "nn"))
  | ((with_reducible refine rRg2 ?hb ?_); (case hb => walk_at "nn"))
  | ((with_reducible refine rRf (xs := ?xs) ?h1 ?_); (case h1 => walk_at "hp"))
  | (with_reducible refine rLcR1 ?_)
  | (with_reducible refine rLcR2 ?_)
  | (with_reducible refine rLcL ?_)
  | (with_reducible refine gN ?_)
  | (with_reducible refine gNl ?_)
  | (with_reducible refine gC ?_)
  | ((with_reducible refine gT (xs := ?xs) ?h1 ?h2 ?_); (case h1 => walk_at "hp"); (case h2 => exact rfl))
  | (with_reducible refine rUn ?_)
  | walk_at "rdv"
  | walk_at "rdc")
local macro_rules | `(tactic| walk_at "rd") => `(tactic| repeat walk_at "rd1")

local macro_rules | `(tactic| walk_at "rd1") => `(tactic| first
  | (with_reducible refine rCallS ?_)
  | (with_reducible refine rRaise ?_)
  | (with_reducible refine rXf ?_)
  | (with_reducible refine rXi ?_)
  | (with_reducible refine rOst ?_)
  | (with_reducible refine rRevL ?_)
  | ((with_reducible refine revL_end (xs := ?xs) ?h1 ?_); (case h1 => walk_at "hp")))

theorem use_planted {r p : Addr} {t : Str} {us : List V} {es : List Ed} {m : Int} {H : Hp} {Q : VK} {E : XK} (hR : Reel H r) (hpr : p ≠ r) (ht : t.length ≤ 5000) (hp : H p = some (.lst us)) (he : Edits H us es) (hf : fits t.length es) (hl : es.length ≤ 300) (hn : ∀ x ∈ es, Nm x) (hm : 0 ≤ m ∧ m ≤ 10)
    (h : ∀ (q : Addr) (us' : List V) (es' : List Ed) (H' : Hp), SL r H H' → Reel H' r → Frs H q → H' q = some (.lst us') → Edits H' us' es' → Small es' → (0 < m → ¬ fits t.length es') → Q (.ref q) H') : sp_law_planted [.ref r, .str t, .ref p, .int m] H Q E := ⟨r, p, t, us, es, m, rfl, hR, hpr, ht, hp, he, hf, hl, hn, hm.1, hm.2, fun q us' es' H' h1 h2 h3 h4 h5 h6 h7 _ => h q us' es' H' h1 h2 h3 h4 h5 h6 h7⟩
theorem use_plantedK {r p : Addr} {t : Str} {us : List V} {es : List Ed} {m : Int} {H : Hp} {Q : VK} {E : XK} (hR : Reel H r) (hpr : p ≠ r) (ht : t.length ≤ 5000) (hp : H p = some (.lst us)) (he : Edits H us es) (hf : fits t.length es) (hl : es.length ≤ 300) (hn : ∀ x ∈ es, Nm x) (hm : 0 ≤ m ∧ m ≤ 10)
    (h : ∀ (q : Addr) (us' : List V) (es' : List Ed) (H' : Hp), SL r H H' → Reel H' r → Frs H q → H' q = some (.lst us') → Edits H' us' es' → Small es' → (0 < m → ¬ fits t.length es') → (∀ k, fits t.length (es'.take k) → es'.take k = es.take k) → Q (.ref q) H') : sp_law_planted [.ref r, .str t, .ref p, .int m] H Q E := ⟨r, p, t, us, es, m, rfl, hR, hpr, ht, hp, he, hf, hl, hn, hm.1, hm.2, h⟩
/-- the reel that is being filled -/
def Rl (H : Hp) (p : Addr) (lo hi : Nat) : Prop := ∃ ms : List Int, H p = some (.lst (V.int 0 :: ms.map V.int)) ∧ lo ≤ ms.length ∧ ms.length ≤ hi
theorem Rl.put {H' : Hp} {p : Addr} {ms : List Int} {z : Int} {lo hi : Nat} (h : H' p = some (.lst ((V.int 0 :: ms.map V.int) ++ [V.int z]))) (h1 : lo ≤ ms.length) (h2 : ms.length ≤ hi) : Rl H' p (lo + 1) (hi + 1) :=
  ⟨ms ++ [z], by rw [h, List.map_append]; rfl, by rw [List.length_append]; show _ ≤ _ + 1; omega, by rw [List.length_append]; show _ + 1 ≤ _; omega⟩
theorem Rl.le {H : Hp} {p : Addr} {lo hi lo' hi' : Nat} (h : Rl H p lo hi) (h1 : lo' ≤ lo) (h2 : hi ≤ hi') : Rl H p lo' hi' := let ⟨ms, e, a, b⟩ := h; ⟨ms, e, by omega, by omega⟩
def sp_law_reel (K : PySem.W.Frag) : Sp := fun vs H Q _ => ∃ (a : Addr) (ns : List Int), vs = [.ref a] ∧ SqL K H a (ns.map V.int) ∧ ns.length ≤ 63 ∧ ∀ (r : Addr) (H' : Hp), Frs H r → Same H H' → Reel H' r → Q (.ref r) H'
theorem use_reel {K : PySem.W.Frag} {a : Addr} {ns : List Int} {H : Hp} {Q : VK} {E : XK} (hs : SqL K H a (ns.map V.int)) (hl : ns.length ≤ 63) (h : ∀ (r : Addr) (H' : Hp), Frs H r → Same H H' → Reel H' r → Q (.ref r) H') : sp_law_reel K [.ref a] H Q E := ⟨a, ns, rfl, hs, hl, h⟩
section
variable {P : Program} {w : World} {K : PySem.W.Frag} {mg : Str → Option Value} {base : Heap} {aE : Addr}
theorem cal_law_reel {f : Addr} {fd : FuncData} (T : Txt mg) (FD : C8.Def K mg "_law_reel" s_law_reel f fd) (b : Binds K fd ["script"] []) : C8.Cal P w K mg base 1 "_law_reel" (sp_law_reel K) [] := by
  refine C8.cal0 FD b .nil sc_law_reel (fun vs H Q E h => ?_) (fun cdv A outer s H vs Q E hr h => ?_)
  · obtain ⟨a, ns, rfl, _⟩ := h; rfl
  · obtain ⟨a, ns, rfl, hS, hl, k⟩ := h
    refine ⟨_, (pss_cons (ps_set (i := 1) sc_law_reel.nd rfl (.inl rfl) (pe_lst (pa_cons pe_int pa_nil)))
  (pss_cons (ps_for PassesOwn.never rfl (pi_range1 rfl T.n_range (pa_cons (pe_callB (call_min2U rfl) (by rfl) T.n_min (by decide +kernel) (pa_cons (pe_callB (call_lenK K) (by rfl) T.n_len PySem.boot_len (pa_cons (pv 0) pa_nil)) (pa_cons pe_int pa_nil))) pa_nil)) (pg_name (i := 2) sc_law_reel.nd rfl (.inl rfl)) (pss_cons (ps_set (i := 3) sc_law_reel.nd rfl (.inl rfl) (pe_ix (ix_K K) (pv 0) (pv 2) (fun _ _ => rfl)))
  (pss_one (ps_if (pt_cmpR op_geU (pe_callB call_absU (by rfl) T.n_abs (by decide +kernel) (pa_cons (pv 3) pa_nil)) (pe_op op_powU pe_int pe_int) (nomark _)) (pss_cons (ps_set (i := 4) sc_law_reel.nd rfl (.inl rfl) (pe_callB call_absU (by rfl) T.n_abs (by decide +kernel) (pa_cons (pv 3) pa_nil)))
  (pss_one (ps_for PassesOwn.never rfl (pi_range1 rfl T.n_range (pa_cons pe_int pa_nil)) (pg_name (i := 5) sc_law_reel.nd rfl (.inl rfl)) (pss_one (ps_if (pt_cmpR op_gtU (pv 4) pe_int (nomark _)) (pss_cons (ps_expr (pe_bm F.plainAttrs_list F.slot_list_append F.type_list_append mt_append (pv 1) (pa_cons (pe_op op_modU (pe_callTy call_intU (by rfl) T.n_int (by decide +kernel) (pa_cons (pv 4) pa_nil)) pe_int) pa_nil)))
  (pss_one (ps_set (i := 4) sc_law_reel.nd rfl (.inl rfl) (pe_op op_divU (pv 4) pe_int)))) pss_nil))))) (pss_cons (ps_set (i := 6) sc_law_reel.nd rfl (.inl rfl) (pe_op op_modU (pe_callTy call_intU (by rfl) T.n_int (by decide +kernel) (pa_cons (pe_op (op_addK K) (pe_op (op_addK K) (pe_op op_mulU (pv 3) pe_int) (pe_op op_mulU (pv 2) pe_int)) pe_int) pa_nil)) pe_int))
  (pss_one (ps_for PassesOwn.never rfl (pi_range1 rfl T.n_range (pa_cons pe_int pa_nil)) (pg_name (i := 5) sc_law_reel.nd rfl (.inl rfl)) (pss_cons (ps_set (i := 6) sc_law_reel.nd rfl (.inl rfl) (pe_op op_modU (pe_callTy call_intU (by rfl) T.n_int (by decide +kernel) (pa_cons (pe_op (op_addK K) (pe_op (op_addK K) (pe_op op_mulU (pv 6) pe_int) (pe_op op_mulU (pv 5) pe_int)) pe_int) pa_nil)) pe_int))
  (pss_one (ps_expr (pe_bm F.plainAttrs_list F.slot_list_append F.type_list_append mt_append (pv 1) (pa_cons (pe_op op_modU (pe_callTy call_intU (by rfl) T.n_int (by decide +kernel) (pa_cons (pe_op op_divU (pv 6) pe_int) pa_nil)) pe_int) pa_nil))))))))))))
  (pss_cons (ps_set (i := 6) sc_law_reel.nd rfl (.inl rfl) (pe_op op_modU (pe_callTy call_intU (by rfl) T.n_int (by decide +kernel) (pa_cons (pe_op (op_addK K) (pe_op (op_addK K) (pe_op op_mulU (pe_callB (call_sumK K rfl) (by rfl) T.n_sum (by decide +kernel) (pa_cons (pv 1) pa_nil)) pe_int) (pe_op op_mulU (pe_callB (call_lenK K) (by rfl) T.n_len PySem.boot_len (pa_cons (pv 1) pa_nil)) pe_int)) pe_int) pa_nil)) pe_int))
  (pss_cons (ps_for PassesOwn.never rfl (pi_range1 rfl T.n_range (pa_cons pe_int pa_nil)) (pg_name (i := 5) sc_law_reel.nd rfl (.inl rfl)) (pss_cons (ps_set (i := 6) sc_law_reel.nd rfl (.inl rfl) (pe_op op_modU (pe_callTy call_intU (by rfl) T.n_int (by decide +kernel) (pa_cons (pe_op (op_addK K) (pe_op (op_addK K) (pe_op op_mulU (pv 6) pe_int) (pe_op op_mulU (pv 5) pe_int)) pe_int) pa_nil)) pe_int))
  (pss_one (ps_expr (pe_bm F.plainAttrs_list F.slot_list_append F.type_list_append mt_append (pv 1) (pa_cons (pe_op op_modU (pe_callTy call_intU (by rfl) T.n_int (by decide +kernel) (pa_cons (pe_op op_divU (pv 6) pe_int) pa_nil)) pe_int) pa_nil))))))
  (pss_one (ps_ret (pv 1))))))), ?_⟩
    show (_ : TS) _ [some (.ref a), none, none, none, none, none, none] H
    walk_at "rd"
    refine newO_gen fun p H1 f1 s1 h1 => ?_
    have g1 : Rl H1 p 0 0 := ⟨[], h1, by simp, by simp⟩
    have hml : (ns.map V.int).length = ns.length := List.length_map ..
    walk_at "rd"
    refine len_sql (s1.seq hS) ?_
    walk_at "rd"
    generalize hnb : (if (63 : Int) < ((ns.map V.int).length : Int) then (63 : Int) else ((ns.map V.int).length : Int)).toNat = nb
    have hnb1 : nb ≤ 63 ∧ nb ≤ ns.length := by rw [← hnb, hml]; split <;> omega
    refine loopR_by (fun i σ' H' => ∃ (o2 o3 o4 o5 o6 : Option V), σ' = [some (.ref a), some (.ref p), o2, o3, o4, o5, o6] ∧ SL p H1 H' ∧ Rl H' p 0 (60 * i)) ?_ ?_ ?_
    · exact ⟨none, none, none, none, none, rfl, SL.refl h1, g1⟩
    · rintro i σ' H2 hi ⟨o2, o3, o4, o5, o6, rfl, s2, g2⟩
      have hat : atI (ns.map V.int) (0 + (i : Int)) = some (V.int (ns[i]'(by omega))) := at_of (j := i) (by omega) (by rw [List.getElem?_map, List.getElem?_eq_getElem (by omega)]; rfl)
      generalize ns[i]'(by omega) = cell at hat
      walk_at "rd"
      refine ix_sql ((SL.same s1 s2 f1).seq hS) hat ?_
      walk_at "rd"
      refine ifD (fun c => ?_) (fun c => ?_)
      · walk_at "rd"
        generalize (if cell < 0 then -cell else cell) = rest0
        refine loopR_by (fun j σ' H' => ∃ (rest : Int) (o5 : Option V), σ' = [some (.ref a), some (.ref p), some (.int (0 + (i : Int))), some (.int cell), some (.int rest), o5, o6] ∧ SL p H1 H' ∧ Rl H' p 0 (60 * i + j)) ?_ ?_ ?_
        · exact ⟨rest0, _, rfl, s2, g2⟩
        · rintro j σ' H3 hj ⟨rest, o5, rfl, s3, ms, h3, l3, l3'⟩
          have hml : (V.int 0 :: ms.map V.int).length ≤ 10000 := by rw [List.length_cons, List.length_map]; omega
          walk_at "rd"
          refine ifD (fun c => ?_) (fun c => ?_)
          · walk_at "rd"
            refine putO_gen h3 fun H4 s4 h4 => ?_
            walk_at "rd"
            exact ⟨_, _, rfl, s3.trans s4, (Rl.put h4 l3 l3').le (by omega) (by omega)⟩
          · walk_at "rd"
            exact ⟨_, _, rfl, s3, ms, h3, l3, by omega⟩
        · rintro σ' H3 ⟨rest, o5, rfl, s3, g3⟩
          exact ⟨_, _, _, _, _, rfl, s3, g3.le (Nat.le_refl _) (by show 60 * i + 60 ≤ _; omega)⟩
      · walk_at "rd"
        generalize (cell * 48271 + (0 + (i : Int)) * 69621 + 4099) % 2147483647 = mixed0
        refine loopR_by (fun j σ' H' => ∃ (m : Int) (o5 : Option V), σ' = [some (.ref a), some (.ref p), some (.int (0 + (i : Int))), some (.int cell), o4, o5, some (.int m)] ∧ SL p H1 H' ∧ Rl H' p 0 (60 * i + j)) ?_ ?_ ?_
        · exact ⟨mixed0, _, rfl, s2, g2⟩
        · rintro j σ' H3 hj ⟨m, o5, rfl, s3, ms, h3, l3, l3'⟩
          have hml : (V.int 0 :: ms.map V.int).length ≤ 10000 := by rw [List.length_cons, List.length_map]; omega
          walk_at "rd"
          refine putO_gen h3 fun H4 s4 h4 => ?_
          walk_at "rd"
          exact ⟨_, _, rfl, s3.trans s4, (Rl.put h4 l3 l3').le (by omega) (by omega)⟩
        · rintro σ' H3 ⟨m, o5, rfl, s3, g3⟩
          exact ⟨_, _, _, _, _, rfl, s3, g3.le (Nat.le_refl _) (by show 60 * i + 4 ≤ _; omega)⟩
    · rintro σ' H2 ⟨o2, o3, o4, o5, o6, rfl, s2, ms, h2, l2, l2'⟩
      walk_at "rd"
      refine sum_lst (ns := 0 :: ms) h2 ?_
      walk_at "rd"
      generalize ((0 :: ms).sum * 69621 + ((V.int 0 :: ms.map V.int).length : Int) * 48271 + 977) % 2147483647 = mixed0
      refine loopR_by (fun j σ' H' => ∃ (m : Int) (o5 : Option V), σ' = [some (.ref a), some (.ref p), o2, o3, o4, o5, some (.int m)] ∧ SL p H1 H' ∧ Rl H' p j (60 * nb + j)) ?_ ?_ ?_
      · exact ⟨mixed0, _, rfl, s2, ms, h2, l2, l2'⟩
      · rintro j σ' H3 hj ⟨m, o5, rfl, s3, ms, h3, l3, l3'⟩
        have hml : (V.int 0 :: ms.map V.int).length ≤ 10000 := by rw [List.length_cons, List.length_map]; omega
        walk_at "rd"
        refine putO_gen h3 fun H4 s4 h4 => ?_
        walk_at "rd"
        exact ⟨_, _, rfl, s3.trans s4, (Rl.put h4 l3 l3').le (by omega) (by omega)⟩
      · rintro σ' H3 ⟨m, o5, rfl, s3, ms, h3, l3, l3'⟩
        walk_at "rd"
        exact k p H3 f1 (SL.same s1 s3 f1) ⟨0, ms, h3, l3, by omega⟩
end
end Z
namespace Z
open PySem PySem.Spec L2 ItX
open Rp
local macro_rules | `(tactic| walk_at "ne") => `(tactic| first
  | with_reducible assumption
  | with_reducible exact Ne.symm (by assumption)
  | exact Frs.ne (by with_reducible assumption) (by walk_at "hp")
  | exact Frs.ne' (by with_reducible assumption) (by walk_at "hp"))
local macro_rules | `(tactic| walk_at "hp") => `(tactic| first
  | with_reducible assumption
  | (with_reducible refine Same.at (by assumption) ?_; walk_at "hp")
  | (with_reducible refine SL.tup (by assumption) ?_; walk_at "hp")
  | (with_reducible refine SL.at (by assumption) (by walk_at "ne") ?_; walk_at "hp"))
local macro_rules | `(tactic| walk_at "sz") => `(tactic| first
  | with_reducible assumption
  | exact Nat.le_of_ble_eq_true rfl
  | (refine sz_le ?_; omega)
  | (refine sz_lt ?_; omega)
  | decide +kernel)
local macro_rules | `(tactic| walk_at "at") => `(tactic| first
  | with_reducible assumption
  | with_reducible exact at0
  | with_reducible exact at1
  | with_reducible exact at2
  | with_reducible exact ixN0)
local macro_rules | `(tactic| walk_at "nn") => `(tactic| first
  | omega
  | decide
  | exact ⟨by decide, by decide⟩
  | exact ⟨by omega, by omega⟩
  | exact ⟨by omega, by omega, by omega, by omega⟩)
local macro_rules | `(tactic| walk_at "rdv") => `(tactic| first
  | (with_reducible refine add_int ?_)
  | (with_reducible refine sub_int ?_)
  | (with_reducible refine neg_int ?_)
  | ((with_reducible refine ix_tpl (xs := ?xs) (v := ?v) ?h1 ?h2 ?_); (case h1 => walk_at "hp"); (case h2 => walk_at "at"))
  | ((with_reducible refine ix_lst (xs := ?xs) (v := ?v) ?h1 ?h2 ?_); (case h1 => walk_at "hp"); (case h2 => walk_at "at"))
  | (with_reducible refine eq_int ?_)
  | (with_reducible refine ne_int ?_)
  | (with_reducible refine lt_int ?_)
  | (with_reducible refine le_int ?_)
  | (with_reducible refine gt_int ?_)
  | (with_reducible refine ge_int ?_)
  | (with_reducible refine eq_str ?_)
  | (with_reducible refine ne_str ?_)
  | (with_reducible refine eq_bl ?_)
  | (with_reducible refine ne_bl ?_)
  | ((with_reducible refine mod_int ?hc ?_); (case hc => walk_at "nn"))
  | ((with_reducible refine div_int ?hc ?_); (case hc => walk_at "nn"))
  | ((with_reducible refine mul_intR ?hc ?_); (case hc => exact ⟨by decide, by decide⟩))
  | ((with_reducible refine mul_intR ?hc ?_); (case hc => exact ⟨by omega, by omega⟩))
  | ((with_reducible refine mul_intL ?hc ?_); (case hc => exact ⟨by omega, by omega⟩))
  | ((with_reducible refine pow_int ?hc ?_); (case hc => exact ⟨by decide, by decide, by decide⟩))
  | ((with_reducible refine add_str ?hc ?_); (case hc => walk_at "sz"))
  | ((with_reducible refine add_lst (xs := ?xs) (ys := ?ys) ?h1 ?h2 ?hc ?_); (case h1 => walk_at "hp"); (case h2 => walk_at "hp"); (case hc => walk_at "sz"))
  | ((with_reducible refine sl_strU ?hc ?_); (case hc => walk_at "sz"))
  | ((with_reducible refine sl_lst (xs := ?xs) ?h1 ?_); (case h1 => walk_at "hp"))
  | (with_reducible refine is_bl ?_)
  | (with_reducible refine isnt_bl ?_)
  | (with_reducible refine is_non ?_)
  | (with_reducible refine isnt_non ?_))
local macro_rules | `(tactic| walk_at "rdc") => `(tactic| first
  | ((with_reducible refine len_lst (xs := ?xs) ?h1 ?_); (case h1 => walk_at "hp"))
  | ((with_reducible refine len_tup (xs := ?xs) ?h1 ?_); (case h1 => walk_at "hp"))
  | ((with_reducible refine len_str ?hc ?_); (case hc => walk_at "sz"))
  | (with_reducible refine int_int ?_)
  | (with_reducible refine max_int ?_)
  | (with_reducible refine min_int ?_)
  | (with_reducible refine abs_int ?_)
  | (with_reducible refine isi_ii ?_)
  | (with_reducible refine isi_ib ?_)
  | (with_reducible refine isi_ss ?_)
  | (with_reducible refine isi_bb ?_)
  | ((with_reducible refine isi_tt (xs := ?xs) ?h1 ?_); (case h1 => walk_at "hp"))
  | ((with_reducible refine isi_ll (xs := ?xs) ?h1 ?_); (case h1 => walk_at "hp"))
  | ((with_reducible refine list_lst (xs := ?xs) ?h1 ?_); (case h1 => walk_at "hp"))
  | ((with_reducible refine list_tup (xs := ?xs) ?h1 ?_); (case h1 => walk_at "hp"))
  | ((with_reducible refine tuple_lst (xs := ?xs) ?h1 ?_); (case h1 => walk_at "hp"))
  | ((with_reducible refine tuple_tup (xs := ?xs) ?h1 ?_); (case h1 => walk_at "hp"))
  | ((with_reducible refine append_lst (xs := ?xs) ?h1 ?hc ?_); (case h1 => walk_at "hp"); (case hc => walk_at "sz"))
  | ((with_reducible refine clear_lst (xs := ?xs) ?h1 ?_); (case h1 => walk_at "hp"))
  | ((with_reducible refine set_lst (xs := ?xs) (k := ?k) ?h1 ?h2 ?_); (case h1 => walk_at "hp"); (case h2 => walk_at "at")))
local macro_rules | `(tactic| walk_at "rd1") => `(tactic| first
  | ((with_reducible refine rVar (v := ?v) ?h ?_); (case h => exact rfl))
  | (with_reducible refine rC ?_)
  | (with_reducible refine rCons ?_)
  | (with_reducible refine rNil ?_)
  | (with_reducible refine rOp ?_)
  | (with_reducible refine rSeq ?_)
  | (with_reducible refine rAsgN ?_)
  | (with_reducible refine rAsgT ?_)
  | (with_reducible refine rAsgS ?_)
  | (with_reducible refine rTest ?_)
  | (with_reducible refine rBl ?_)
  | (with_reducible refine rBl' ?_)
  | (with_reducible refine rInt ?_)
  | (with_reducible refine rInt' ?_)
  | (with_reducible refine rCall ?_)
  | (with_reducible refine rCB ?_)
  | (with_reducible refine rRet ?_)
  | (with_reducible refine rDrop ?_)
  | (with_reducible refine rIfS ?_)
  | (with_reducible refine rTup ?_)
  | (with_reducible refine rLst ?_)
  | (with_reducible refine ⟨Nat.le_of_ble_eq_true rfl, ?_⟩)
  | (with_reducible refine rSl ?_)
  | (with_reducible refine rPart ?_)
  | (with_reducible refine rNoPart ?_)
  | (with_reducible refine rBM ?_)
  | (with_reducible refine rBM0 ?_)
  | ((with_reducible refine tyL (xs := ?xs) ?h1 ?_); (case h1 => walk_at "hp"))
  | (with_reducible refine rM1 ?_)
  | (with_reducible refine rM0 ?_)
  | (with_reducible refine rStr ?_)
  | (with_reducible refine rTru ?_)
  | (with_reducible refine tru_bl ?_)
  | (with_reducible refine tru_int ?_)
  | ((with_reducible refine tru_lst (xs := ?xs) ?h1 ?_); (case h1 => walk_at "hp"))
  | ((with_reducible refine tru_tup (xs := ?xs) ?h1 ?_); (case h1 => walk_at "hp"))
  | ((with_reducible refine tru_str ?hc ?_); (case hc => walk_at "sz"))
  | (with_reducible refine rAnd ?_)
  | (with_reducible refine rOr ?_)
  | (with_reducible refine rNot ?_)
  | (with_reducible refine rAndV ?_)
  | (with_reducible refine rOrV ?_)
  | (with_reducible refine rNotV ?_)
  | (with_reducible refine rIfE ?_)
  | (with_reducible refine rChain ?_)
  | (with_reducible refine rChain3 ?_)
  | (with_reducible refine ifT ?_)
  | (with_reducible refine ifF ?_)
  | (with_reducible refine ifNF ?_)
  | (with_reducible refine ifNT ?_)
  | (with_reducible refine rNext ?_)
  | (with_reducible refine rBrk ?_)
  | (with_reducible refine rCnt ?_)
  | (with_reducible refine rRetN ?_)
  | (with_reducible refine rForR1 ?_)
  | (with_reducible refine rForR2 ?_)
  | (with_reducible refine rForL ?_)
  | ((with_reducible refine rRg1 ?hb ?_); (case hb => walk_at "nn"))
  | ((with_reducible refine rRg2 ?hb ?_); (case hb => walk_at "nn"))
  | ((with_reducible refine rRf (xs := ?xs) ?h1 ?_); (case h1 => walk_at "hp"))
  | (with_reducible refine rLcR1 ?_)
  | (with_reducible refine rLcR2 ?_)
  | (with_reducible refine rLcL ?_)
  | (with_reducible refine gN ?_)
  | (with_reducible refine gNl ?_)
  | (with_reducible refine gC ?_)
  | ((with_reducible refine gT (xs := ?xs) ?h1 ?h2 ?_); (case h1 => walk_at "hp"); (case h2 => exact rfl))
  | (with_reducible refine rUn ?_)
  | walk_at "rdv"
  | walk_at "rdc")
local macro_rules | `(tactic| walk_at "rd") => `(tactic| repeat walk_at "rd1")

local macro_rules | `(tactic| walk_at "rd1") => `(tactic| first
  | (with_reducible refine rCallS ?_)
  | (with_reducible refine rRaise ?_)
  | (with_reducible refine rXf ?_)
  | (with_reducible refine rXi ?_)
  | (with_reducible refine rOst ?_)
  | (with_reducible refine rRevL ?_)
  | ((with_reducible refine revL_end (xs := ?xs) ?h1 ?_); (case h1 => walk_at "hp")))

local macro_rules | `(tactic| walk_at "rd1") => `(tactic| first
  | (with_reducible refine rForR3 ?_)
  | ((with_reducible refine rRgD ?hb ?_); (case hb => walk_at "nn"))
  | (with_reducible refine gS ?_))

local macro_rules | `(tactic| walk_at "rd1") => `(tactic| first
  | (with_reducible refine rFld ?_)
  | (with_reducible refine rSFld ?_)
  | (with_reducible refine rMake ?_)
  | (with_reducible refine rMeth ?_)
  | (with_reducible refine rForT ?_)
  | (with_reducible refine rLcT ?_)
  | (with_reducible refine rLcO ?_)
  | (with_reducible refine rForO ?_)
  | (with_reducible refine rLstY ?_)
  | ((with_reducible refine rRt (xs := ?xs) ?h1 ?_); (case h1 => walk_at "hp"))
  | ((with_reducible refine listY_lst (xs := ?xs) ?h1 ?_); (case h1 => walk_at "hp"))
  | ((with_reducible refine listY_tup (xs := ?xs) ?h1 ?_); (case h1 => walk_at "hp")))

local macro_rules | `(tactic| walk_at "rd1") => `(tactic| first
  | (with_reducible refine rLcR3 ?_)
  | (with_reducible refine rMethT ?_)
  | (with_reducible refine rMkW ?_)
  | ((with_reducible refine fR_piece (mg := ?mg) (C := ?C) (dx := ?dx) (pc := ?pc) (l := ?l) (r := ?r) (s := ?s) (h := ?h) ?hu ?hp ?_); (case hu => with_reducible assumption); (case hp => walk_at "hp"))
  | ((with_reducible refine fR_left (mg := ?mg) (C := ?C) (dx := ?dx) (pc := ?pc) (l := ?l) (r := ?r) (s := ?s) (h := ?h) ?hu ?hp ?_); (case hu => with_reducible assumption); (case hp => walk_at "hp"))
  | ((with_reducible refine fR_right (mg := ?mg) (C := ?C) (dx := ?dx) (pc := ?pc) (l := ?l) (r := ?r) (s := ?s) (h := ?h) ?hu ?hp ?_); (case hu => with_reducible assumption); (case hp => walk_at "hp"))
  | ((with_reducible refine fR_size (mg := ?mg) (C := ?C) (dx := ?dx) (pc := ?pc) (l := ?l) (r := ?r) (s := ?s) (h := ?h) ?hu ?hp ?_); (case hu => with_reducible assumption); (case hp => walk_at "hp"))
  | ((with_reducible refine fR_height (mg := ?mg) (C := ?C) (dx := ?dx) (pc := ?pc) (l := ?l) (r := ?r) (s := ?s) (h := ?h) ?hu ?hp ?_); (case hu => with_reducible assumption); (case hp => walk_at "hp")))
local macro_rules | `(tactic| walk_at "rd1") => `(tactic| first
  | (with_reducible refine rMeth ?_)
  | ((with_reducible refine meth_end (C := ?C) (dx := ?dx) (fs := ?fs) ?hp ?hl ?_); (case hp => walk_at "hp"); (case hl => exact ropF_no (by decide +kernel) (by decide +kernel) (by decide +kernel) (by decide +kernel) (by decide +kernel))))

theorem Rok.nodeB {l r : Rp} (h : Rok (node l r)) : (node l r).Bal := by
  rcases h with h | ⟨s, e, _⟩
  · exact h
  · cases e
/-- a rope of this text -/
def RT (C : Addr) (H : Hp) (v : V) (t : Str) : Prop := ∃ R, RopeAt C H v R ∧ Rok R ∧ R.txt = TL.tl t
theorem RT.kp {C : Addr} {H H' : Hp} {v : V} {t : Str} (s : KpS H H') (h : RT C H v t) : RT C H' v t := let ⟨R, a, b, c⟩ := h; ⟨R, a.kp s, b, c⟩
theorem RT.sm {C : Addr} {H H' : Hp} {v : V} {t : Str} (s : Same H H') (h : RT C H v t) : RT C H' v t := h.kp (KpS.same s)
theorem rt_size {R : Rp} {t : Str} (h : R.txt = TL.tl t) : R.size = t.length := by rw [← txt_len, h, ← TL.len_tl]
theorem str_ext {x y : Str} (h : TL.tl x = TL.tl y) : x = y := by
  obtain ⟨a⟩ := x
  obtain ⟨b⟩ := y
  have : a = b := by
    have h' : a.toList = b.toList := h
    rw [← Array.toArray_toList (xs := a), h', Array.toArray_toList]
  rw [this]

def sp_law_part_ok (C : Addr) : Sp := fun vs H Q _ => ∃ (v : V) (R : Rp), vs = [v] ∧ RopeAt C H v R ∧ Rok R ∧ ∀ H', Same H H' → Q (.bl true) H'
theorem use_part_ok {C : Addr} {v : V} {R : Rp} {H : Hp} {Q : VK} {E : XK} (hR : RopeAt C H v R) (oR : Rok R) (h : ∀ H', Same H H' → Q (.bl true) H') : sp_law_part_ok C [v] H Q E := ⟨v, R, rfl, hR, oR, h⟩
def sp_law_pieces (C : Addr) : Sp := fun vs H Q _ => ∃ (v : V) (t : Str), vs = [v, .str t] ∧ RT C H v t ∧ t.length ≤ 100000 ∧ ∀ (q : Addr) (H' : Hp), Same H H' → Q (.ref q) H'
theorem use_pieces {C : Addr} {v : V} {t : Str} {H : Hp} {Q : VK} {E : XK} (hv : RT C H v t) (hl : t.length ≤ 100000) (h : ∀ (q : Addr) (H' : Hp), Same H H' → Q (.ref q) H') : sp_law_pieces C [v, .str t] H Q E := ⟨v, t, rfl, hv, hl, h⟩
def sp_law_right (C : Addr) : Sp := fun vs H Q _ => ∃ (v : V) (t : Str), vs = [v, .str t] ∧ RT C H v t ∧ t.length ≤ 100000 ∧ ∀ H', Same H H' → Q (.bl true) H'
theorem use_right {C : Addr} {v : V} {t : Str} {H : Hp} {Q : VK} {E : XK} (hv : RT C H v t) (hl : t.length ≤ 100000) (h : ∀ H', Same H H' → Q (.bl true) H') : sp_law_right C [v, .str t] H Q E := ⟨v, t, rfl, hv, hl, h⟩
section
variable {P : Program} {w : World} {K : PySem.W.Frag} {mg : Str → Option Value} {base : Heap} {aE aRope : Addr}
theorem cal_law_part_ok {f : Addr} {fd : FuncData} (T : Txt mg) (FD : C8.Def K mg "_law_part_ok" s_law_part_ok f fd) (b : Binds K fd ["part"] [])
    (c_law_number : C8.Cal P w K mg base 1 "_law_number" sp_law_number [])
    (u_Rope : F_Rope K mg aRope) : C8.Cal P w K mg base 2 "_law_part_ok" (sp_law_part_ok aRope) [] := by
  refine C8.cal0 FD b .nil sc_law_part_ok (fun vs H Q E h => ?_) (fun cdv A outer s H vs Q E hr h => ?_)
  · obtain ⟨v, R, rfl, _⟩ := h; rfl
  · obtain ⟨v, R, rfl, hR, oR, k⟩ := h
    refine ⟨_, (pss_cons (ps_if (PW.pt (pw_or (pt_not (pt_truK K (pe_callB (call_isiK' K) (by rfl) T.n_isinstance (by decide +kernel) (pa_cons (pv 0) (pa_cons (pe_cls (by rfl) u_Rope.u.mgC) pa_nil))) (by intro _; rfl))) (pw_or (pt_not (pt_truK K (C8.pe_c c_law_number hr (by decide) (by rfl) (pa_cons (pe_fldK (K := K) (pv 0) rfl) pa_nil)) (by intro _; rfl))) (pw_or1 (pt_not (pt_truK K (C8.pe_c c_law_number hr (by decide) (by rfl) (pa_cons (pe_fldK (K := K) (pv 0) rfl) pa_nil)) (by intro _; rfl))))))) (pss_one (ps_ret pe_bl)) pss_nil)
  (pss_cons (ps_if (pt_not (pt_truK K (pe_callB (call_isiK' K) (by rfl) T.n_isinstance (by decide +kernel) (pa_cons (pe_fldK (K := K) (pv 0) rfl) (pa_cons (pe_bltn (v := .ty "str") (by rfl) T.n_str (by decide +kernel) rfl) pa_nil))) (by intro _; rfl))) (pss_one (ps_ret pe_bl)) pss_nil)
  (pss_cons (ps_if (pt_cmpR op_isU (pe_fldK (K := K) (pv 0) rfl) pe_non (nomark _)) (pss_cons (ps_set (i := 1) sc_law_part_ok.nd rfl (.inl rfl) (pe_callB (call_lenK K) (by rfl) T.n_len PySem.boot_len (pa_cons (pe_fldK (K := K) (pv 0) rfl) pa_nil)))
  (pss_one (ps_ret (pe_and (pe_cmpR op_isU (pe_fldK (K := K) (pv 0) rfl) pe_non (nomark _)) (pe_and (pe_cmpR (op_eqK K (hu64 hr)) (pe_fldK (K := K) (pv 0) rfl) (pv 1) (nomark _)) (pe_and (pe_cmpR op_leU (pv 1) pe_int (nomark _)) (pe_one (pe_cmpR (op_eqK K (hu64 hr)) (pe_fldK (K := K) (pv 0) rfl) (pe_callB (call_min2U rfl) (by rfl) T.n_min (by decide +kernel) (pa_cons pe_int (pa_cons (pv 1) pa_nil))) (nomark _))))))))) pss_nil)
  (pss_cons (ps_set (i := 2) sc_law_part_ok.nd rfl (.inl rfl) (pe_fldK (K := K) (pv 0) rfl))
  (pss_cons (ps_set (i := 3) sc_law_part_ok.nd rfl (.inl rfl) (pe_fldK (K := K) (pv 0) rfl))
  (pss_cons (ps_if (PW.pt (pw_or (pt_not (pt_truK K (pe_callB (call_isiK' K) (by rfl) T.n_isinstance (by decide +kernel) (pa_cons (pv 2) (pa_cons (pe_cls (by rfl) u_Rope.u.mgC) pa_nil))) (by intro _; rfl))) (pw_or (pt_not (pt_truK K (pe_callB (call_isiK' K) (by rfl) T.n_isinstance (by decide +kernel) (pa_cons (pv 3) (pa_cons (pe_cls (by rfl) u_Rope.u.mgC) pa_nil))) (by intro _; rfl))) (pw_or1 (pt_cmpR (op_neK K (hu64 hr)) (pe_fldK (K := K) (pv 0) rfl) pe_str (nomark _)))))) (pss_one (ps_ret pe_bl)) pss_nil)
  (pss_cons (ps_for PassesOwn.never rfl (pi_listK K (pe_lst (pa_cons (pv 2) (pa_cons (pv 3) pa_nil)))) (pg_name (i := 4) sc_law_part_ok.nd rfl (.inl rfl)) (pss_one (ps_if (PW.pt (pw_or (pt_not (pt_truK K (C8.pe_c c_law_number hr (by decide) (by rfl) (pa_cons (pe_fldK (K := K) (pv 4) rfl) pa_nil)) (by intro _; rfl))) (pw_or (pt_not (pt_truK K (C8.pe_c c_law_number hr (by decide) (by rfl) (pa_cons (pe_fldK (K := K) (pv 4) rfl) pa_nil)) (by intro _; rfl))) (pw_or1 (pt_cmpR op_ltU (pe_fldK (K := K) (pv 4) rfl) pe_int (nomark _)))))) (pss_one (ps_ret pe_bl)) pss_nil)))
  (pss_cons (ps_if (pt_cmpR op_gtU (pe_callB call_absU (by rfl) T.n_abs (by decide +kernel) (pa_cons (pe_op op_subU (pe_fldK (K := K) (pv 2) rfl) (pe_fldK (K := K) (pv 3) rfl)) pa_nil)) pe_int (nomark _)) (pss_one (ps_ret pe_bl)) pss_nil)
  (pss_one (ps_ret (pe_and (pe_cmpR (op_eqK K (hu64 hr)) (pe_fldK (K := K) (pv 0) rfl) (pe_op (op_addK K) pe_int (pe_callB (call_max2U rfl) (by rfl) T.n_max (by decide +kernel) (pa_cons (pe_fldK (K := K) (pv 2) rfl) (pa_cons (pe_fldK (K := K) (pv 3) rfl) pa_nil)))) (nomark _)) (pe_one (pe_cmpR (op_eqK K (hu64 hr)) (pe_fldK (K := K) (pv 0) rfl) (pe_op (op_addK K) (pe_fldK (K := K) (pv 2) rfl) (pe_fldK (K := K) (pv 3) rfl)) (nomark _)))))))))))))), ?_⟩
    cases R with
    | leaf s =>
      obtain ⟨p, dx, rfl, hp⟩ := hR
      have hs : s.length ≤ 16 := by
        rcases oR with b | ⟨s', e, h⟩
        · exact b.2
        · cases e; omega
      have eh := leaf_htI s
      have es : (leaf s).size = s.length := rfl
      show (_ : TS) _ [some (.ref p), none, none, none, none] H
      walk_at "rd"
      refine isi_own hp u_Rope.u kit_self ?_
      walk_at "rd"
      refine use_number ?_
      walk_at "rd"
      refine use_number ?_
      walk_at "rd"
      refine ifDy rfl ?_
      walk_at "rd"
      refine ifD (fun _ => ?_) (fun c => absurd rfl c)
      walk_at "rd"
      refine ifD (fun _ => ?_) (fun c => absurd (by rw [es]) c)
      walk_at "rd"
      refine ifD (fun _ => ?_) (fun c => absurd (by omega) c)
      walk_at "rd"
      rw [decide_eq_true (by rw [eh])]
      exact k H (Same.refl H)
    | node L R2 =>
      obtain ⟨p, dx, a, b, rfl, hp, ha, hb⟩ := hR
      obtain ⟨pa, da, ac, al, ar, rfl, hpa⟩ := ha.obj
      obtain ⟨pb, db, bc, bl, br, rfl, hpb⟩ := hb.obj
      obtain ⟨bL, bR, g1, g2⟩ := oR.nodeB
      have p1 := bal_pos bL
      have p2 := bal_pos bR
      have es : (node L R2).size = L.size + R2.size := rfl
      have eh : (node L R2).ht = 1 + max L.ht R2.ht := rfl
      show (_ : TS) _ [some (.ref p), none, none, none, none] H
      walk_at "rd"
      refine isi_own hp u_Rope.u kit_self ?_
      walk_at "rd"
      refine use_number ?_
      walk_at "rd"
      refine use_number ?_
      walk_at "rd"
      refine ifDn (fun z => nomatch z) ?_
      walk_at "rd"
      refine isi_own hpa u_Rope.u kit_self ?_
      walk_at "rd"
      refine isi_own hpb u_Rope.u kit_self ?_
      walk_at "rd"
      refine ifND (fun c => absurd rfl c) (fun _ => ?_)
      walk_at "rd"
      refine newO_gen fun q H1 f1 s1 h1 => ?_
      walk_at "rd"
      refine loopL_by (xs := [V.ref pa, V.ref pb]) (fun i σ' H' => ∃ (o4 : Option V), σ' = [some (.ref p), none, some (.ref pa), some (.ref pb), o4] ∧ H' = H1) ?_ ?_ ?_ ?_
      · exact ⟨_, rfl, rfl⟩
      · rintro i σ' H' _ ⟨_, _, rfl⟩
        exact h1
      · rintro i v σ' H' hv ⟨o4, rfl, rfl⟩
        have hv' := List.mem_of_getElem? hv
        simp only [List.mem_cons, List.not_mem_nil, or_false] at hv'
        have hpa1 := s1 _ _ hpa
        have hpb1 := s1 _ _ hpb
        rcases hv' with rfl | rfl
        all_goals
          walk_at "rd"
          refine use_number ?_
          walk_at "rd"
          refine use_number ?_
          walk_at "rd"
          refine ifD (fun c => by exfalso; omega) (fun _ => ?_)
          walk_at "rd"
          exact ⟨_, rfl, rfl⟩
      · rintro σ' H' ⟨o4, rfl, rfl⟩
        have hp1 := s1 _ _ hp
        have hpa1 := s1 _ _ hpa
        have hpb1 := s1 _ _ hpb
        walk_at "rd"
        refine ifD (fun c => by exfalso; (repeat' split at c) <;> omega) (fun _ => ?_)
        walk_at "rd"
        refine ifD (fun _ => ?_) (fun c => absurd (by split <;> omega) c)
        walk_at "rd"
        rw [decide_eq_true (by omega)]
        exact k H' s1
theorem cal_law_pieces {f : Addr} {fd : FuncData} (T : Txt mg) (FD : C8.Def K mg "_law_pieces" s_law_pieces f fd) (b : Binds K fd ["rope", "text"] [])
    (c_law_part_ok : C8.Cal P w K mg base 2 "_law_part_ok" (sp_law_part_ok aRope) [])
    (u_Rope : F_Rope K mg aRope) : C8.Cal P w K mg base 3 "_law_pieces" (sp_law_pieces aRope) [] := by
  refine C8.cal0 FD b .nil sc_law_pieces (fun vs H Q E h => ?_) (fun cdv A outer s H vs Q E hr h => ?_)
  · obtain ⟨v, t, rfl, _⟩ := h; rfl
  · obtain ⟨v, t, rfl, ⟨R, hR, oR, htx⟩, hl, k⟩ := h
    refine ⟨_, (pss_cons (ps_set (i := 2) sc_law_pieces.nd rfl (.inl rfl) (pe_lst pa_nil))
  (pss_cons (ps_set (i := 3) sc_law_pieces.nd rfl (.inl rfl) (pe_lst (pa_cons (pv 0) pa_nil)))
  (pss_cons (ps_for PassesOwn.never rfl (pi_range1 rfl T.n_range (pa_cons (pe_op (op_addK K) (pe_op op_mulU pe_int (pe_callB (call_lenK K) (by rfl) T.n_len PySem.boot_len (pa_cons (pv 1) pa_nil))) pe_int) pa_nil)) (pg_name (i := 4) sc_law_pieces.nd rfl (.inl rfl)) (pss_cons (ps_if (pt_not (pt_truK K (pv 3) (by intro _; rfl))) (pss_cons (ps_if (pt_cmpR (op_neK K (hu64 hr)) (pe_m1 F.slot_str_join F.type_str_join (mt_joinK K) pe_str (pe_lc (own := [("part", 5)]) rfl sc_law_pieces.nd (pi_listK K (pv 2)) (blkOk_by (own := [("part", 5)]) (N := ["rope", "text", "found", "todo", "turn", "part"]) (sc := C8.fnScope s_law_pieces) (by decide +kernel)) (fun _ _ _ _ _ => (pg_name (i := 5) sc_law_pieces.nd rfl (.inl rfl))) (fun _ _ _ _ _ => pts_nil) (fun _ _ _ _ _ => (pe_fldK (K := K) (pv 5) rfl)))) (pv 1) (nomark _)) (pss_one (ps_ret pe_non)) pss_nil)
  (pss_one (ps_ret (pv 2)))) pss_nil)
  (pss_cons (ps_set (i := 5) sc_law_pieces.nd rfl (.inl rfl) (pe_bm0 F.plainAttrs_list F.slot_list_pop F.type_list_pop mt_pop (pv 3)))
  (pss_cons (ps_if (pt_not (pt_truK K (C8.pe_c c_law_part_ok hr (by decide) (by rfl) (pa_cons (pv 5) pa_nil)) (by intro _; rfl))) (pss_one (ps_ret pe_non)) pss_nil)
  (pss_one (ps_if (pt_cmpR op_isNotU (pe_fldK (K := K) (pv 5) rfl) pe_non (nomark _)) (pss_cons (ps_expr (pe_bm F.plainAttrs_list F.slot_list_append F.type_list_append mt_append (pv 3) (pa_cons (pe_fldK (K := K) (pv 5) rfl) pa_nil)))
  (pss_one (ps_expr (pe_bm F.plainAttrs_list F.slot_list_append F.type_list_append mt_append (pv 3) (pa_cons (pe_fldK (K := K) (pv 5) rfl) pa_nil))))) (pss_one (ps_if (pt_cmpR op_gtU (pe_fldK (K := K) (pv 5) rfl) pe_int (nomark _)) (pss_one (ps_expr (pe_bm F.plainAttrs_list F.slot_list_append F.type_list_append mt_append (pv 2) (pa_cons (pv 5) pa_nil)))) pss_nil))))))))
  (pss_one (ps_ret pe_non))))), ?_⟩
    show (_ : TS) _ [some v, some (.str t), none, none, none, none] H
    have hsz := rt_size htx
    have htl := TL.len_tl t
    have hcnt : R.cnt + 1 ≤ 2 * t.length + 2 := by
      rcases oR with b | ⟨s, rfl, _⟩
      · have := cnt_le b; omega
      · show 1 + 1 ≤ _; omega
    walk_at "rd"
    refine newO_gen fun f H1 f1 s1 h1 => ?_
    walk_at "rd"
    refine newO_gen fun q H2 f2 s2 h2 => ?_
    have hfq : f ≠ q := f2.ne h1
    have h12 := s2 _ _ h1
    have f2' : Frs H q := Same.fre s1 f2
    walk_at "rd"
    refine loopR_by (fun i σ' H' => ∃ (fs : List V) (Ss : List Str) (us : List V) (Rs : List Rp) (o4 o5 : Option V), σ' = [some v, some (.str t), some (.ref f), some (.ref q), o4, o5] ∧ Same H H' ∧ H' f = some (.lst fs) ∧ H' q = some (.lst us) ∧ Paired (fun v s => RopeAt aRope H' v (leaf s)) fs Ss ∧ Paired (RopeAt aRope H') us Rs ∧ (∀ R ∈ Rs, Rok R) ∧
      (Ss.map TL.tl).flatten ++ (Rs.reverse.map Rp.txt).flatten = R.txt ∧ i + (Rs.map Rp.cnt).sum = R.cnt ∧ fs.length ≤ i) ?_ ?_ ?_
    · exact ⟨[], [], [v], [R], none, none, rfl, Same.trans s1 s2, h12, h2, .nil, .cons (hR.sm (Same.trans s1 s2)) .nil, fun R' h => by rw [List.mem_singleton.mp h]; exact oR, by simp, by simp, Nat.le_refl _⟩
    · rintro i σ' H3 hi ⟨fs, Ss, us, Rs, o4, o5, rfl, s3, hf3, hq3, hSs, hRs, ok, htx3, hm, hle⟩
      walk_at "rd"
      refine ifB (fun c => ?_) (fun c => ?_)
      · have hus : us = [] := by cases us with
          | nil => rfl
          | cons a l => simp at c
        subst hus
        cases hRs
        have htx' : (Ss.map TL.tl).flatten = R.txt := by simpa using htx3
        have hfl := Paired.len hSs
        walk_at "rd"
        refine compL_pure hf3 (fun acc _ => acc = (Ss.take acc.length).map V.str) (fun _ _ => rfl) (fun acc x H4 D c hx pa => ?_) fun acc H4 D hacc pa s4 hD fD => ?_
        · obtain ⟨s, hs, hxs⟩ := Paired.at hSs hx
          have hlt := c.lt
          obtain ⟨px, dx, rfl, hpx⟩ := hxs
          have hpx4 := c.since _ _ hpx
          walk_at "rd"
          refine pD_of c (by omega) (Same.refl _) fun H5 s5 => ?_
          rw [List.length_append]
          show acc ++ _ = (Ss.take (acc.length + 1)).map V.str
          rw [take_snoc hs, List.map_append, ← pa]
          rfl
        · rw [hacc, hfl, List.take_length] at pa
          subst pa
          walk_at "rd"
          refine join_lst hD (by rw [lens_sum, htx', txt_len]; show R.size + Ss.length * 0 ≤ _; omega) ?_
          have e : TL.tl (Txt.join (Str.ofString "") Ss) = (Ss.map TL.tl).flatten := tl_join0 Ss
          have e2 : Txt.join (Str.ofString "") Ss = t := str_ext (e.trans (htx'.trans htx))
          walk_at "rd"
          refine ifND (fun c => absurd e2 c) (fun _ => ?_)
          walk_at "rd"
          exact k f H4 (Same.trans s3 s4)
      · obtain ⟨us', u, rfl⟩ : ∃ us' v, us = us' ++ [v] := ⟨us.dropLast, us.getLast (fun e => by rw [e] at c; simp at c), (List.dropLast_concat_getLast _).symm⟩
        obtain ⟨Rs', R1, rfl, hRs', hR1⟩ := Paired.last hRs
        have ok1 := ok R1 (by simp)
        have hcl := cnts_len Rs'
        have hul := Paired.len hRs'
        have esum : ((Rs' ++ [R1]).map Rp.cnt).sum = (Rs'.map Rp.cnt).sum + R1.cnt := by simp
        rw [esum] at hm
        have cp := cnt_pos R1
        walk_at "rd"
        refine pop_lst hq3 (v := u) (by simp) ?_
        refine putO_gen hq3 fun H4 s4 h4 => ?_
        rw [List.dropLast_concat] at h4
        have hf4 := s4.keep f _ hfq hf3
        have s04 := SL.same s3 s4 f2'
        have hR4 := hR1.kp (KpS.sl s4)
        walk_at "rd"
        refine use_part_ok hR4 ok1 fun H5 s5 => ?_
        have hR5 := hR4.sm s5
        have h5 := s5 _ _ h4
        have hf5 := s5 _ _ hf4
        have s05 := Same.trans s04 s5
        have k35 : KpS H3 H5 := (KpS.sl s4).trans (KpS.same s5)
        cases R1 with
        | node L R2 =>
          have bb := ok1.nodeB
          obtain ⟨pv, dv, a, b, rfl, hpv, ha, hb⟩ := hR5
          obtain ⟨pa, da, ac, al, ar, rfl, hpa⟩ := ha.obj
          have ec : (node L R2).cnt = 1 + L.cnt + R2.cnt := rfl
          have c1 := cnt_pos L
          have c3 := cnt_pos R2
          walk_at "rd"
          refine ifND (fun _ => ?_) (fun z => nomatch z)
          walk_at "rd"
          refine putO_gen h5 fun H6 s6 h6 => ?_
          have hpv6 := (KpS.sl s6).ins hpv
          walk_at "rd"
          refine append_lst h6 (sz_lt (by rw [List.length_append]; show us'.length + 1 < _; omega)) ?_
          refine putO_gen h6 fun H7 s7 h7 => ?_
          have k57 : KpS H5 H7 := (KpS.sl s6).trans (KpS.sl s7)
          walk_at "rd"
          refine ⟨fs, Ss, us' ++ [b] ++ [V.ref pa], Rs' ++ [R2] ++ [L], _, _, rfl, SL.same (SL.same s05 s6 f2') s7 f2', s7.keep f _ hfq (s6.keep f _ hfq hf5), h7, Paired.imp (fun _ _ r => (r.kp k35).kp k57) hSs, ?_, ?_, ?_, ?_, by omega⟩
          · exact Paired.snoc (Paired.snoc (Paired.imp (fun _ _ r => (r.kp k35).kp k57) hRs') (hb.kp k57)) (ha.kp k57)
          · intro R' hm
            rcases List.mem_append.mp hm with hm | hm
            · rcases List.mem_append.mp hm with hm | hm
              · exact ok R' (List.mem_append_left _ hm)
              · rw [List.mem_singleton.mp hm]; exact .inl bb.2.1
            · rw [List.mem_singleton.mp hm]; exact .inl bb.1
          · rw [← htx3]
            simp [Rp.txt]
          · simp only [List.map_append, List.sum_append, List.map_cons, List.map_nil, List.sum_cons, List.sum_nil]
            omega
        | leaf s =>
          obtain ⟨pv, dv, rfl, hpv⟩ := id hR5
          have ec : (leaf s).cnt = 1 := rfl
          have es : (leaf s).size = s.length := rfl
          walk_at "rd"
          refine ifND (fun z => absurd rfl z) (fun _ => ?_)
          walk_at "rd"
          refine ifD (fun c2 => ?_) (fun c2 => ?_)
          · walk_at "rd"
            refine putO_gen hf5 fun H6 s6 h6 => ?_
            walk_at "rd"
            refine ⟨fs ++ [V.ref pv], Ss ++ [s], us', Rs', _, _, rfl, SL.same s05 s6 f1, h6, s6.keep q _ hfq.symm h5, ?_, Paired.imp (fun _ _ r => (r.kp k35).kp (KpS.sl s6)) hRs', fun R' hm => ok R' (List.mem_append_left _ hm), ?_, by omega, by rw [List.length_append]; show fs.length + 1 ≤ _; omega⟩
            · exact Paired.snoc (Paired.imp (fun _ _ r => (r.kp k35).kp (KpS.sl s6)) hSs) (hR5.kp (KpS.sl s6))
            · rw [← htx3]
              simp [Rp.txt]
          · walk_at "rd"
            have e0 : TL.tl s = [] := List.length_eq_zero_iff.mp (by rw [← TL.len_tl]; omega)
            refine ⟨fs, Ss, us', Rs', _, _, rfl, s05, hf5, h5, Paired.imp (fun _ _ r => r.kp k35) hSs, Paired.imp (fun _ _ r => r.kp k35) hRs', fun R' hm => ok R' (List.mem_append_left _ hm), ?_, by omega, by omega⟩
            rw [← htx3]
            simp [Rp.txt, e0]
    · rintro σ' H3 ⟨fs, Ss, us, Rs, o4, o5, rfl, s3, hf3, hq3, hSs, hRs, ok, htx3, hm, hle⟩
      exfalso
      omega
theorem cal_law_right {f : Addr} {fd : FuncData} (T : Txt mg) (FD : C8.Def K mg "_law_right" s_law_right f fd) (b : Binds K fd ["rope", "text"] [])
    (c_law_pieces : C8.Cal P w K mg base 3 "_law_pieces" (sp_law_pieces aRope) []) : C8.Cal P w K mg base 4 "_law_right" (sp_law_right aRope) [] := by
  refine C8.cal0 FD b .nil sc_law_right (fun vs H Q E h => ?_) (fun cdv A outer s H vs Q E hr h => ?_)
  · obtain ⟨v, t, rfl, _⟩ := h; rfl
  · obtain ⟨v, t, rfl, hv, hl, k⟩ := h
    refine ⟨_, (pss_one (ps_ret (pe_cmpR op_isNotU (C8.pe_c c_law_pieces hr (by decide) (by rfl) (pa_cons (pv 0) (pa_cons (pv 1) pa_nil))) pe_non (nomark _)))), ?_⟩
    show (_ : TS) _ [some v, some (.str t)] H
    walk_at "rd"
    refine use_pieces hv hl fun q H1 s1 => ?_
    walk_at "rd"
    exact k H1 s1
end
end Z
namespace Z
open PySem PySem.Spec L2 ItX
open Rp
local macro_rules | `(tactic| walk_at "ne") => `(tactic| first
  | with_reducible assumption
  | with_reducible exact Ne.symm (by assumption)
  | exact Frs.ne (by with_reducible assumption) (by walk_at "hp")
  | exact Frs.ne' (by with_reducible assumption) (by walk_at "hp"))
local macro_rules | `(tactic| walk_at "hp") => `(tactic| first
  | with_reducible assumption
  | (with_reducible refine Same.at (by assumption) ?_; walk_at "hp")
  | (with_reducible refine SL.tup (by assumption) ?_; walk_at "hp")
  | (with_reducible refine SL.at (by assumption) (by walk_at "ne") ?_; walk_at "hp"))
local macro_rules | `(tactic| walk_at "sz") => `(tactic| first
  | with_reducible assumption
  | exact Nat.le_of_ble_eq_true rfl
  | (refine sz_le ?_; omega)
  | (refine sz_lt ?_; omega)
  | decide +kernel)
local macro_rules | `(tactic| walk_at "at") => `(tactic| first
  | with_reducible assumption
  | with_reducible exact at0
  | with_reducible exact at1
  | with_reducible exact at2
  | with_reducible exact ixN0)
local macro_rules | `(tactic| walk_at "nn") => `(tactic| first
  | omega
  | decide
  | exact ⟨by decide, by decide⟩
  | exact ⟨by omega, by omega⟩
  | exact ⟨by omega, by omega, by omega, by omega⟩)
local macro_rules | `(tactic| walk_at "rdv") => `(tactic| first
  | (with_reducible refine add_int ?_)
  | (with_reducible refine sub_int ?_)
  | (with_reducible refine neg_int ?_)
  | ((with_reducible refine ix_tpl (xs := ?xs) (v := ?v) ?h1 ?h2 ?_); (case h1 => walk_at "hp"); (case h2 => walk_at "at"))
  | ((with_reducible refine ix_lst (xs := ?xs) (v := ?v) ?h1 ?h2 ?_); (case h1 => walk_at "hp"); (case h2 => walk_at "at"))
  | (with_reducible refine eq_int ?_)
  | (with_reducible refine ne_int ?_)
  | (with_reducible refine lt_int ?_)
  | (with_reducible refine le_int ?_)
  | (with_reducible refine gt_int ?_)
  | (with_reducible refine ge_int ?_)
  | (with_reducible refine eq_str ?_)
  | (with_reducible refine ne_str ?_)
  | (with_reducible refine eq_bl ?_)
  | (with_reducible refine ne_bl ?_)
  | ((with_reducible refine mod_int ?hc ?_); (case hc => walk_at "nn"))
  | ((with_reducible refine div_int ?hc ?_); (case hc => walk_at "nn"))
  | ((with_reducible refine mul_intR ?hc ?_); (case hc => exact ⟨by decide, by decide⟩))
  | ((with_reducible refine mul_intR ?hc ?_); (case hc => exact ⟨by omega, by omega⟩))
  | ((with_reducible refine mul_intL ?hc ?_); (case hc => exact ⟨by omega, by omega⟩))
  | ((with_reducible refine pow_int ?hc ?_); (case hc => exact ⟨by decide, by decide, by decide⟩))
  | ((with_reducible refine add_str ?hc ?_); (case hc => walk_at "sz"))
  | ((with_reducible refine add_lst (xs := ?xs) (ys := ?ys) ?h1 ?h2 ?hc ?_); (case h1 => walk_at "hp"); (case h2 => walk_at "hp"); (case hc => walk_at "sz"))
  | ((with_reducible refine sl_strU ?hc ?_); (case hc => walk_at "sz"))
  | ((with_reducible refine sl_lst (xs := ?xs) ?h1 ?_); (case h1 => walk_at "hp"))
  | (with_reducible refine is_bl ?_)
  | (with_reducible refine isnt_bl ?_)
  | (with_reducible refine is_non ?_)
  | (with_reducible refine isnt_non ?_))
local macro_rules | `(tactic| walk_at "rdc") => `(tactic| first
  | ((with_reducible refine len_lst (xs := ?xs) ?h1 ?_); (case h1 => walk_at "hp"))
  | ((with_reducible refine len_tup (xs := ?xs) ?h1 ?_); (case h1 => walk_at "hp"))
  | ((with_reducible refine len_str ?hc ?_); (case hc => walk_at "sz"))
  | (with_reducible refine int_int ?_)
  | (with_reducible refine max_int ?_)
  | (with_reducible refine min_int ?_)
  | (with_reducible refine abs_int ?_)
  | (with_reducible refine isi_ii ?_)
  | (with_reducible refine isi_ib ?_)
  | (with_reducible refine isi_ss ?_)
  | (with_reducible refine isi_bb ?_)
  | ((with_reducible refine isi_tt (xs := ?xs) ?h1 ?_); (case h1 => walk_at "hp"))
  | ((with_reducible refine isi_ll (xs := ?xs) ?h1 ?_); (case h1 => walk_at "hp"))
  | ((with_reducible refine list_lst (xs := ?xs) ?h1 ?_); (case h1 => walk_at "hp"))
  | ((with_reducible refine list_tup (xs := ?xs) ?h1 ?_); (case h1 => walk_at "hp"))
  | ((with_reducible refine tuple_lst (xs := ?xs) ?h1 ?_); (case h1 => walk_at "hp"))
  | ((with_reducible refine tuple_tup (xs := ?xs) ?h1 ?_); (case h1 => walk_at "hp"))
  | ((with_reducible refine append_lst (xs := ?xs) ?h1 ?hc ?_); (case h1 => walk_at "hp"); (case hc => walk_at "sz"))
  | ((with_reducible refine clear_lst (xs := ?xs) ?h1 ?_); (case h1 => walk_at "hp"))
  | ((with_reducible refine set_lst (xs := ?xs) (k := ?k) ?h1 ?h2 ?_); (case h1 => walk_at "hp"); (case h2 => walk_at "at")))
local macro_rules | `(tactic| walk_at "rd1") => `(tactic| first
  | ((with_reducible refine rVar (v := ?v) ?h ?_); (case h => exact rfl))
  | (with_reducible refine rC ?_)
  | (with_reducible refine rCons ?_)
  | (with_reducible refine rNil ?_)
  | (with_reducible refine rOp ?_)
  | (with_reducible refine rSeq ?_)
  | (with_reducible refine rAsgN ?_)
  | (with_reducible refine rAsgT ?_)
  | (with_reducible refine rAsgS ?_)
  | (with_reducible refine rTest ?_)
  | (with_reducible refine rBl ?_)
  | (with_reducible refine rBl' ?_)
  | (with_reducible refine rInt ?_)
  | (with_reducible refine rInt' ?_)
  | (with_reducible refine rCall ?_)
  | (with_reducible refine rCB ?_)
  | (with_reducible refine rRet ?_)
  | (with_reducible refine rDrop ?_)
  | (with_reducible refine rIfS ?_)
  | (with_reducible refine rTup ?_)
  | (with_reducible refine rLst ?_)
  | (with_reducible refine ⟨Nat.le_of_ble_eq_true rfl, ?_⟩)
  | (with_reducible refine rSl ?_)
  | (with_reducible refine rPart ?_)
  | (with_reducible refine rNoPart ?_)
  | (with_reducible refine rBM ?_)
  | (with_reducible refine rBM0 ?_)
  | ((with_reducible refine tyL (xs := ?xs) ?h1 ?_); (case h1 => walk_at "hp"))
  | (with_reducible refine rM1 ?_)
  | (with_reducible refine rM0 ?_)
  | (with_reducible refine rStr ?_)
  | (with_reducible refine rTru ?_)
  | (with_reducible refine tru_bl ?_)
  | (with_reducible refine tru_int ?_)
  | ((with_reducible refine tru_lst (xs := ?xs) ?h1 ?_); (case h1 => walk_at "hp"))
  | ((with_reducible refine tru_tup (xs := ?xs) ?h1 ?_); (case h1 => walk_at "hp"))
  | ((with_reducible refine tru_str ?hc ?_); (case hc => walk_at "sz"))
  | (with_reducible refine rAnd ?_)
  | (with_reducible refine rOr ?_)
  | (with_reducible refine rNot ?_)
  | (with_reducible refine rAndV ?_)
  | (with_reducible refine rOrV ?_)
  | (with_reducible refine rNotV ?_)
  | (with_reducible refine rIfE ?_)
  | (with_reducible refine rChain ?_)
  | (with_reducible refine rChain3 ?_)
  | (with_reducible refine ifT ?_)
  | (with_reducible refine ifF ?_)
  | (with_reducible refine ifNF ?_)
  | (with_reducible refine ifNT ?_)
  | (with_reducible refine rNext ?_)
  | (with_reducible refine rBrk ?_)
  | (with_reducible refine rCnt ?_)
  | (with_reducible refine rRetN ?_)
  | (with_reducible refine rForR1 ?_)
  | (with_reducible refine rForR2 ?_)
  | (with_reducible refine rForL ?_)
  | ((with_reducible refine rRg1 ?hb ?_); (case hb => walk_at "nn"))
  | ((with_reducible refine rRg2 ?hb ?_); (case hb => walk_at "nn"))
  | ((with_reducible refine rRf (xs := ?xs) ?h1 ?_); (case h1 => walk_at "hp"))
  | (with_reducible refine rLcR1 ?_)
  | (with_reducible refine rLcR2 ?_)
  | (with_reducible refine rLcL ?_)
  | (with_reducible refine gN ?_)
  | (with_reducible refine gNl ?_)
  | (with_reducible refine gC ?_)
  | ((with_reducible refine gT (xs := ?xs) ?h1 ?h2 ?_); (case h1 => walk_at "hp"); (case h2 => exact rfl))
  | (with_reducible refine rUn ?_)
  | walk_at "rdv"
  | walk_at "rdc")
local macro_rules | `(tactic| walk_at "rd") => `(tactic| repeat walk_at "rd1")

local macro_rules | `(tactic| walk_at "rd1") => `(tactic| first
  | (with_reducible refine rCallS ?_)
  | (with_reducible refine rRaise ?_)
  | (with_reducible refine rXf ?_)
  | (with_reducible refine rXi ?_)
  | (with_reducible refine rOst ?_)
  | (with_reducible refine rRevL ?_)
  | ((with_reducible refine revL_end (xs := ?xs) ?h1 ?_); (case h1 => walk_at "hp")))

local macro_rules | `(tactic| walk_at "rd1") => `(tactic| first
  | (with_reducible refine rForR3 ?_)
  | ((with_reducible refine rRgD ?hb ?_); (case hb => walk_at "nn"))
  | (with_reducible refine gS ?_))

local macro_rules | `(tactic| walk_at "rd1") => `(tactic| first
  | (with_reducible refine rFld ?_)
  | (with_reducible refine rSFld ?_)
  | (with_reducible refine rMake ?_)
  | (with_reducible refine rMeth ?_)
  | (with_reducible refine rForT ?_)
  | (with_reducible refine rLcT ?_)
  | (with_reducible refine rLcO ?_)
  | (with_reducible refine rForO ?_)
  | (with_reducible refine rLstY ?_)
  | ((with_reducible refine rRt (xs := ?xs) ?h1 ?_); (case h1 => walk_at "hp"))
  | ((with_reducible refine listY_lst (xs := ?xs) ?h1 ?_); (case h1 => walk_at "hp"))
  | ((with_reducible refine listY_tup (xs := ?xs) ?h1 ?_); (case h1 => walk_at "hp")))

local macro_rules | `(tactic| walk_at "rd1") => `(tactic| first
  | (with_reducible refine rLcR3 ?_)
  | (with_reducible refine rMethT ?_)
  | (with_reducible refine rMkW ?_)
  | ((with_reducible refine fR_piece (mg := ?mg) (C := ?C) (dx := ?dx) (pc := ?pc) (l := ?l) (r := ?r) (s := ?s) (h := ?h) ?hu ?hp ?_); (case hu => with_reducible assumption); (case hp => walk_at "hp"))
  | ((with_reducible refine fR_left (mg := ?mg) (C := ?C) (dx := ?dx) (pc := ?pc) (l := ?l) (r := ?r) (s := ?s) (h := ?h) ?hu ?hp ?_); (case hu => with_reducible assumption); (case hp => walk_at "hp"))
  | ((with_reducible refine fR_right (mg := ?mg) (C := ?C) (dx := ?dx) (pc := ?pc) (l := ?l) (r := ?r) (s := ?s) (h := ?h) ?hu ?hp ?_); (case hu => with_reducible assumption); (case hp => walk_at "hp"))
  | ((with_reducible refine fR_size (mg := ?mg) (C := ?C) (dx := ?dx) (pc := ?pc) (l := ?l) (r := ?r) (s := ?s) (h := ?h) ?hu ?hp ?_); (case hu => with_reducible assumption); (case hp => walk_at "hp"))
  | ((with_reducible refine fR_height (mg := ?mg) (C := ?C) (dx := ?dx) (pc := ?pc) (l := ?l) (r := ?r) (s := ?s) (h := ?h) ?hu ?hp ?_); (case hu => with_reducible assumption); (case hp => walk_at "hp")))
local macro_rules | `(tactic| walk_at "rd1") => `(tactic| first
  | (with_reducible refine rMeth ?_)
  | ((with_reducible refine meth_end (C := ?C) (dx := ?dx) (fs := ?fs) ?hp ?hl ?_); (case hp => walk_at "hp"); (case hl => exact ropF_no (by decide +kernel) (by decide +kernel) (by decide +kernel) (by decide +kernel) (by decide +kernel))))

def spWay : Sp := fun vs H Q _ => ∃ r : Addr, vs = [.ref r] ∧ Reel H r ∧ ∀ H', Q (.bl true) H'
theorem use_way {r : Addr} {H : Hp} {Q : VK} {E : XK} (hR : Reel H r) (h : ∀ H', Q (.bl true) H') : spWay [.ref r] H Q E := ⟨r, rfl, hR, h⟩
abbrev sp_law_many_edits (_ : Addr) : Sp := spWay
abbrev sp_law_many_joins (_ : Addr) : Sp := spWay
abbrev sp_law_unlike_joins (_ : Addr) : Sp := spWay
abbrev sp_law_cut_ones (_ : Addr) : Sp := spWay
def sp_law (K : PySem.W.Frag) : Sp := fun vs H Q _ => ∃ (a : Addr) (ns : List Int), vs = [.ref a] ∧ SqL K H a (ns.map V.int) ∧ ns.length ≤ 63 ∧ ∀ H', Q (.bl true) H'
theorem aps_one (t : Str) (x : Ed) : aps t [x] = ap t x := rfl
section
variable {P : Program} {w : World} {K : PySem.W.Frag} {mg : Str → Option Value} {base : Heap} {aE aRope : Addr}
theorem cal_law_many_edits {f : Addr} {fd : FuncData} (T : Txt mg) (FD : C8.Def K mg "_law_many_edits" s_law_many_edits f fd) (b : Binds K fd ["reel"] [])
    (c_law_text : C8.Cal P w K mg base 4 "_law_text" sp_law_text [])
    (c_law_edit_row : C8.Cal P w K mg base 5 "_law_edit_row" sp_law_edit_row [])
    (c_law_right : C8.Cal P w K mg base 4 "_law_right" (sp_law_right aRope) [])
    (c_Rope_of : Stat P w K mg base 17 "Rope" "of" (sp_Rope_of aRope))
    (c_Rope_edited : MetX P w K mg base 58 aRope "edited" (sp_Rope_edited aRope aE))
    (u_Rope : F_Rope K mg aRope) : C8.Cal P w K mg base 59 "_law_many_edits" (sp_law_many_edits aRope) [] := by
  refine C8.cal0 FD b .nil sc_law_many_edits (fun vs H Q E h => ?_) (fun cdv A outer s H vs Q E hr h => ?_)
  · obtain ⟨r, rfl, _⟩ := h; rfl
  · obtain ⟨r, rfl, hRl, k⟩ := h
    refine ⟨_, (pss_cons (ps_set (i := 1) sc_law_many_edits.nd rfl (.inl rfl) (C8.pe_c c_law_text hr (by decide) (by rfl) (pa_cons (pv 0) pa_nil)))
  (pss_cons (ps_set (i := 2) sc_law_many_edits.nd rfl (.inl rfl) (pe_st c_Rope_of hr (by decide) (by rfl) (pa_cons (pv 1) pa_nil)))
  (pss_cons (ps_if (pt_not (pt_truK K (C8.pe_c c_law_right hr (by decide) (by rfl) (pa_cons (pv 2) (pa_cons (pv 1) pa_nil))) (by intro _; rfl))) (pss_one (ps_ret pe_bl)) pss_nil)
  (pss_cons (ps_set (i := 3) sc_law_many_edits.nd rfl (.inl rfl) (C8.pe_c c_law_edit_row hr (by decide) (by rfl) (pa_cons (pv 0) (pa_cons (pv 1) (pa_cons pe_int pa_nil)))))
  (pss_cons (ps_set (i := 4) sc_law_many_edits.nd rfl (.inl rfl) (pe_mtn c_Rope_edited hr (by decide) (pv 2) (pa_cons (pe_callTy (call_listK K) (by rfl) T.n_list (by decide +kernel) (pa_cons (pv 3) pa_nil)) pa_nil)))
  (pss_cons (ps_for PassesOwn.never rfl (pi_range1 rfl T.n_range (pa_cons pe_int pa_nil)) (pg_name (i := 5) sc_law_many_edits.nd rfl (.inl rfl)) (pss_cons (ps_set (i := 2) sc_law_many_edits.nd rfl (.inl rfl) (pe_mtn c_Rope_edited hr (by decide) (pv 2) (pa_cons (pe_lst (pa_cons (pe_ix (ix_K K) (pv 3) (pv 5) (fun _ _ => rfl)) pa_nil)) pa_nil)))
  (pss_cons (ps_set (i := 1) sc_law_many_edits.nd rfl (.inl rfl) (pe_op (op_addK K) (pe_op (op_addK K) (pe_slice (sl_K K) (pv 1) po_none (po_some (pe_ix (ix_K K) (pe_ix (ix_K K) (pv 3) (pv 5) (fun _ _ => rfl)) pe_int (fun _ _ => rfl)))) (pe_ix (ix_K K) (pe_ix (ix_K K) (pv 3) (pv 5) (fun _ _ => rfl)) pe_int (fun _ _ => rfl))) (pe_slice (sl_K K) (pv 1) (po_some (pe_ix (ix_K K) (pe_ix (ix_K K) (pv 3) (pv 5) (fun _ _ => rfl)) pe_int (fun _ _ => rfl))) po_none)))
  (pss_one (ps_if (PW.pt (pw_and (PW.pt (pw_or (pt_cmpR op_ltU (pe_callB (call_lenK K) (by rfl) T.n_len PySem.boot_len (pa_cons (pv 1) pa_nil)) pe_int (nomark _)) (pw_or1 (pt_cmpR (op_eqK K (hu64 hr)) (pe_op op_modU (pe_callTy call_intU (by rfl) T.n_int (by decide +kernel) (pa_cons (pv 5) pa_nil)) pe_int) pe_int (nomark _))))) (pw_and1 (pt_not (pt_truK K (C8.pe_c c_law_right hr (by decide) (by rfl) (pa_cons (pv 2) (pa_cons (pv 1) pa_nil))) (by intro _; rfl)))))) (pss_one (ps_ret pe_bl)) pss_nil)))))
  (pss_one (ps_ret (C8.pe_c c_law_right hr (by decide) (by rfl) (pa_cons (pv 4) (pa_cons (pv 1) pa_nil))))))))))), ?_⟩
    show (_ : TS) _ [some (.ref r), none, none, none, none, none] H
    walk_at "rd"
    refine use_txt hRl fun t H1 ht0 htk s1 r1 => ?_
    walk_at "rd"
    refine use_of (by omega) fun v H2 R s2 hR oR tR => ?_
    have r2 := r1.same s2
    have rt2 : RT aRope H2 v t := ⟨R, hR, oR, tR⟩
    walk_at "rd"
    refine use_right rt2 (by omega) fun H3 s3 => ?_
    have r3 := r2.same s3
    walk_at "rd"
    refine use_edit_rowK r3 ⟨by omega, htk⟩ ⟨by omega, by omega⟩ fun pe ue ee H4 s4 r4 f4 h4 hed4 hel hen hef hall => ?_
    have hul := Paired.len hed4
    have rt4 := (rt2.sm s3).kp (KpS.sl s4)
    have sm : Small ee := ⟨by omega, hen⟩
    obtain ⟨R5, hR4, oR5, tR5⟩ := rt4
    obtain ⟨pv, dv, vc, vl, vr, rfl, hpv⟩ := hR4.obj
    walk_at "rd"
    refine newO_gen fun q5 H5 f5 s5 h5 => ?_
    have hR5 := hR4.sm s5
    walk_at "rd"
    refine use_edited hR5 oR5 tR5 h5 (hed4.ts (TpS.same s5)) sm.mild (fun _ => ⟨fun k => by have := hall k; omega, fun x H6 J s6 hJ oJ tJ => ?_⟩) (fun n hn => absurd (fu_fits hef) (by omega))
    have rt6 : RT aRope H6 x (aps t ee) := ⟨J, hJ, oJ, tJ⟩
    have s46 := Same.trans s5 s6
    have h46 := s46 _ _ h4
    have hed6 := hed4.ts (TpS.same s46)
    have rv6 : RT aRope H6 (.ref pv) t := ⟨R5, hR5.sm s6, oR5, tR5⟩
    walk_at "rd"
    refine loopR_by (fun i σ' H' => ∃ (u : V) (o5 : Option V), σ' = [some (.ref r), some (.str (aps t (ee.take i))), some u, some (.ref pe), some x, o5] ∧ Same H6 H' ∧ RT aRope H' u (aps t (ee.take i))) ?_ ?_ ?_
    · exact ⟨_, none, by rw [List.take_zero]; rfl, Same.refl H6, by rw [List.take_zero]; exact rv6⟩
    · rintro i σ' H7 hi ⟨u, o5, rfl, s7, rt7⟩
      have hil : i < ee.length := by omega
      obtain ⟨xe, hx⟩ : ∃ xe, ee[i]? = some xe := ⟨_, List.getElem?_eq_getElem hil⟩
      obtain ⟨ve, hve, px, rfl, hpx⟩ := Paired.at' hed6 hx
      have hpx7 := s7 _ _ hpx
      have h47 := s7 _ _ h46
      have hat : atI ue (0 + (i : Int)) = some (.ref px) := at_of (j := i) (by omega) hve
      have hxm := sm.mild.new xe (List.mem_of_getElem? hx)
      have hxn := sm.new xe (List.mem_of_getElem? hx)
      have hf0 := fits_take hef i
      have hf1 := fits_take hef (i + 1)
      rw [take_snoc hx] at hf1
      have hfx := (fits_app.mp hf1).2.1
      have hla := len_aps hf0
      rw [← hla] at hfx
      have hb0 := hall i
      have hb1 := hall (i + 1)
      rw [take_snoc hx, sza_snoc, ← hla] at hb1
      rw [← hla] at hb0
      have enew : aps t (ee.take (i + 1)) = ap (aps t (ee.take i)) xe := by rw [take_snoc hx, aps_snoc]
      rw [enew]
      generalize aps t (ee.take i) = T at *
      have q1 := cutS_length T none (some xe.s)
      have q2 := cutS_length T (some xe.e) none
      have q3 := len_app (cutS T none (some xe.s)) xe.n
      have q4 := len_app (cutS T none (some xe.s) ++ xe.n) (cutS T (some xe.e) none)
      have hap := len_ap hfx
      obtain ⟨R7, hR7, oR7, tR7⟩ := rt7
      obtain ⟨pu, du, uc, ul, ur, rfl, hpu⟩ := hR7.obj
      walk_at "rd"
      refine newO_gen fun q8 H8 f8 s8 h8 => ?_
      have hpu8 := s8 _ _ hpu
      have hf8 : fits (T.length : Int) [xe] := ⟨hfx, trivial⟩
      walk_at "rd"
      refine use_edited (hR7.sm s8) oR7 tR7 h8 (.cons ⟨px, rfl, s8 _ _ hpx7⟩ .nil) ⟨by show 1 ≤ 400; omega, fun y hy => by rw [List.mem_singleton.mp hy]; exact hxm⟩ (fun _ => ⟨fun k => ?_, fun x9 H9 J9 s9 hJ9 oJ9 tJ9 => ?_⟩) (fun n hn => absurd (fu_fits hf8) (by omega))
      · cases k with
        | zero => show (T.length : Int) ≤ 100000; omega
        | succ k => rw [List.take_of_length_le (by show 1 ≤ k + 1; omega)]; show nsz (T.length : Int) xe ≤ 100000; omega
      have s79 := Same.trans s8 s9
      have h49 := s79 _ _ h47
      have hpx9 := s79 _ _ hpx7
      have rt9 : RT aRope H9 x9 (ap T xe) := ⟨J9, hJ9, oJ9, by rw [tJ9, aps_one]⟩
      have eap : ap T xe = cutS T none (some xe.s) ++ xe.n ++ cutS T (some xe.e) none := rfl
      walk_at "rd"
      rw [← eap] at q4 ⊢
      refine ifD (fun c => ?_) (fun c => ?_)
      · walk_at "rd"
        refine use_right rt9 (by omega) fun HA sA => ?_
        walk_at "rd"
        exact ⟨x9, _, rfl, Same.trans s7 (Same.trans s79 sA), rt9.sm sA⟩
      · walk_at "rd"
        refine ifD (fun c2 => ?_) (fun c2 => ?_)
        · walk_at "rd"
          refine use_right rt9 (by omega) fun HA sA => ?_
          walk_at "rd"
          exact ⟨x9, _, rfl, Same.trans s7 (Same.trans s79 sA), rt9.sm sA⟩
        · walk_at "rd"
          exact ⟨x9, _, rfl, Same.trans s7 s79, rt9⟩
    · rintro σ' H7 ⟨u, o5, rfl, s7, rt7⟩
      have e30 : ee.take ((30 : Int)).toNat = ee := List.take_of_length_le (by omega)
      have hla := len_aps hef
      have hb := hall ee.length
      rw [List.take_length, ← hla] at hb
      rw [e30]
      walk_at "rd"
      exact use_right (rt6.sm s7) (by omega) fun HA _ => k HA
theorem cal_law_many_joins {f : Addr} {fd : FuncData} (T : Txt mg) (FD : C8.Def K mg "_law_many_joins" s_law_many_joins f fd) (b : Binds K fd ["reel"] [])
    (c_law_draw : C8.Cal P w K mg base 1 "_law_draw" sp_law_draw [])
    (c_law_right : C8.Cal P w K mg base 4 "_law_right" (sp_law_right aRope) [])
    (c_law_stepped : C8.Cal P w K mg base 3 "_law_stepped" sp_law_stepped [])
    (c_Rope_of : Stat P w K mg base 17 "Rope" "of" (sp_Rope_of aRope))
    (c_Rope_joined : C8.Met P w K mg base 31 aRope "joined" (sp_Rope_joined aRope) [])
    (u_Rope : F_Rope K mg aRope) : C8.Cal P w K mg base 32 "_law_many_joins" (sp_law_many_joins aRope) [] := by
  refine C8.cal0 FD b .nil sc_law_many_joins (fun vs H Q E h => ?_) (fun cdv A outer s H vs Q E hr h => ?_)
  · obtain ⟨r, rfl, _⟩ := h; rfl
  · obtain ⟨r, rfl, hRl, k⟩ := h
    refine ⟨_, (pss_cons (ps_set (i := 1) sc_law_many_joins.nd rfl (.inl rfl) (C8.pe_c c_law_draw hr (by decide) (by rfl) (pa_cons (pv 0) (pa_cons pe_int pa_nil))))
  (pss_cons (ps_set (i := 2) sc_law_many_joins.nd rfl (.inl rfl) (pe_st c_Rope_of hr (by decide) (by rfl) (pa_cons pe_str pa_nil)))
  (pss_cons (ps_set (i := 3) sc_law_many_joins.nd rfl (.inl rfl) pe_str)
  (pss_cons (ps_for PassesOwn.never rfl (pi_range1 rfl T.n_range (pa_cons (pe_op (op_addK K) pe_int (C8.pe_c c_law_draw hr (by decide) (by rfl) (pa_cons (pv 0) (pa_cons pe_int pa_nil)))) pa_nil)) (pg_name (i := 4) sc_law_many_joins.nd rfl (.inl rfl)) (pss_cons (ps_set (i := 5) sc_law_many_joins.nd rfl (.inl rfl) (C8.pe_c c_law_stepped hr (by decide) (by rfl) (pa_cons (pv 0) (pa_cons (pe_op (op_addK K) pe_int (C8.pe_c c_law_draw hr (by decide) (by rfl) (pa_cons (pv 0) (pa_cons pe_int pa_nil)))) pa_nil))))
  (C8.pss_cut (ps_if (PW.pt (pw_or (pt_cmpR (op_eqK K (hu64 hr)) (pv 1) pe_int (nomark _)) (pw_or1 (PW.pt (pw_and (pt_cmpR (op_eqK K (hu64 hr)) (pv 1) pe_int (nomark _)) (pw_and1 (pt_cmpR (op_eqK K (hu64 hr)) (pe_op op_modU (pe_callTy call_intU (by rfl) T.n_int (by decide +kernel) (pa_cons (pv 4) pa_nil)) pe_int) pe_int (nomark _)))))))) (pss_cons (ps_set (i := 2) sc_law_many_joins.nd rfl (.inl rfl) (C8.pe_mt c_Rope_joined hr (by decide) (pv 2) (pa_cons (pe_st c_Rope_of hr (by decide) (by rfl) (pa_cons (pv 5) pa_nil)) pa_nil)))
  (pss_one (ps_set (i := 3) sc_law_many_joins.nd rfl (.inl rfl) (pe_op (op_addK K) (pv 3) (pv 5))))) (pss_cons (ps_set (i := 2) sc_law_many_joins.nd rfl (.inl rfl) (C8.pe_mt c_Rope_joined hr (by decide) (pe_st c_Rope_of hr (by decide) (by rfl) (pa_cons (pv 5) pa_nil)) (pa_cons (pv 2) pa_nil)))
  (pss_one (ps_set (i := 3) sc_law_many_joins.nd rfl (.inl rfl) (pe_op (op_addK K) (pv 5) (pv 3))))))
  (pss_one (ps_if (PW.pt (pw_and (PW.pt (pw_or (pt_cmpR op_ltU (pv 4) pe_int (nomark _)) (pw_or1 (pt_cmpR (op_eqK K (hu64 hr)) (pe_op op_modU (pe_callTy call_intU (by rfl) T.n_int (by decide +kernel) (pa_cons (pv 4) pa_nil)) pe_int) pe_int (nomark _))))) (pw_and1 (pt_not (pt_truK K (C8.pe_c c_law_right hr (by decide) (by rfl) (pa_cons (pv 2) (pa_cons (pv 3) pa_nil))) (by intro _; rfl)))))) (pss_one (ps_ret pe_bl)) pss_nil)))))
  (pss_one (ps_ret (C8.pe_c c_law_right hr (by decide) (by rfl) (pa_cons (pv 2) (pa_cons (pv 3) pa_nil))))))))), ?_⟩
    show (_ : TS) _ [some (.ref r), none, none, none, none, none] H
    walk_at "rd"
    refine use_draw hRl (by omega) fun wy H1 a1 b1 s1 r1 => ?_
    walk_at "rd"
    refine use_of (by decide +kernel) fun v H2 R s2 hR oR tR => ?_
    have r2 := r1.same s2
    walk_at "rd"
    refine use_draw r2 (by omega) fun d H3 a3 b3 s3 r3 => ?_
    have rt3 : RT aRope H3 v (Str.ofString "") := ⟨R, hR.kp (KpS.sl s3), oR, tR⟩
    walk_at "rd"
    refine loopR_by (fun i σ' H' => ∃ (u : V) (T : Str) (o4 o5 : Option V), σ' = [some (.ref r), some (.int wy), some u, some (.str T), o4, o5] ∧ Reel H' r ∧ RT aRope H' u T ∧ T.length ≤ 20 * i) ?_ ?_ ?_
    · exact ⟨v, _, none, none, rfl, r3, rt3, by decide +kernel⟩
    · rintro i σ' H4 hi ⟨u, T, o4, o5, rfl, r4, rt4, hT⟩
      walk_at "rd"
      refine use_draw r4 (by omega) fun e H5 a5 b5 s5 r5 => ?_
      walk_at "rd"
      refine use_stepped r5 (by omega) fun wd H6 hw hwk s6 r6 => ?_
      have s46 := s5.trans s6
      obtain ⟨R6, hR6, oR6, tR6⟩ := rt4.kp (KpS.sl s46)
      obtain ⟨pu, du, uc, ul, ur, rfl, hpu⟩ := hR6.obj
      have hzu := rt_size tR6
      have q1 := len_app T wd
      have q2 := len_app wd T
      walk_at "rd"
      have atEnd : ∀ (v7 : V) (H7 : Hp) (R7 : Rp), Same H6 H7 → RopeAt aRope H7 v7 R7 → Rok R7 → R7.txt = TL.tl wd → ∀ x8 H8 J8, Same H7 H8 → RopeAt aRope H8 x8 J8 → Rok J8 → J8.txt = R6.txt ++ R7.txt → RT aRope H8 x8 (T ++ wd) := fun v7 H7 R7 s7 h7 o7 t7 x8 H8 J8 s8 h8 o8 t8 => ⟨J8, h8, o8, by rw [t8, tR6, t7, TL.tl_append]⟩
      have atHead : ∀ (v7 : V) (H7 : Hp) (R7 : Rp), Same H6 H7 → RopeAt aRope H7 v7 R7 → Rok R7 → R7.txt = TL.tl wd → ∀ x8 H8 J8, Same H7 H8 → RopeAt aRope H8 x8 J8 → Rok J8 → J8.txt = R7.txt ++ R6.txt → RT aRope H8 x8 (wd ++ T) := fun v7 H7 R7 s7 h7 o7 t7 x8 H8 J8 s8 h8 o8 t8 => ⟨J8, h8, o8, by rw [t8, tR6, t7, TL.tl_append]⟩
      refine rCut (fun σ' H' => ∃ (u : V) (T' : Str), σ' = [some (.ref r), some (.int wy), some u, some (.str T'), some (.int (0 + (i : Int))), some (.str wd)] ∧ Reel H' r ∧ RT aRope H' u T' ∧ T'.length ≤ 20 * (i + 1)) ?_ ?_
      · walk_at "rd"
        refine ifD (fun c => ?_) (fun c => ?_)
        · walk_at "rd"
          refine use_of (by omega) fun v7 H7 R7 s7 hR7 oR7 tR7 => ?_
          have hz7 := rt_size tR7
          walk_at "rd"
          refine ⟨_, _, R6, R7, rfl, hR6.sm s7, hR7, oR6, oR7, by omega, by omega, fun x8 H8 J8 s8 h8 o8 t8 => ?_⟩
          walk_at "rd"
          exact ⟨x8, _, rfl, (r6.same s7).same s8, atEnd v7 H7 R7 s7 hR7 oR7 tR7 x8 H8 J8 s8 h8 o8 t8, by omega⟩
        walk_at "rd"
        refine ifD (fun c2 => ?_) (fun c2 => ?_)
        · walk_at "rd"
          refine ifD (fun c3 => ?_) (fun c3 => ?_)
          · walk_at "rd"
            refine use_of (by omega) fun v7 H7 R7 s7 hR7 oR7 tR7 => ?_
            have hz7 := rt_size tR7
            walk_at "rd"
            refine ⟨_, _, R6, R7, rfl, hR6.sm s7, hR7, oR6, oR7, by omega, by omega, fun x8 H8 J8 s8 h8 o8 t8 => ?_⟩
            walk_at "rd"
            exact ⟨x8, _, rfl, (r6.same s7).same s8, atEnd v7 H7 R7 s7 hR7 oR7 tR7 x8 H8 J8 s8 h8 o8 t8, by omega⟩
          · walk_at "rd"
            refine use_of (by omega) fun v7 H7 R7 s7 hR7 oR7 tR7 => ?_
            have hz7 := rt_size tR7
            obtain ⟨pw, dw, wc, wl, wr, rfl, hpw⟩ := hR7.obj
            walk_at "rd"
            refine ⟨_, _, R7, R6, rfl, hR7, hR6.sm s7, oR7, oR6, by omega, by omega, fun x8 H8 J8 s8 h8 o8 t8 => ?_⟩
            walk_at "rd"
            exact ⟨x8, _, rfl, (r6.same s7).same s8, atHead _ H7 R7 s7 hR7 oR7 tR7 x8 H8 J8 s8 h8 o8 t8, by omega⟩
        · walk_at "rd"
          refine use_of (by omega) fun v7 H7 R7 s7 hR7 oR7 tR7 => ?_
          have hz7 := rt_size tR7
          obtain ⟨pw, dw, wc, wl, wr, rfl, hpw⟩ := hR7.obj
          walk_at "rd"
          refine ⟨_, _, R7, R6, rfl, hR7, hR6.sm s7, oR7, oR6, by omega, by omega, fun x8 H8 J8 s8 h8 o8 t8 => ?_⟩
          walk_at "rd"
          exact ⟨x8, _, rfl, (r6.same s7).same s8, atHead _ H7 R7 s7 hR7 oR7 tR7 x8 H8 J8 s8 h8 o8 t8, by omega⟩
      rintro σ' H7 ⟨u, T', rfl, r7, rt7, hT'⟩
      walk_at "rd"
      refine ifD (fun c => ?_) (fun c => ?_)
      · walk_at "rd"
        refine use_right rt7 (by omega) fun HA sA => ?_
        walk_at "rd"
        exact ⟨u, T', _, _, rfl, r7.same sA, rt7.sm sA, hT'⟩
      · walk_at "rd"
        refine ifD (fun c2 => ?_) (fun c2 => ?_)
        · walk_at "rd"
          refine use_right rt7 (by omega) fun HA sA => ?_
          walk_at "rd"
          exact ⟨u, T', _, _, rfl, r7.same sA, rt7.sm sA, hT'⟩
        · walk_at "rd"
          exact ⟨u, T', _, _, rfl, r7, rt7, hT'⟩
    · rintro σ' H4 ⟨u, T, o4, o5, rfl, r4, rt4, hT⟩
      walk_at "rd"
      exact use_right rt4 (by omega) fun HA _ => k HA
end
end Z
namespace Z
open PySem PySem.Spec L2 ItX
open Rp
local macro_rules | `(tactic| walk_at "ne") => `(tactic| first
  | with_reducible assumption
  | with_reducible exact Ne.symm (by assumption)
  | exact Frs.ne (by with_reducible assumption) (by walk_at "hp")
  | exact Frs.ne' (by with_reducible assumption) (by walk_at "hp"))
local macro_rules | `(tactic| walk_at "hp") => `(tactic| first
  | with_reducible assumption
  | (with_reducible refine Same.at (by assumption) ?_; walk_at "hp")
  | (with_reducible refine SL.tup (by assumption) ?_; walk_at "hp")
  | (with_reducible refine SL.at (by assumption) (by walk_at "ne") ?_; walk_at "hp"))
local macro_rules | `(tactic| walk_at "sz") => `(tactic| first
  | with_reducible assumption
  | exact Nat.le_of_ble_eq_true rfl
  | (refine sz_le ?_; omega)
  | (refine sz_lt ?_; omega)
  | decide +kernel)
local macro_rules | `(tactic| walk_at "at") => `(tactic| first
  | with_reducible assumption
  | with_reducible exact at0
  | with_reducible exact at1
  | with_reducible exact at2
  | with_reducible exact ixN0)
local macro_rules | `(tactic| walk_at "nn") => `(tactic| first
  | omega
  | decide
  | exact ⟨by decide, by decide⟩
  | exact ⟨by omega, by omega⟩
  | exact ⟨by omega, by omega, by omega, by omega⟩)
local macro_rules | `(tactic| walk_at "rdv") => `(tactic| first
  | (with_reducible refine add_int ?_)
  | (with_reducible refine sub_int ?_)
  | (with_reducible refine neg_int ?_)
  | ((with_reducible refine ix_tpl (xs := ?xs) (v := ?v) ?h1 ?h2 ?_); (case h1 => walk_at "hp"); (case h2 => walk_at "at"))
  | ((with_reducible refine ix_lst (xs := ?xs) (v := ?v) ?h1 ?h2 ?_); (case h1 => walk_at "hp"); (case h2 => walk_at "at"))
  | (with_reducible refine eq_int ?_)
  | (with_reducible refine ne_int ?_)
  | (with_reducible refine lt_int ?_)
  | (with_reducible refine le_int ?_)
  | (with_reducible refine gt_int ?_)
  | (with_reducible refine ge_int ?_)
  | (with_reducible refine eq_str ?_)
  | (with_reducible refine ne_str ?_)
  | (with_reducible refine eq_bl ?_)
  | (with_reducible refine ne_bl ?_)
  | ((with_reducible refine mod_int ?hc ?_); (case hc => walk_at "nn"))
  | ((with_reducible refine div_int ?hc ?_); (case hc => walk_at "nn"))
  | ((with_reducible refine mul_intR ?hc ?_); (case hc => exact ⟨by decide, by decide⟩))
  | ((with_reducible refine mul_intR ?hc ?_); (case hc => exact ⟨by omega, by omega⟩))
  | ((with_reducible refine mul_intL ?hc ?_); (case hc => exact ⟨by omega, by omega⟩))
  | ((with_reducible refine pow_int ?hc ?_); (case hc => exact ⟨by decide, by decide, by decide⟩))
  | ((with_reducible refine add_str ?hc ?_); (case hc => walk_at "sz"))
  | ((with_reducible refine add_lst (xs := ?xs) (ys := ?ys) ?h1 ?h2 ?hc ?_); (case h1 => walk_at "hp"); (case h2 => walk_at "hp"); (case hc => walk_at "sz"))
  | ((with_reducible refine sl_strU ?hc ?_); (case hc => walk_at "sz"))
  | ((with_reducible refine sl_lst (xs := ?xs) ?h1 ?_); (case h1 => walk_at "hp"))
  | (with_reducible refine is_bl ?_)
  | (with_reducible refine isnt_bl ?_)
  | (with_reducible refine is_non ?_)
  | (with_reducible refine isnt_non ?_))
local macro_rules | `(tactic| walk_at "rdc") => `(tactic| first
  | ((with_reducible refine len_lst (xs := ?xs) ?h1 ?_); (case h1 => walk_at "hp"))
  | ((with_reducible refine len_tup (xs := ?xs) ?h1 ?_); (case h1 => walk_at "hp"))
  | ((with_reducible refine len_str ?hc ?_); (case hc => walk_at "sz"))
  | (with_reducible refine int_int ?_)
  | (with_reducible refine max_int ?_)
  | (with_reducible refine min_int ?_)
  | (with_reducible refine abs_int ?_)
  | (with_reducible refine isi_ii ?_)
  | (with_reducible refine isi_ib ?_)
  | (with_reducible refine isi_ss ?_)
  | (with_reducible refine isi_bb ?_)
  | ((with_reducible refine isi_tt (xs := ?xs) ?h1 ?_); (case h1 => walk_at "hp"))
  | ((with_reducible refine isi_ll (xs := ?xs) ?h1 ?_); (case h1 => walk_at "hp"))
  | ((with_reducible refine list_lst (xs := ?xs) ?h1 ?_); (case h1 => walk_at "hp"))
  | ((with_reducible refine list_tup (xs := ?xs) ?h1 ?_); (case h1 => walk_at "hp"))
  | ((with_reducible refine tuple_lst (xs := ?xs) ?h1 ?_); (case h1 => walk_at "hp"))
  | ((with_reducible refine tuple_tup (xs := ?xs) ?h1 ?_); (case h1 => walk_at "hp"))
  | ((with_reducible refine append_lst (xs := ?xs) ?h1 ?hc ?_); (case h1 => walk_at "hp"); (case hc => walk_at "sz"))
  | ((with_reducible refine clear_lst (xs := ?xs) ?h1 ?_); (case h1 => walk_at "hp"))
  | ((with_reducible refine set_lst (xs := ?xs) (k := ?k) ?h1 ?h2 ?_); (case h1 => walk_at "hp"); (case h2 => walk_at "at")))
local macro_rules | `(tactic| walk_at "rd1") => `(tactic| first
  | ((with_reducible refine rVar (v := ?v) ?h ?_); (case h => exact rfl))
  | (with_reducible refine rC ?_)
  | (with_reducible refine rCons ?_)
  | (with_reducible refine rNil ?_)
  | (with_reducible refine rOp ?_)
  | (with_reducible refine rSeq ?_)
  | (with_reducible refine rAsgN ?_)
  | (with_reducible refine rAsgT ?_)
  | (with_reducible refine rAsgS ?_)
  | (with_reducible refine rTest ?_)
  | (with_reducible refine rBl ?_)
  | (with_reducible refine rBl' ?_)
  | (with_reducible refine rInt ?_)
  | (with_reducible refine rInt' ?_)
  | (with_reducible refine rCall ?_)
  | (with_reducible refine rCB ?_)
  | (with_reducible refine rRet ?_)
  | (with_reducible refine rDrop ?_)
  | (with_reducible refine rIfS ?_)
  | (with_reducible refine rTup ?_)
  | (with_reducible refine rLst ?_)
  | (with_reducible refine ⟨Nat.le_of_ble_eq_true rfl, ?_⟩)
  | (with_reducible refine rSl ?_)
  | (with_reducible refine rPart ?_)
  | (with_reducible refine rNoPart ?_)
  | (with_reducible refine rBM ?_)
  | (with_reducible refine rBM0 ?_)
  | ((with_reducible refine tyL (xs := ?xs) ?h1 ?_); (case h1 => walk_at "hp"))
  | (with_reducible refine rM1 ?_)
  | (with_reducible refine rM0 ?_)
  | (with_reducible refine rStr ?_)
  | (with_reducible refine rTru ?_)
  | (with_reducible refine tru_bl ?_)
  | (with_reducible refine tru_int ?_)
  | ((with_reducible refine tru_lst (xs := ?xs) ?h1 ?_); (case h1 => walk_at "hp"))
  | ((with_reducible refine tru_tup (xs := ?xs) ?h1 ?_); (case h1 => walk_at "hp"))
  | ((with_reducible refine tru_str ?hc ?_); (case hc => walk_at "sz"))
  | (with_reducible refine rAnd ?_)
  | (with_reducible refine rOr ?_)
  | (with_reducible refine rNot ?_)
  | (with_reducible refine rAndV ?_)
  | (with_reducible refine rOrV ?_)
  | (with_reducible refine rNotV ?_)
  | (with_reducible refine rIfE ?_)
  | (with_reducible refine rChain ?_)
  | (with_reducible refine rChain3 ?_)
  | (with_reducible refine ifT ?_)
  | (with_reducible refine ifF ?_)
  | (with_reducible refine ifNF ?_)
  | (with_reducible refine ifNT ?_)
  | (with_reducible refine rNext ?_)
  | (with_reducible refine rBrk ?_)
  | (with_reducible refine rCnt ?_)
  | (with_reducible refine rRetN ?_)
  | (with_reducible refine rForR1 ?_)
  | (with_reducible refine rForR2 ?_)
  | (with_reducible refine rForL ?_)
  | ((with_reducible refine rRg1 ?hb ?_); (case hb => walk_at "nn"))
  | ((with_reducible refine rRg2 ?hb ?_); (case hb => walk_at "nn"))
  | ((with_reducible refine rRf (xs := ?xs) ?h1 ?_); (case h1 => walk_at "hp"))
  | (with_reducible refine rLcR1 ?_)
  | (with_reducible refine rLcR2 ?_)
  | (with_reducible refine rLcL ?_)
  | (with_reducible refine gN ?_)
  | (with_reducible refine gNl ?_)
  | (with_reducible refine gC ?_)
  | ((with_reducible refine gT (xs := ?xs) ?h1 ?h2 ?_); (case h1 => walk_at "hp"); (case h2 => exact rfl))
  | (with_reducible refine rUn ?_)
  | walk_at "rdv"
  | walk_at "rdc")
local macro_rules | `(tactic| walk_at "rd") => `(tactic| repeat walk_at "rd1")

local macro_rules | `(tactic| walk_at "rd1") => `(tactic| first
  | (with_reducible refine rCallS ?_)
  | (with_reducible refine rRaise ?_)
  | (with_reducible refine rXf ?_)
  | (with_reducible refine rXi ?_)
  | (with_reducible refine rOst ?_)
  | (with_reducible refine rRevL ?_)
  | ((with_reducible refine revL_end (xs := ?xs) ?h1 ?_); (case h1 => walk_at "hp")))

local macro_rules | `(tactic| walk_at "rd1") => `(tactic| first
  | (with_reducible refine rForR3 ?_)
  | ((with_reducible refine rRgD ?hb ?_); (case hb => walk_at "nn"))
  | (with_reducible refine gS ?_))

local macro_rules | `(tactic| walk_at "rd1") => `(tactic| first
  | (with_reducible refine rFld ?_)
  | (with_reducible refine rSFld ?_)
  | (with_reducible refine rMake ?_)
  | (with_reducible refine rMeth ?_)
  | (with_reducible refine rForT ?_)
  | (with_reducible refine rLcT ?_)
  | (with_reducible refine rLcO ?_)
  | (with_reducible refine rForO ?_)
  | (with_reducible refine rLstY ?_)
  | ((with_reducible refine rRt (xs := ?xs) ?h1 ?_); (case h1 => walk_at "hp"))
  | ((with_reducible refine listY_lst (xs := ?xs) ?h1 ?_); (case h1 => walk_at "hp"))
  | ((with_reducible refine listY_tup (xs := ?xs) ?h1 ?_); (case h1 => walk_at "hp")))

local macro_rules | `(tactic| walk_at "rd1") => `(tactic| first
  | (with_reducible refine rLcR3 ?_)
  | (with_reducible refine rMethT ?_)
  | (with_reducible refine rMkW ?_)
  | ((with_reducible refine fR_piece (mg := ?mg) (C := ?C) (dx := ?dx) (pc := ?pc) (l := ?l) (r := ?r) (s := ?s) (h := ?h) ?hu ?hp ?_); (case hu => with_reducible assumption); (case hp => walk_at "hp"))
  | ((with_reducible refine fR_left (mg := ?mg) (C := ?C) (dx := ?dx) (pc := ?pc) (l := ?l) (r := ?r) (s := ?s) (h := ?h) ?hu ?hp ?_); (case hu => with_reducible assumption); (case hp => walk_at "hp"))
  | ((with_reducible refine fR_right (mg := ?mg) (C := ?C) (dx := ?dx) (pc := ?pc) (l := ?l) (r := ?r) (s := ?s) (h := ?h) ?hu ?hp ?_); (case hu => with_reducible assumption); (case hp => walk_at "hp"))
  | ((with_reducible refine fR_size (mg := ?mg) (C := ?C) (dx := ?dx) (pc := ?pc) (l := ?l) (r := ?r) (s := ?s) (h := ?h) ?hu ?hp ?_); (case hu => with_reducible assumption); (case hp => walk_at "hp"))
  | ((with_reducible refine fR_height (mg := ?mg) (C := ?C) (dx := ?dx) (pc := ?pc) (l := ?l) (r := ?r) (s := ?s) (h := ?h) ?hu ?hp ?_); (case hu => with_reducible assumption); (case hp => walk_at "hp")))
local macro_rules | `(tactic| walk_at "rd1") => `(tactic| first
  | (with_reducible refine rMeth ?_)
  | ((with_reducible refine meth_end (C := ?C) (dx := ?dx) (fs := ?fs) ?hp ?hl ?_); (case hp => walk_at "hp"); (case hl => exact ropF_no (by decide +kernel) (by decide +kernel) (by decide +kernel) (by decide +kernel) (by decide +kernel))))

def sumL (ts : List Str) : Nat := (ts.map (·.length)).sum
theorem sumL_app (a b : List Str) : sumL (a ++ b) = sumL a + sumL b := by
  unfold sumL
  rw [List.map_append, List.sum_append]
theorem sumL_mem {ts : List Str} {t : Str} (h : t ∈ ts) : t.length ≤ sumL ts := by
  induction ts with
  | nil => exact nomatch h
  | cons a l ih =>
    have e : sumL (a :: l) = a.length + sumL l := rfl
    rcases List.mem_cons.mp h with rfl | h
    · omega
    · have := ih h; omega
theorem two_at {α : Type} {l : List α} {a : Nat} {x y : α} (h1 : l[a]? = some x) (h2 : l[a + 1]? = some y) : l = l.take a ++ x :: y :: l.drop (a + 2) := by
  have e := List.take_append_drop a l
  rw [drop_cons h1, drop_cons h2] at e
  exact e.symm
theorem sumL_two {ts : List Str} {a : Nat} {x y : Str} (h1 : ts[a]? = some x) (h2 : ts[a + 1]? = some y) : sumL (ts.take a ++ [x ++ y] ++ ts.drop (a + 2)) = sumL ts := by
  have e := congrArg sumL (two_at h1 h2)
  rw [e, sumL_app, sumL_app, sumL_app]
  show _ + (x ++ y).length + 0 + _ = _ + (x.length + (y.length + sumL (ts.drop (a + 2))))
  rw [len_app]
  omega
section
variable {P : Program} {w : World} {K : PySem.W.Frag} {mg : Str → Option Value} {base : Heap} {aE aRope : Addr}
theorem cal_law_unlike_joins {f : Addr} {fd : FuncData} (T : Txt mg) (FD : C8.Def K mg "_law_unlike_joins" s_law_unlike_joins f fd) (b : Binds K fd ["reel"] [])
    (c_law_pick : C8.Cal P w K mg base 2 "_law_pick" sp_law_pick [])
    (c_law_draw : C8.Cal P w K mg base 1 "_law_draw" sp_law_draw [])
    (c_law_right : C8.Cal P w K mg base 4 "_law_right" (sp_law_right aRope) [])
    (c_law_stepped : C8.Cal P w K mg base 3 "_law_stepped" sp_law_stepped [])
    (c_Rope_of : Stat P w K mg base 17 "Rope" "of" (sp_Rope_of aRope))
    (c_Rope_joined : C8.Met P w K mg base 31 aRope "joined" (sp_Rope_joined aRope) []) : C8.Cal P w K mg base 32 "_law_unlike_joins" (sp_law_unlike_joins aRope) [] := by
  refine C8.cal0 FD b .nil sc_law_unlike_joins (fun vs H Q E h => ?_) (fun cdv A outer s H vs Q E hr h => ?_)
  · obtain ⟨r, rfl, _⟩ := h; rfl
  · obtain ⟨r, rfl, hRl, k⟩ := h
    refine ⟨_, (pss_cons (ps_set (i := 1) sc_law_unlike_joins.nd rfl (.inl rfl) (pe_lst pa_nil))
  (pss_cons (ps_for PassesOwn.never rfl (pi_range1 rfl T.n_range (pa_cons (pe_op (op_addK K) pe_int (C8.pe_c c_law_draw hr (by decide) (by rfl) (pa_cons (pv 0) (pa_cons pe_int pa_nil)))) pa_nil)) (pg_name (i := 2) sc_law_unlike_joins.nd rfl (.inl rfl)) (pss_cons (ps_set (i := 3) sc_law_unlike_joins.nd rfl (.inl rfl) (C8.pe_c c_law_pick hr (by decide) (by rfl) (pa_cons (pv 0) (pa_cons (pe_lst (pa_cons pe_int (pa_cons pe_int (pa_cons pe_int (pa_cons pe_int (pa_cons pe_int (pa_cons pe_int (pa_cons pe_int (pa_cons pe_int pa_nil))))))))) pa_nil))))
  (pss_one (ps_if (pt_cmpR op_leU (pe_op (op_addK K) (pe_callB (call_lenK K) (by rfl) T.n_len PySem.boot_len (pa_cons (pe_m1 F.slot_str_join F.type_str_join (mt_joinK K) pe_str (pv 1)) pa_nil)) (pv 3)) pe_int (nomark _)) (pss_one (ps_expr (pe_bm F.plainAttrs_list F.slot_list_append F.type_list_append mt_append (pv 1) (pa_cons (C8.pe_c c_law_stepped hr (by decide) (by rfl) (pa_cons (pv 0) (pa_cons (pv 3) pa_nil))) pa_nil)))) pss_nil))))
  (pss_cons (ps_setLc (i := 4) (own := [("text", 7)]) rfl sc_law_unlike_joins.nd rfl rfl (sw_true rfl rfl rfl (by decide +kernel)) (pi_listK K (pv 1)) (blkOk_by (own := [("text", 7)]) (N := ["reel", "texts", "k", "size", "ropes", "turn", "at", "text"]) (sc := C8.fnScope s_law_unlike_joins) (by decide +kernel)) (fun _ _ _ _ _ => (pg_name (i := 7) sc_law_unlike_joins.nd rfl (.inl rfl))) (fun _ _ _ _ _ => pts_nil) (fun _ _ _ _ _ => (pe_st c_Rope_of hr (by decide) (by rfl) (pa_cons (pv 7) pa_nil))))
  (pss_cons (ps_for PassesOwn.never rfl (pi_range1 rfl T.n_range (pa_cons (pe_callB (call_lenK K) (by rfl) T.n_len PySem.boot_len (pa_cons (pv 4) pa_nil)) pa_nil)) (pg_name (i := 2) sc_law_unlike_joins.nd rfl (.inl rfl)) (pss_one (ps_if (pt_not (pt_truK K (C8.pe_c c_law_right hr (by decide) (by rfl) (pa_cons (pe_ix (ix_K K) (pv 4) (pv 2) (fun _ _ => rfl)) (pa_cons (pe_ix (ix_K K) (pv 1) (pv 2) (fun _ _ => rfl)) pa_nil))) (by intro _; rfl))) (pss_one (ps_ret pe_bl)) pss_nil)))
  (pss_cons (ps_for PassesOwn.never rfl (pi_range1 rfl T.n_range (pa_cons (pe_callB (call_lenK K) (by rfl) T.n_len PySem.boot_len (pa_cons (pv 1) pa_nil)) pa_nil)) (pg_name (i := 5) sc_law_unlike_joins.nd rfl (.inl rfl)) (pss_cons (ps_if (pt_cmpR op_ltU (pe_callB (call_lenK K) (by rfl) T.n_len PySem.boot_len (pa_cons (pv 4) pa_nil)) pe_int (nomark _)) (pss_one ps_break) pss_nil)
  (pss_cons (ps_set (i := 6) sc_law_unlike_joins.nd rfl (.inl rfl) (C8.pe_c c_law_draw hr (by decide) (by rfl) (pa_cons (pv 0) (pa_cons (pe_op op_subU (pe_callB (call_lenK K) (by rfl) T.n_len PySem.boot_len (pa_cons (pv 4) pa_nil)) pe_int) pa_nil))))
  (pss_cons (ps_set (i := 1) sc_law_unlike_joins.nd rfl (.inl rfl) (pe_op (op_addK K) (pe_op (op_addK K) (pe_slice (sl_K K) (pv 1) po_none (po_some (pv 6))) (pe_lst (pa_cons (pe_op (op_addK K) (pe_ix (ix_K K) (pv 1) (pv 6) (fun _ _ => rfl)) (pe_ix (ix_K K) (pv 1) (pe_op (op_addK K) (pv 6) pe_int) (fun _ _ => rfl))) pa_nil))) (pe_slice (sl_K K) (pv 1) (po_some (pe_op (op_addK K) (pv 6) pe_int)) po_none)))
  (pss_cons (ps_set (i := 4) sc_law_unlike_joins.nd rfl (.inl rfl) (pe_op (op_addK K) (pe_op (op_addK K) (pe_slice (sl_K K) (pv 4) po_none (po_some (pv 6))) (pe_lst (pa_cons (C8.pe_mt c_Rope_joined hr (by decide) (pe_ix (ix_K K) (pv 4) (pv 6) (fun _ _ => rfl)) (pa_cons (pe_ix (ix_K K) (pv 4) (pe_op (op_addK K) (pv 6) pe_int) (fun _ _ => rfl)) pa_nil)) pa_nil))) (pe_slice (sl_K K) (pv 4) (po_some (pe_op (op_addK K) (pv 6) pe_int)) po_none)))
  (pss_one (ps_if (pt_not (pt_truK K (C8.pe_c c_law_right hr (by decide) (by rfl) (pa_cons (pe_ix (ix_K K) (pv 4) (pv 6) (fun _ _ => rfl)) (pa_cons (pe_ix (ix_K K) (pv 1) (pv 6) (fun _ _ => rfl)) pa_nil))) (by intro _; rfl))) (pss_one (ps_ret pe_bl)) pss_nil)))))))
  (pss_one (ps_ret pe_bl))))))), ?_⟩
    show (_ : TS) _ [some (.ref r), none, none, none, none, none, none, none] H
    walk_at "rd"
    refine newO_gen fun lt H1 f1 s1 h1 => ?_
    have n1 : lt ≠ r := (hRl.ne f1).symm
    walk_at "rd"
    refine use_draw (hRl.same s1) (by omega) fun d H2 a2 b2 s2 r2 => ?_
    have h12 := s2.keep lt _ n1 h1
    walk_at "rd"
    refine loopR_by (fun i σ' H' => ∃ (ts : List Str) (o2 o3 : Option V), σ' = [some (.ref r), some (.ref lt), o2, o3, none, none, none, none] ∧ Reel H' r ∧ H' lt = some (.lst (ts.map V.str)) ∧ sumL ts ≤ 1990 ∧ ts.length ≤ i) ?_ ?_ ?_
    · exact ⟨[], none, none, rfl, r2, h12, by decide, Nat.le_refl _⟩
    · rintro i σ' H3 hi ⟨ts, o2, o3, rfl, r3, h3, hsum, hlen⟩
      walk_at "rd"
      refine newO_gen fun q4 H4 f4 s4 h4 => ?_
      have h34 := s4 _ _ h3
      walk_at "rd"
      refine use_pickI (lo := 0) (hi := 700) (r3.same s4) h4 (r3.ne f4).symm (Nat.zero_lt_succ _) (by repeat (first | exact AllI.nil | refine AllI.cons (by omega) ?_)) fun sz H5 z0 z1 s5 r5 => ?_
      have h35 := s5.keep lt _ n1 h34
      have hj : (Txt.join (Str.ofString "") ts).length = sumL ts := by
        have e : TL.tl (Txt.join (Str.ofString "") ts) = (ts.map TL.tl).flatten := tl_join0 ts
        rw [TL.len_tl, e, ← lens_sum]
        rfl
      walk_at "rd"
      refine join_lst h35 (by show sumL ts + ts.length * 0 ≤ _; omega) ?_
      walk_at "rd"
      refine ifD (fun c => ?_) (fun c => ?_)
      · walk_at "rd"
        refine use_stepped r5 (by omega) fun wd H6 hw hwk s6 r6 => ?_
        have h36 := s6.keep lt _ n1 h35
        walk_at "rd"
        refine append_lst h36 (sz_lt (by rw [List.length_map]; omega)) ?_
        refine putO_gen h36 fun H7 s7 h7 => ?_
        walk_at "rd"
        refine ⟨ts ++ [wd], _, _, rfl, r6.sl s7 n1.symm, by rw [h7, List.map_append]; rfl, ?_, by rw [List.length_append]; show ts.length + 1 ≤ _; omega⟩
        rw [sumL_app]
        show sumL ts + (wd.length + 0) ≤ 1990
        omega
      · walk_at "rd"
        exact ⟨ts, _, _, rfl, r5, h35, hsum, by omega⟩
    · rintro σ' H3 ⟨ts, o2, o3, rfl, r3, h3, hsum, hlen⟩
      walk_at "rd"
      refine compL_pure h3 (fun acc H' => Paired (RT aRope H') acc (ts.take acc.length)) (fun _ _ => .nil) (fun acc x H4 D c hx pa => ?_) fun acc H4 D hacc pa s4 hD fD => ?_
      · rw [List.getElem?_map] at hx
        cases ht : ts[acc.length]? with
        | none => rw [ht] at hx; cases hx
        | some t =>
          rw [ht] at hx
          cases hx
          have htm := sumL_mem (List.mem_of_getElem? ht)
          have hlt := c.lt
          rw [List.length_map] at hlt
          walk_at "rd"
          refine use_of (by omega) fun v H5 R s5 hR oR tR => ?_
          refine pD_of c (by rw [List.length_map]; omega) s5 fun H6 s6 => ?_
          rw [List.length_append]
          show Paired _ _ (ts.take (acc.length + 1))
          rw [take_snoc ht]
          exact Paired.snoc (Paired.imp (fun _ _ q => (q.sm s5).kp (KpS.sl s6)) pa) ⟨R, hR.kp (KpS.sl s6), oR, tR⟩
      rw [List.length_map] at hacc
      rw [hacc, List.take_length] at pa
      have r4 := r3.same s4
      have h34 := s4 _ _ h3
      walk_at "rd"
      refine loopR_by (fun i σ' H' => ∃ (o2 : Option V), σ' = [some (.ref r), some (.ref lt), o2, o3, some (.ref D), none, none, none] ∧ Same H4 H') ?_ ?_ ?_
      · exact ⟨_, rfl, Same.refl H4⟩
      · rintro i σ' H5 hi ⟨o2, rfl, s5⟩
        have hil : i < acc.length := by omega
        obtain ⟨u, hui⟩ : ∃ u, acc[i]? = some u := ⟨_, List.getElem?_eq_getElem hil⟩
        obtain ⟨tu, htu, hru⟩ := Paired.at pa hui
        have htm := sumL_mem (List.mem_of_getElem? htu)
        have hat : atI (ts.map V.str) (0 + (i : Int)) = some (.str tu) := at_of (j := i) (by omega) (by rw [List.getElem?_map, htu]; rfl)
        have hat2 : atI acc (0 + (i : Int)) = some u := at_of (j := i) (by omega) hui
        have hD5 := s5 _ _ hD
        have h35 := s5 _ _ h34
        walk_at "rd"
        refine use_right (hru.sm s5) (by omega) fun H6 s6 => ?_
        walk_at "rd"
        exact ⟨_, rfl, Same.trans s5 s6⟩
      · rintro σ' H5 ⟨o2, rfl, s5⟩
        have h35 := s5 _ _ h34
        have hmap : (ts.map V.str).length = ts.length := List.length_map ..
        walk_at "rd"
        refine loopR_by (fun i σ' H' => ∃ (lt lr : Addr) (ts : List Str) (rs : List V) (o5 o6 : Option V), σ' = [some (.ref r), some (.ref lt), o2, o3, some (.ref lr), o5, o6, none] ∧ Reel H' r ∧ lt ≠ r ∧ lr ≠ r ∧ H' lt = some (.lst (ts.map V.str)) ∧ H' lr = some (.lst rs) ∧ Paired (RT aRope H') rs ts ∧ sumL ts ≤ 1990 ∧ ts.length ≤ 100) ?_ ?_ ?_
        · exact ⟨lt, D, ts, acc, none, none, rfl, r4.same s5, n1, (r3.ne fD).symm, h35, s5 _ _ hD, Paired.imp (fun _ _ q => q.sm s5) pa, hsum, by omega⟩
        · rintro i σ' H6 hi ⟨lt, lr, ts, rs, o5, o6, rfl, r6, nt, nr, h6t, h6r, pa, hsum, hlen⟩
          have hpl := Paired.len pa
          walk_at "rd"
          refine ifD (fun c => ?_) (fun c => ?_)
          · walk_at "rd"
            exact k H6
          · walk_at "rd"
            refine use_draw r6 (by omega) fun d7 H7 a7 b7 s7 r7 => ?_
            have h7t := s7.keep lt _ nt h6t
            have h7r := s7.keep lr _ nr h6r
            obtain ⟨a, rfl⟩ : ∃ a : Nat, d7 = a := ⟨d7.toNat, by omega⟩
            have pa7 := Paired.imp (fun _ _ q => q.kp (KpS.sl s7)) pa
            obtain ⟨u, hu⟩ : ∃ u, rs[a]? = some u := ⟨_, List.getElem?_eq_getElem (by omega)⟩
            obtain ⟨u2, hu2⟩ : ∃ u, rs[a + 1]? = some u := ⟨_, List.getElem?_eq_getElem (by omega)⟩
            obtain ⟨x, hx, rx⟩ := Paired.at pa7 hu
            obtain ⟨y, hy, ry⟩ := Paired.at pa7 hu2
            have at1 : atI (ts.map V.str) (a : Int) = some (.str x) := at_of (j := a) rfl (by rw [List.getElem?_map, hx]; rfl)
            have at2 : atI (ts.map V.str) ((a : Int) + 1) = some (.str y) := at_of (j := a + 1) (by omega) (by rw [List.getElem?_map, hy]; rfl)
            have at3 : atI rs (a : Int) = some u := at_of (j := a) rfl hu
            have at4 : atI rs ((a : Int) + 1) = some u2 := at_of (j := a + 1) (by omega) hu2
            have hxl := sumL_mem (List.mem_of_getElem? hx)
            have hyl := sumL_mem (List.mem_of_getElem? hy)
            have e2 := sumL_two hx hy
            have q0 := len_app x y
            have na : ((a : Int)).toNat = a := by omega
            have na2 : ((a : Int) + 2).toNat = a + 2 := by omega
            walk_at "rd"
            refine newO_gen fun p8 H8 f8 s8 h8 => ?_
            have h8t := s8 _ _ h7t
            walk_at "rd"
            refine newO_gen fun p9 H9 f9 s9 h9 => ?_
            have h89 := s9 _ _ h8
            walk_at "rd"
            refine add_lst h89 h9 (sz_le (by rw [cutV_cut]; have := cut_len (ts.map V.str) none (some (a : Int)); rw [List.length_map] at this; show _ + 1 ≤ _; omega)) ?_
            refine newO_gen fun pA HA fA sA hA => ?_
            have hAt := sA _ _ (s9 _ _ h8t)
            walk_at "rd"
            refine newO_gen fun pB HB fB sB hB => ?_
            have hAB := sB _ _ hA
            walk_at "rd"
            refine add_lst hAB hB (sz_le (by rw [List.length_append, cutV_cut, cutV_cut]; have := cut_len (ts.map V.str) none (some (a : Int)); have := cut_len (ts.map V.str) (some ((a : Int) + 2)) none; simp only [List.length_map] at *; show _ + 1 + _ ≤ _; omega)) ?_
            refine newO_gen fun pC HC fC sC hC => ?_
            have s7C := Same.trans s8 (Same.trans s9 (Same.trans sA (Same.trans sB sC)))
            have rC := r7.same s7C
            have nC : pC ≠ r := ((((r7.same s8).same s9).same sA).same sB |>.ne fC).symm
            have hCr := s7C _ _ h7r
            walk_at "rd"
            refine newO_gen fun pD HD fD sD hDD => ?_
            have hDr := sD _ _ hCr
            obtain ⟨U, hU, oU, tU⟩ := rx.sm (Same.trans s7C sD)
            obtain ⟨pu, du, uc, ul, ur, rfl, hpu⟩ := hU.obj
            obtain ⟨U2, hU2, oU2, tU2⟩ := ry.sm (Same.trans s7C sD)
            have zU := rt_size tU
            have zU2 := rt_size tU2
            walk_at "rd"
            refine ⟨_, u2, U, U2, rfl, hU, hU2, oU, oU2, by omega, by omega, fun x8 HE J8 sE hJ oJ tJ => ?_⟩
            have hDE := sE _ _ hDD
            have hEr := sE _ _ hDr
            walk_at "rd"
            refine newO_gen fun pF HF fF sF hF => ?_
            have hDF := sF _ _ hDE
            walk_at "rd"
            refine add_lst hDF hF (sz_le (by rw [cutV_cut]; have := cut_len rs none (some (a : Int)); show _ + 1 ≤ _; omega)) ?_
            refine newO_gen fun pG HG fG sG hG => ?_
            have hGr := sG _ _ (sF _ _ hEr)
            walk_at "rd"
            refine newO_gen fun pH HH fH sH hH => ?_
            have hGH := sH _ _ hG
            walk_at "rd"
            refine add_lst hGH hH (sz_le (by rw [List.length_append, cutV_cut, cutV_cut]; have := cut_len rs none (some (a : Int)); have := cut_len rs (some ((a : Int) + 2)) none; show _ + 1 + _ ≤ _; omega)) ?_
            refine newO_gen fun pI HI fI sI hI => ?_
            have sEI := Same.trans sF (Same.trans sG (Same.trans sH sI))
            have sCI := Same.trans sD (Same.trans sE sEI)
            have s7I := Same.trans s7C sCI
            have hCI := sCI _ _ hC
            rw [cutV_cut, cutV_cut, cut_to (by omega), cut_from (by omega), na, na2, ← List.map_take, ← List.map_drop] at hCI
            rw [cutV_cut, cutV_cut, cut_to (by omega), cut_from (by omega), na, na2] at hI
            have eC : (ts.take a).map V.str ++ [V.str (x ++ y)] ++ (ts.drop (a + 2)).map V.str = (ts.take a ++ [x ++ y] ++ ts.drop (a + 2)).map V.str := by
              rw [List.map_append, List.map_append]
              rfl
            rw [eC] at hCI
            have rtn : RT aRope HI x8 (x ++ y) := ⟨J8, hJ.sm sEI, oJ, by rw [tJ, tU, tU2, TL.tl_append]⟩
            have paI : Paired (RT aRope HI) (rs.take a ++ [x8] ++ rs.drop (a + 2)) (ts.take a ++ [x ++ y] ++ ts.drop (a + 2)) :=
              Paired.app (Paired.snoc (Paired.imp (fun _ _ q => q.sm s7I) (Paired.tk a pa7)) rtn) (Paired.imp (fun _ _ q => q.sm s7I) (Paired.dr (a + 2) pa7))
            have la : (ts.take a).length = a := by rw [List.length_take]; omega
            have lr' : (rs.take a).length = a := by rw [List.length_take]; omega
            have at5 : atI ((ts.take a ++ [x ++ y] ++ ts.drop (a + 2)).map V.str) (a : Int) = some (.str (x ++ y)) := at_of (j := a) rfl (by
              rw [List.getElem?_map, List.append_assoc, List.getElem?_append_right (by omega), la, Nat.sub_self]; rfl)
            have at6 : atI (rs.take a ++ [x8] ++ rs.drop (a + 2)) (a : Int) = some x8 := at_of (j := a) rfl (by
              rw [List.append_assoc, List.getElem?_append_right (by omega), lr', Nat.sub_self]; rfl)
            have nI : pI ≠ r := (((((((rC.same sD).same sE).same sF).same sG).same sH)).ne fI).symm
            have rI := rC.same sCI
            walk_at "rd"
            refine use_right rtn (by omega) fun HJ sJ => ?_
            walk_at "rd"
            refine ⟨pC, pI, ts.take a ++ [x ++ y] ++ ts.drop (a + 2), rs.take a ++ [x8] ++ rs.drop (a + 2), _, _, rfl, rI.same sJ, nC, nI, sJ _ _ hCI, sJ _ _ hI, Paired.imp (fun _ _ q => q.sm sJ) paI, by omega, ?_⟩
            rw [List.length_append, List.length_append, la, List.length_drop]
            show a + 1 + _ ≤ 100
            omega
        · rintro σ' H6 ⟨lt, lr, ts, rs, o5, o6, rfl, r6, nt, nr, h6t, h6r, pa, hsum, hlen⟩
          walk_at "rd"
          exact k H6
theorem cal_law_cut_ones {f : Addr} {fd : FuncData} (T : Txt mg) (FD : C8.Def K mg "_law_cut_ones" s_law_cut_ones f fd) (b : Binds K fd ["reel"] [])
    (c_law_text : C8.Cal P w K mg base 4 "_law_text" sp_law_text [])
    (c_law_right : C8.Cal P w K mg base 4 "_law_right" (sp_law_right aRope) [])
    (c_law_draw : C8.Cal P w K mg base 1 "_law_draw" sp_law_draw [])
    (c_Rope_of : Stat P w K mg base 17 "Rope" "of" (sp_Rope_of aRope))
    (c_Rope_cut : C8.Met P w K mg base 58 aRope "cut" (sp_Rope_cut aRope) [])
    (c_Rope_joined : C8.Met P w K mg base 31 aRope "joined" (sp_Rope_joined aRope) []) : C8.Cal P w K mg base 59 "_law_cut_ones" (sp_law_cut_ones aRope) [] := by
  refine C8.cal0 FD b .nil sc_law_cut_ones (fun vs H Q E h => ?_) (fun cdv A outer s H vs Q E hr h => ?_)
  · obtain ⟨r, rfl, _⟩ := h; rfl
  · obtain ⟨r, rfl, hRl, k⟩ := h
    refine ⟨_, (pss_cons (ps_set (i := 1) sc_law_cut_ones.nd rfl (.inl rfl) (C8.pe_c c_law_text hr (by decide) (by rfl) (pa_cons (pv 0) pa_nil)))
  (pss_cons (ps_set (i := 2) sc_law_cut_ones.nd rfl (.inl rfl) (pe_st c_Rope_of hr (by decide) (by rfl) (pa_cons (pv 1) pa_nil)))
  (pss_cons (ps_if (pt_not (pt_truK K (C8.pe_c c_law_right hr (by decide) (by rfl) (pa_cons (pv 2) (pa_cons (pv 1) pa_nil))) (by intro _; rfl))) (pss_one (ps_ret pe_bl)) pss_nil)
  (pss_cons (ps_for PassesOwn.never rfl (pi_range1 rfl T.n_range (pa_cons (pe_op (op_addK K) pe_int (C8.pe_c c_law_draw hr (by decide) (by rfl) (pa_cons (pv 0) (pa_cons pe_int pa_nil)))) pa_nil)) (pg_name (i := 3) sc_law_cut_ones.nd rfl (.inl rfl)) (pss_cons (ps_set (i := 4) sc_law_cut_ones.nd rfl (.inl rfl) (C8.pe_c c_law_draw hr (by decide) (by rfl) (pa_cons (pv 0) (pa_cons (pe_op (op_addK K) (pe_callB (call_lenK K) (by rfl) T.n_len PySem.boot_len (pa_cons (pv 1) pa_nil)) pe_int) pa_nil))))
  (pss_cons (ps_set (i := 5) sc_law_cut_ones.nd rfl (.inl rfl) (C8.pe_mt c_Rope_cut hr (by decide) (pv 2) (pa_cons pe_int (pa_cons (pv 4) pa_nil))))
  (pss_cons (ps_set (i := 6) sc_law_cut_ones.nd rfl (.inl rfl) (C8.pe_mt c_Rope_cut hr (by decide) (pv 2) (pa_cons (pv 4) (pa_cons (pe_callB (call_lenK K) (by rfl) T.n_len PySem.boot_len (pa_cons (pv 1) pa_nil)) pa_nil))))
  (pss_cons (ps_if (PW.pt (pw_or (pt_not (pt_truK K (C8.pe_c c_law_right hr (by decide) (by rfl) (pa_cons (pv 5) (pa_cons (pe_slice (sl_K K) (pv 1) po_none (po_some (pv 4))) pa_nil))) (by intro _; rfl))) (pw_or1 (pt_not (pt_truK K (C8.pe_c c_law_right hr (by decide) (by rfl) (pa_cons (pv 6) (pa_cons (pe_slice (sl_K K) (pv 1) (po_some (pv 4)) po_none) pa_nil))) (by intro _; rfl)))))) (pss_one (ps_ret pe_bl)) pss_nil)
  (pss_cons (ps_set (i := 2) sc_law_cut_ones.nd rfl (.inl rfl) (C8.pe_mt c_Rope_joined hr (by decide) (pv 5) (pa_cons (pv 6) pa_nil)))
  (C8.pss_cut (ps_if (pt_cmpR (op_eqK K (hu64 hr)) (C8.pe_c c_law_draw hr (by decide) (by rfl) (pa_cons (pv 0) (pa_cons pe_int pa_nil))) pe_int (nomark _)) (pss_cons (ps_set (i := 2) sc_law_cut_ones.nd rfl (.inl rfl) (C8.pe_mt c_Rope_joined hr (by decide) (pv 6) (pa_cons (pv 5) pa_nil)))
  (pss_one (ps_set (i := 1) sc_law_cut_ones.nd rfl (.inl rfl) (pe_op (op_addK K) (pe_slice (sl_K K) (pv 1) (po_some (pv 4)) po_none) (pe_slice (sl_K K) (pv 1) po_none (po_some (pv 4))))))) pss_nil)
  (pss_cons (ps_if (pt_not (pt_truK K (C8.pe_c c_law_right hr (by decide) (by rfl) (pa_cons (pv 2) (pa_cons (pv 1) pa_nil))) (by intro _; rfl))) (pss_one (ps_ret pe_bl)) pss_nil)
  (pss_cons (ps_set (i := 7) sc_law_cut_ones.nd rfl (.inl rfl) (pe_callB (call_sortI (K := K)) (by rfl) T.n_sorted (by decide +kernel) (pa_cons (pe_lst (pa_cons (C8.pe_c c_law_draw hr (by decide) (by rfl) (pa_cons (pv 0) (pa_cons (pe_op (op_addK K) (pe_callB (call_lenK K) (by rfl) T.n_len PySem.boot_len (pa_cons (pv 1) pa_nil)) pe_int) pa_nil))) (pa_cons (C8.pe_c c_law_draw hr (by decide) (by rfl) (pa_cons (pv 0) (pa_cons (pe_op (op_addK K) (pe_callB (call_lenK K) (by rfl) T.n_len PySem.boot_len (pa_cons (pv 1) pa_nil)) pe_int) pa_nil))) pa_nil))) pa_nil)))
  (pss_one (ps_if (pt_not (pt_truK K (C8.pe_c c_law_right hr (by decide) (by rfl) (pa_cons (C8.pe_mt c_Rope_cut hr (by decide) (pv 2) (pa_cons (pe_ix (ix_K K) (pv 7) pe_int (fun _ _ => rfl)) (pa_cons (pe_ix (ix_K K) (pv 7) pe_int (fun _ _ => rfl)) pa_nil))) (pa_cons (pe_slice (sl_K K) (pv 1) (po_some (pe_ix (ix_K K) (pv 7) pe_int (fun _ _ => rfl))) (po_some (pe_ix (ix_K K) (pv 7) pe_int (fun _ _ => rfl)))) pa_nil))) (by intro _; rfl))) (pss_one (ps_ret pe_bl)) pss_nil)))))))))))
  (pss_one (ps_ret pe_bl)))))), ?_⟩
    show (_ : TS) _ [some (.ref r), none, none, none, none, none, none, none] H
    walk_at "rd"
    refine use_txt hRl fun t H1 ht0 htk s1 r1 => ?_
    walk_at "rd"
    refine use_of (by omega) fun v H2 R s2 hR oR tR => ?_
    have r2 := r1.same s2
    walk_at "rd"
    refine use_right ⟨R, hR, oR, tR⟩ (by omega) fun H3 s3 => ?_
    have r3 := r2.same s3
    have rt3 : RT aRope H3 v t := ⟨R, hR.sm s3, oR, tR⟩
    walk_at "rd"
    refine use_draw r3 (by omega) fun d H4 a4 b4 s4 r4 => ?_
    walk_at "rd"
    refine loopR_by (fun i σ' H' => ∃ (u : V) (T : Str) (o3 o4 o5 o6 o7 : Option V), σ' = [some (.ref r), some (.str T), some u, o3, o4, o5, o6, o7] ∧ Reel H' r ∧ RT aRope H' u T ∧ T.length ≤ 5000) ?_ ?_ ?_
    · exact ⟨v, t, none, none, none, none, none, rfl, r4, rt3.kp (KpS.sl s4), by omega⟩
    · rintro i σ' H5 hi ⟨u, T, o3, o4, o5, o6, o7, rfl, r5, rt5, hT⟩
      walk_at "rd"
      refine use_draw r5 (by omega) fun c H6 a6 b6 s6 r6 => ?_
      obtain ⟨R6, hR6, oR6, tR6⟩ := rt5.kp (KpS.sl s6)
      obtain ⟨pu, du, uc, ul, ur, rfl, hpu⟩ := hR6.obj
      have hz6 := rt_size tR6
      have q1 := cutS_length T none (some c)
      have q2 := cutS_length T (some c) none
      walk_at "rd"
      refine ⟨_, R6, 0, c, rfl, hR6, oR6, by omega, by omega, a6, by omega, fun x7 H7 J7 s7 r7 o7' t7 => ?_⟩
      have hpu7 := s7 _ _ hpu
      walk_at "rd"
      refine ⟨_, R6, c, (T.length : Int), rfl, hR6.sm s7, oR6, by omega, a6, by omega, by omega, fun x8 H8 J8 s8 r8 o8 t8 => ?_⟩
      have rt8 : RT aRope H8 x7 (cutS T none (some c)) := ⟨J7, r7.sm s8, o7', by rw [t7, tR6, tl_cutS, cut_to a6]; rfl⟩
      have rt8' : RT aRope H8 x8 (cutS T (some c) none) := ⟨J8, r8, o8, by rw [t8, tR6, tl_cutS, cut_from a6, List.take_of_length_le (by rw [← TL.len_tl]; omega)]⟩
      walk_at "rd"
      refine use_right rt8 (by omega) fun H9 s9 => ?_
      walk_at "rd"
      refine use_right (rt8'.sm s9) (by omega) fun HA sA => ?_
      have s8A := Same.trans s9 sA
      obtain ⟨LA, hLA, oLA, tLA⟩ := rt8.sm s8A
      obtain ⟨RA, hRA, oRA, tRA⟩ := rt8'.sm s8A
      obtain ⟨pl, dl, lc, ll, lr, rfl, hpl⟩ := hLA.obj
      obtain ⟨pr, dr, rc, rl, rr, rfl, hpr⟩ := hRA.obj
      have zL := rt_size tLA
      have zR := rt_size tRA
      have r8A := ((r6.same s7).same s8).same s8A
      walk_at "rd"
      refine ⟨_, _, LA, RA, rfl, hLA, hRA, oLA, oRA, by omega, by omega, fun xB HB JB sB rB oB tB => ?_⟩
      have eT : TL.tl (cutS T none (some c)) ++ TL.tl (cutS T (some c) none) = TL.tl T := by rw [tl_cutS, tl_cutS, cut_to a6, cut_from a6, List.take_append_drop]
      have rtB : RT aRope HB xB T := ⟨JB, rB, oB, by rw [tB, tLA, tRA, eT]⟩
      have hlT : (cutS T none (some c)).length + (cutS T (some c) none).length = T.length := by
        have := congrArg List.length eT
        rw [List.length_append, ← TL.len_tl, ← TL.len_tl, ← TL.len_tl] at this
        exact this
      have r8B := r8A.same sB
      have hplB := sB _ _ hpl
      have hprB := sB _ _ hpr
      walk_at "rd"
      refine rCut (fun σ' H' => ∃ (u : V) (T' : Str), σ' = [some (.ref r), some (.str T'), some u, some (.int (0 + (i : Int))), some (.int c), some (.ref pl), some (.ref pr), o7] ∧ Reel H' r ∧ RT aRope H' u T' ∧ T'.length ≤ 5000) ?_ ?_
      · walk_at "rd"
        refine use_draw r8B (by omega) fun e HC aC bC sC rC => ?_
        have hplC := (KpS.sl sC).ins hplB
        have hprC := (KpS.sl sC).ins hprB
        have q3 := len_app (cutS T (some c) none) (cutS T none (some c))
        walk_at "rd"
        refine ifD (fun c2 => ?_) (fun c2 => ?_)
        · walk_at "rd"
          refine ⟨_, _, RA, LA, rfl, (hRA.sm sB).kp (KpS.sl sC), (hLA.sm sB).kp (KpS.sl sC), oRA, oLA, by omega, by omega, fun xD HD JD sD rD oD tD => ?_⟩
          walk_at "rd"
          exact ⟨xD, cutS T (some c) none ++ cutS T none (some c), rfl, rC.same sD, ⟨JD, rD, oD, by rw [tD, tRA, tLA, TL.tl_append]⟩, by omega⟩
        · walk_at "rd"
          exact ⟨xB, T, rfl, rC, rtB.kp (KpS.sl sC), hT⟩
      rintro σ' HD ⟨u, T', rfl, rD, rtD, hT'⟩
      walk_at "rd"
      refine use_right rtD (by omega) fun HE sE => ?_
      have rE := rD.same sE
      walk_at "rd"
      refine use_draw rE (by omega) fun x HF aF bF sF rF => ?_
      walk_at "rd"
      refine use_draw rF (by omega) fun y HG aG bG sG rG => ?_
      walk_at "rd"
      refine newO_gen fun q4 HH fH sH hH => ?_
      walk_at "rd"
      refine sort_lst (ns := [x, y]) hH fun ns hperm hsort => ?_
      obtain ⟨x', y', rfl⟩ : ∃ x y, ns = [x, y] := by
        have hl := hperm.length_eq
        match ns, hl with
        | [x, y], _ => exact ⟨x, y, rfl⟩
      have hx : x' = x ∨ x' = y := by have := hperm.mem_iff (a := x'); simpa using this
      have hy : y' = x ∨ y' = y := by have := hperm.mem_iff (a := y'); simpa using this
      have hxy : x' ≤ y' := by simpa using hsort
      have x0 : 0 ≤ x' := by rcases hx with rfl | rfl <;> omega
      have y1 : y' ≤ (T'.length : Int) := by rcases hy with rfl | rfl <;> omega
      refine newO_gen fun q5 HI fI sI hI => ?_
      have kDI : KpS HD HI := (((KpS.same sE).trans (KpS.sl sF)).trans (KpS.sl sG)).trans (KpS.same (Same.trans sH sI))
      have rI := (rG.same sH).same sI
      obtain ⟨RI, hRI, oRI, tRI⟩ := rtD.kp kDI
      obtain ⟨pi, di, ic, il, ir, rfl, hpi⟩ := hRI.obj
      have zI := rt_size tRI
      have hI' : HI q5 = some (.lst [V.int x', V.int y']) := hI
      walk_at "rd"
      refine ⟨_, RI, x', y', rfl, hRI, oRI, by omega, x0, hxy, by omega, fun xJ HJ JJ sJ rJ oJ tJ => ?_⟩
      have hJ5 := sJ _ _ hI'
      have q6 := cutS_length T' (some x') (some y')
      walk_at "rd"
      refine use_right ⟨JJ, rJ, oJ, by rw [tJ, tl_cutS, cut_mid x0 (by omega), tRI]⟩ (by omega) fun HK sK => ?_
      walk_at "rd"
      have kIK : KpS HI HK := KpS.same (Same.trans sJ sK)
      exact ⟨_, T', _, _, _, _, _, rfl, (rI.same sJ).same sK, ⟨RI, hRI.kp kIK, oRI, tRI⟩, hT'⟩
    · rintro σ' H5 ⟨u, T, o3, o4, o5, o6, o7, rfl, r5, rt5, hT⟩
      walk_at "rd"
      exact k H5
theorem fn_law {f : Addr} {fd : FuncData} (T : Txt mg) (FD : C8.Def K mg "law" s_law f fd)
    (c_law_reel : C8.Cal P w K mg base 1 "_law_reel" (sp_law_reel K) [])
    (c_law_draw : C8.Cal P w K mg base 1 "_law_draw" sp_law_draw [])
    (c_law_cut_ones : C8.Cal P w K mg base 59 "_law_cut_ones" (sp_law_cut_ones aRope) [])
    (c_law_many_edits : C8.Cal P w K mg base 59 "_law_many_edits" (sp_law_many_edits aRope) [])
    (c_law_many_joins : C8.Cal P w K mg base 32 "_law_many_joins" (sp_law_many_joins aRope) [])
    (c_law_unlike_joins : C8.Cal P w K mg base 32 "_law_unlike_joins" (sp_law_unlike_joins aRope) []) : FnOk P w K mg base C8.CX0 60 f fd ["script"] (sp_law K) := by
  refine C8.fn0 FD.fn sc_law (fun vs H Q E h => ?_) (fun cdv A outer s H vs Q E hr h => ?_)
  · obtain ⟨a, ns, rfl, _⟩ := h; rfl
  · obtain ⟨a, ns, rfl, hS, hl, k⟩ := h
    refine ⟨_, (pss_cons (ps_set (i := 1) sc_law.nd rfl (.inl rfl) (C8.pe_c c_law_reel hr (by decide) (by rfl) (pa_cons (pv 0) pa_nil)))
  (pss_cons (ps_set (i := 2) sc_law.nd rfl (.inl rfl) (C8.pe_c c_law_draw hr (by decide) (by rfl) (pa_cons (pv 1) (pa_cons pe_int pa_nil))))
  (pss_cons (ps_if (pt_cmpR (op_eqK K (hu64 hr)) (pv 2) pe_int (nomark _)) (pss_one (ps_ret (C8.pe_c c_law_many_edits hr (by decide) (by rfl) (pa_cons (pv 1) pa_nil)))) pss_nil)
  (pss_cons (ps_if (pt_cmpR (op_eqK K (hu64 hr)) (pv 2) pe_int (nomark _)) (pss_one (ps_ret (C8.pe_c c_law_many_joins hr (by decide) (by rfl) (pa_cons (pv 1) pa_nil)))) pss_nil)
  (pss_cons (ps_if (pt_cmpR (op_eqK K (hu64 hr)) (pv 2) pe_int (nomark _)) (pss_one (ps_ret (C8.pe_c c_law_unlike_joins hr (by decide) (by rfl) (pa_cons (pv 1) pa_nil)))) pss_nil)
  (pss_one (ps_ret (C8.pe_c c_law_cut_ones hr (by decide) (by rfl) (pa_cons (pv 1) pa_nil))))))))), ?_⟩
    show (_ : TS) _ [some (.ref a), none, none] H
    walk_at "rd"
    refine use_reel hS hl fun r H1 f1 s1 r1 => ?_
    walk_at "rd"
    refine use_draw r1 (by omega) fun fm H2 a2 b2 s2 r2 => ?_
    walk_at "rd"
    refine ifD (fun c => ?_) (fun c => ?_)
    · walk_at "rd"
      exact use_way r2 k
    walk_at "rd"
    refine ifD (fun c => ?_) (fun c => ?_)
    · walk_at "rd"
      exact use_way r2 k
    walk_at "rd"
    refine ifD (fun c => ?_) (fun c => ?_)
    · walk_at "rd"
      exact use_way r2 k
    walk_at "rd"
    exact use_way r2 k
end
end Z
namespace Z
open PySem PySem.Spec PyProof.Rows L2
theorem top_super : (PySem.Challenge.rw_mendedtree_k63_rope_balance.prog.main.scope.names.lookup ("super" : Str)).isSome = false := by decide +kernel
theorem all_mk {w : World} {K : PySem.W.Frag} {h : Heap} {mg : Str → Option Value} {fa : Addr} (X : K.In h) (G : h.Ns mainGlobals mg) (hfa : mg "law" = some (.ref fa))
    {t_PIECE_SIZE : Tok}
    {f_wall : Addr} {od_wall an_wall : Option Addr} {sl_wall : Array (Option Value)} {oc_wall kV_wall dc_wall pm_wall cd_wall ct_wall : Value}
    {f_first_unfit : Addr} {od_first_unfit an_first_unfit : Option Addr} {sl_first_unfit : Array (Option Value)} {oc_first_unfit kV_first_unfit dc_first_unfit pm_first_unfit cd_first_unfit ct_first_unfit : Value}
    {f_check_edits : Addr} {od_check_edits an_check_edits : Option Addr} {sl_check_edits : Array (Option Value)} {oc_check_edits kV_check_edits dc_check_edits pm_check_edits cd_check_edits ct_check_edits : Value}
    {f_empty_rope : Addr} {od_empty_rope an_empty_rope : Option Addr} {sl_empty_rope : Array (Option Value)} {oc_empty_rope kV_empty_rope dc_empty_rope pm_empty_rope cd_empty_rope ct_empty_rope : Value}
    {f_rope_of_row : Addr} {od_rope_of_row an_rope_of_row : Option Addr} {sl_rope_of_row : Array (Option Value)} {oc_rope_of_row kV_rope_of_row dc_rope_of_row pm_rope_of_row cd_rope_of_row ct_rope_of_row : Value}
    {f_join_ropes : Addr} {od_join_ropes an_join_ropes : Option Addr} {sl_join_ropes : Array (Option Value)} {oc_join_ropes kV_join_ropes dc_join_ropes pm_join_ropes cd_join_ropes ct_join_ropes : Value}
    {f_balanced_rope : Addr} {od_balanced_rope an_balanced_rope : Option Addr} {sl_balanced_rope : Array (Option Value)} {oc_balanced_rope kV_balanced_rope dc_balanced_rope pm_balanced_rope cd_balanced_rope ct_balanced_rope : Value}
    {f_cut_rope : Addr} {od_cut_rope an_cut_rope : Option Addr} {sl_cut_rope : Array (Option Value)} {oc_cut_rope kV_cut_rope dc_cut_rope pm_cut_rope cd_cut_rope ct_cut_rope : Value}
    {f_law_reel : Addr} {od_law_reel an_law_reel : Option Addr} {sl_law_reel : Array (Option Value)} {oc_law_reel kV_law_reel dc_law_reel pm_law_reel cd_law_reel ct_law_reel : Value}
    {f_law_draw : Addr} {od_law_draw an_law_draw : Option Addr} {sl_law_draw : Array (Option Value)} {oc_law_draw kV_law_draw dc_law_draw pm_law_draw cd_law_draw ct_law_draw : Value}
    {f_law_pick : Addr} {od_law_pick an_law_pick : Option Addr} {sl_law_pick : Array (Option Value)} {oc_law_pick kV_law_pick dc_law_pick pm_law_pick cd_law_pick ct_law_pick : Value}
    {f_law_word : Addr} {od_law_word an_law_word : Option Addr} {sl_law_word : Array (Option Value)} {oc_law_word kV_law_word dc_law_word pm_law_word cd_law_word ct_law_word : Value}
    {f_law_number : Addr} {od_law_number an_law_number : Option Addr} {sl_law_number : Array (Option Value)} {oc_law_number kV_law_number dc_law_number pm_law_number cd_law_number ct_law_number : Value}
    {f_law_signs : Addr} {od_law_signs an_law_signs : Option Addr} {sl_law_signs : Array (Option Value)} {oc_law_signs kV_law_signs dc_law_signs pm_law_signs cd_law_signs ct_law_signs : Value}
    {f_law_stepped : Addr} {od_law_stepped an_law_stepped : Option Addr} {sl_law_stepped : Array (Option Value)} {oc_law_stepped kV_law_stepped dc_law_stepped pm_law_stepped cd_law_stepped ct_law_stepped : Value}
    {f_law_text : Addr} {od_law_text an_law_text : Option Addr} {sl_law_text : Array (Option Value)} {oc_law_text kV_law_text dc_law_text pm_law_text cd_law_text ct_law_text : Value}
    {f_law_new : Addr} {od_law_new an_law_new : Option Addr} {sl_law_new : Array (Option Value)} {oc_law_new kV_law_new dc_law_new pm_law_new cd_law_new ct_law_new : Value}
    {f_law_edit_row : Addr} {od_law_edit_row an_law_edit_row : Option Addr} {sl_law_edit_row : Array (Option Value)} {oc_law_edit_row kV_law_edit_row dc_law_edit_row pm_law_edit_row cd_law_edit_row ct_law_edit_row : Value}
    {f_law_part_ok : Addr} {od_law_part_ok an_law_part_ok : Option Addr} {sl_law_part_ok : Array (Option Value)} {oc_law_part_ok kV_law_part_ok dc_law_part_ok pm_law_part_ok cd_law_part_ok ct_law_part_ok : Value}
    {f_law_pieces : Addr} {od_law_pieces an_law_pieces : Option Addr} {sl_law_pieces : Array (Option Value)} {oc_law_pieces kV_law_pieces dc_law_pieces pm_law_pieces cd_law_pieces ct_law_pieces : Value}
    {f_law_right : Addr} {od_law_right an_law_right : Option Addr} {sl_law_right : Array (Option Value)} {oc_law_right kV_law_right dc_law_right pm_law_right cd_law_right ct_law_right : Value}
    {f_law_many_edits : Addr} {od_law_many_edits an_law_many_edits : Option Addr} {sl_law_many_edits : Array (Option Value)} {oc_law_many_edits kV_law_many_edits dc_law_many_edits pm_law_many_edits cd_law_many_edits ct_law_many_edits : Value}
    {f_law_many_joins : Addr} {od_law_many_joins an_law_many_joins : Option Addr} {sl_law_many_joins : Array (Option Value)} {oc_law_many_joins kV_law_many_joins dc_law_many_joins pm_law_many_joins cd_law_many_joins ct_law_many_joins : Value}
    {f_law_unlike_joins : Addr} {od_law_unlike_joins an_law_unlike_joins : Option Addr} {sl_law_unlike_joins : Array (Option Value)} {oc_law_unlike_joins kV_law_unlike_joins dc_law_unlike_joins pm_law_unlike_joins cd_law_unlike_joins ct_law_unlike_joins : Value}
    {f_law_cut_ones : Addr} {od_law_cut_ones an_law_cut_ones : Option Addr} {sl_law_cut_ones : Array (Option Value)} {oc_law_cut_ones kV_law_cut_ones dc_law_cut_ones pm_law_cut_ones cd_law_cut_ones ct_law_cut_ones : Value}
    {f_law : Addr} {od_law an_law : Option Addr} {sl_law : Array (Option Value)} {oc_law kV_law dc_law pm_law cd_law ct_law : Value}
    {C_EditError : Addr}
    {nm_EditError q_EditError : Str} {N_EditError : Addr} {bs_EditError bm_EditError : List Value} {sn_EditError : List Str} {sub_EditError : List Value} {ab_EditError : Bool} {col_EditError : Option Bool} {dd_EditError : Option Addr} {m0_EditError m1_EditError m2_EditError m3_EditError m5_EditError : Option Value}
    {g_EditError cda_EditError cc_EditError : Addr} {go_EditError gk_EditError gd_EditError gp_EditError gt_EditError u1_EditError u2_EditError : Value} {ge_EditError gn_EditError u3_EditError u4_EditError : Option Addr} {gs_EditError u5_EditError u6_EditError : Array (Option Value)} {vs_EditError : Array Value} {fl_EditError : Str} {tf_EditError : Tok}
    {C_Rope : Addr}
    {g_Rope_of : Addr} {od_Rope_of an_Rope_of : Option Addr} {sl_Rope_of : Array (Option Value)} {oc_Rope_of kV_Rope_of dc_Rope_of pm_Rope_of cd_Rope_of ct_Rope_of : Value}
    {p_Rope_of : Addr} {r_Rope_of : List Value}
    {g_Rope_init : Addr} {od_Rope_init an_Rope_init : Option Addr} {sl_Rope_init : Array (Option Value)} {oc_Rope_init kV_Rope_init dc_Rope_init pm_Rope_init cd_Rope_init ct_Rope_init : Value}
    {g_Rope_cut : Addr} {od_Rope_cut an_Rope_cut : Option Addr} {sl_Rope_cut : Array (Option Value)} {oc_Rope_cut kV_Rope_cut dc_Rope_cut pm_Rope_cut cd_Rope_cut ct_Rope_cut : Value}
    {g_Rope_joined : Addr} {od_Rope_joined an_Rope_joined : Option Addr} {sl_Rope_joined : Array (Option Value)} {oc_Rope_joined kV_Rope_joined dc_Rope_joined pm_Rope_joined cd_Rope_joined ct_Rope_joined : Value}
    {g_Rope_edited : Addr} {od_Rope_edited an_Rope_edited : Option Addr} {sl_Rope_edited : Array (Option Value)} {oc_Rope_edited kV_Rope_edited dc_Rope_edited pm_Rope_edited cd_Rope_edited ct_Rope_edited : Value}
    (z_ValueError : PySem.W.nsIn K mainGlobals "ValueError" = some none)
    (z_abs : PySem.W.nsIn K mainGlobals "abs" = some none)
    (z_bool : PySem.W.nsIn K mainGlobals "bool" = some none)
    (z_int : PySem.W.nsIn K mainGlobals "int" = some none)
    (z_isinstance : PySem.W.nsIn K mainGlobals "isinstance" = some none)
    (z_len : PySem.W.nsIn K mainGlobals "len" = some none)
    (z_list : PySem.W.nsIn K mainGlobals "list" = some none)
    (z_max : PySem.W.nsIn K mainGlobals "max" = some none)
    (z_min : PySem.W.nsIn K mainGlobals "min" = some none)
    (z_range : PySem.W.nsIn K mainGlobals "range" = some none)
    (z_sorted : PySem.W.nsIn K mainGlobals "sorted" = some none)
    (z_str : PySem.W.nsIn K mainGlobals "str" = some none)
    (z_sum : PySem.W.nsIn K mainGlobals "sum" = some none)
    (z_PIECE_SIZE : PySem.W.nsIn K mainGlobals "PIECE_SIZE" = some (some (.int 16 t_PIECE_SIZE)))
    (a_wall : PySem.W.nsIn K mainGlobals "_wall" = some (some (.ref f_wall)))
    (l_wall : K.lookup f_wall = some ⟨oc_wall, od_wall, .func (PySem.W.fnOf "_wall" "_wall" (C8.fnArgs s_wall) (C8.fnBody s_wall) (C8.fnScope s_wall) .none kV_wall dc_wall pm_wall an_wall cd_wall ct_wall), sl_wall⟩)
    (c_wall : PySem.W.codeIn K cd_wall "_wall" = true)
    (k_wall : PySem.W.keepIn K (.ref f_wall) = true)
    (a_first_unfit : PySem.W.nsIn K mainGlobals "first_unfit" = some (some (.ref f_first_unfit)))
    (l_first_unfit : K.lookup f_first_unfit = some ⟨oc_first_unfit, od_first_unfit, .func (PySem.W.fnOf "first_unfit" "first_unfit" (C8.fnArgs s_first_unfit) (C8.fnBody s_first_unfit) (C8.fnScope s_first_unfit) .none kV_first_unfit dc_first_unfit pm_first_unfit an_first_unfit cd_first_unfit ct_first_unfit), sl_first_unfit⟩)
    (c_first_unfit : PySem.W.codeIn K cd_first_unfit "first_unfit" = true)
    (k_first_unfit : PySem.W.keepIn K (.ref f_first_unfit) = true)
    (a_check_edits : PySem.W.nsIn K mainGlobals "check_edits" = some (some (.ref f_check_edits)))
    (l_check_edits : K.lookup f_check_edits = some ⟨oc_check_edits, od_check_edits, .func (PySem.W.fnOf "check_edits" "check_edits" (C8.fnArgs s_check_edits) (C8.fnBody s_check_edits) (C8.fnScope s_check_edits) .none kV_check_edits dc_check_edits pm_check_edits an_check_edits cd_check_edits ct_check_edits), sl_check_edits⟩)
    (c_check_edits : PySem.W.codeIn K cd_check_edits "check_edits" = true)
    (k_check_edits : PySem.W.keepIn K (.ref f_check_edits) = true)
    (a_empty_rope : PySem.W.nsIn K mainGlobals "empty_rope" = some (some (.ref f_empty_rope)))
    (l_empty_rope : K.lookup f_empty_rope = some ⟨oc_empty_rope, od_empty_rope, .func (PySem.W.fnOf "empty_rope" "empty_rope" (C8.fnArgs s_empty_rope) (C8.fnBody s_empty_rope) (C8.fnScope s_empty_rope) .none kV_empty_rope dc_empty_rope pm_empty_rope an_empty_rope cd_empty_rope ct_empty_rope), sl_empty_rope⟩)
    (c_empty_rope : PySem.W.codeIn K cd_empty_rope "empty_rope" = true)
    (k_empty_rope : PySem.W.keepIn K (.ref f_empty_rope) = true)
    (a_rope_of_row : PySem.W.nsIn K mainGlobals "rope_of_row" = some (some (.ref f_rope_of_row)))
    (l_rope_of_row : K.lookup f_rope_of_row = some ⟨oc_rope_of_row, od_rope_of_row, .func (PySem.W.fnOf "rope_of_row" "rope_of_row" (C8.fnArgs s_rope_of_row) (C8.fnBody s_rope_of_row) (C8.fnScope s_rope_of_row) .none kV_rope_of_row dc_rope_of_row pm_rope_of_row an_rope_of_row cd_rope_of_row ct_rope_of_row), sl_rope_of_row⟩)
    (c_rope_of_row : PySem.W.codeIn K cd_rope_of_row "rope_of_row" = true)
    (k_rope_of_row : PySem.W.keepIn K (.ref f_rope_of_row) = true)
    (a_join_ropes : PySem.W.nsIn K mainGlobals "join_ropes" = some (some (.ref f_join_ropes)))
    (l_join_ropes : K.lookup f_join_ropes = some ⟨oc_join_ropes, od_join_ropes, .func (PySem.W.fnOf "join_ropes" "join_ropes" (C8.fnArgs s_join_ropes) (C8.fnBody s_join_ropes) (C8.fnScope s_join_ropes) .none kV_join_ropes dc_join_ropes pm_join_ropes an_join_ropes cd_join_ropes ct_join_ropes), sl_join_ropes⟩)
    (c_join_ropes : PySem.W.codeIn K cd_join_ropes "join_ropes" = true)
    (k_join_ropes : PySem.W.keepIn K (.ref f_join_ropes) = true)
    (a_balanced_rope : PySem.W.nsIn K mainGlobals "balanced_rope" = some (some (.ref f_balanced_rope)))
    (l_balanced_rope : K.lookup f_balanced_rope = some ⟨oc_balanced_rope, od_balanced_rope, .func (PySem.W.fnOf "balanced_rope" "balanced_rope" (C8.fnArgs s_balanced_rope) (C8.fnBody s_balanced_rope) (C8.fnScope s_balanced_rope) .none kV_balanced_rope dc_balanced_rope pm_balanced_rope an_balanced_rope cd_balanced_rope ct_balanced_rope), sl_balanced_rope⟩)
    (c_balanced_rope : PySem.W.codeIn K cd_balanced_rope "balanced_rope" = true)
    (k_balanced_rope : PySem.W.keepIn K (.ref f_balanced_rope) = true)
    (a_cut_rope : PySem.W.nsIn K mainGlobals "cut_rope" = some (some (.ref f_cut_rope)))
    (l_cut_rope : K.lookup f_cut_rope = some ⟨oc_cut_rope, od_cut_rope, .func (PySem.W.fnOf "cut_rope" "cut_rope" (C8.fnArgs s_cut_rope) (C8.fnBody s_cut_rope) (C8.fnScope s_cut_rope) .none kV_cut_rope dc_cut_rope pm_cut_rope an_cut_rope cd_cut_rope ct_cut_rope), sl_cut_rope⟩)
    (c_cut_rope : PySem.W.codeIn K cd_cut_rope "cut_rope" = true)
    (k_cut_rope : PySem.W.keepIn K (.ref f_cut_rope) = true)
    (a_law_reel : PySem.W.nsIn K mainGlobals "_law_reel" = some (some (.ref f_law_reel)))
    (l_law_reel : K.lookup f_law_reel = some ⟨oc_law_reel, od_law_reel, .func (PySem.W.fnOf "_law_reel" "_law_reel" (C8.fnArgs s_law_reel) (C8.fnBody s_law_reel) (C8.fnScope s_law_reel) .none kV_law_reel dc_law_reel pm_law_reel an_law_reel cd_law_reel ct_law_reel), sl_law_reel⟩)
    (c_law_reel : PySem.W.codeIn K cd_law_reel "_law_reel" = true)
    (k_law_reel : PySem.W.keepIn K (.ref f_law_reel) = true)
    (a_law_draw : PySem.W.nsIn K mainGlobals "_law_draw" = some (some (.ref f_law_draw)))
    (l_law_draw : K.lookup f_law_draw = some ⟨oc_law_draw, od_law_draw, .func (PySem.W.fnOf "_law_draw" "_law_draw" (C8.fnArgs s_law_draw) (C8.fnBody s_law_draw) (C8.fnScope s_law_draw) .none kV_law_draw dc_law_draw pm_law_draw an_law_draw cd_law_draw ct_law_draw), sl_law_draw⟩)
    (c_law_draw : PySem.W.codeIn K cd_law_draw "_law_draw" = true)
    (k_law_draw : PySem.W.keepIn K (.ref f_law_draw) = true)
    (a_law_pick : PySem.W.nsIn K mainGlobals "_law_pick" = some (some (.ref f_law_pick)))
    (l_law_pick : K.lookup f_law_pick = some ⟨oc_law_pick, od_law_pick, .func (PySem.W.fnOf "_law_pick" "_law_pick" (C8.fnArgs s_law_pick) (C8.fnBody s_law_pick) (C8.fnScope s_law_pick) .none kV_law_pick dc_law_pick pm_law_pick an_law_pick cd_law_pick ct_law_pick), sl_law_pick⟩)
    (c_law_pick : PySem.W.codeIn K cd_law_pick "_law_pick" = true)
    (k_law_pick : PySem.W.keepIn K (.ref f_law_pick) = true)
    (a_law_word : PySem.W.nsIn K mainGlobals "_law_word" = some (some (.ref f_law_word)))
    (l_law_word : K.lookup f_law_word = some ⟨oc_law_word, od_law_word, .func (PySem.W.fnOf "_law_word" "_law_word" (C8.fnArgs s_law_word) (C8.fnBody s_law_word) (C8.fnScope s_law_word) .none kV_law_word dc_law_word pm_law_word an_law_word cd_law_word ct_law_word), sl_law_word⟩)
    (c_law_word : PySem.W.codeIn K cd_law_word "_law_word" = true)
    (k_law_word : PySem.W.keepIn K (.ref f_law_word) = true)
    (a_law_number : PySem.W.nsIn K mainGlobals "_law_number" = some (some (.ref f_law_number)))
    (l_law_number : K.lookup f_law_number = some ⟨oc_law_number, od_law_number, .func (PySem.W.fnOf "_law_number" "_law_number" (C8.fnArgs s_law_number) (C8.fnBody s_law_number) (C8.fnScope s_law_number) .none kV_law_number dc_law_number pm_law_number an_law_number cd_law_number ct_law_number), sl_law_number⟩)
    (c_law_number : PySem.W.codeIn K cd_law_number "_law_number" = true)
    (k_law_number : PySem.W.keepIn K (.ref f_law_number) = true)
    (a_law_signs : PySem.W.nsIn K mainGlobals "_law_signs" = some (some (.ref f_law_signs)))
    (l_law_signs : K.lookup f_law_signs = some ⟨oc_law_signs, od_law_signs, .func (PySem.W.fnOf "_law_signs" "_law_signs" (C8.fnArgs s_law_signs) (C8.fnBody s_law_signs) (C8.fnScope s_law_signs) .none kV_law_signs dc_law_signs pm_law_signs an_law_signs cd_law_signs ct_law_signs), sl_law_signs⟩)
    (c_law_signs : PySem.W.codeIn K cd_law_signs "_law_signs" = true)
    (k_law_signs : PySem.W.keepIn K (.ref f_law_signs) = true)
    (a_law_stepped : PySem.W.nsIn K mainGlobals "_law_stepped" = some (some (.ref f_law_stepped)))
    (l_law_stepped : K.lookup f_law_stepped = some ⟨oc_law_stepped, od_law_stepped, .func (PySem.W.fnOf "_law_stepped" "_law_stepped" (C8.fnArgs s_law_stepped) (C8.fnBody s_law_stepped) (C8.fnScope s_law_stepped) .none kV_law_stepped dc_law_stepped pm_law_stepped an_law_stepped cd_law_stepped ct_law_stepped), sl_law_stepped⟩)
    (c_law_stepped : PySem.W.codeIn K cd_law_stepped "_law_stepped" = true)
    (k_law_stepped : PySem.W.keepIn K (.ref f_law_stepped) = true)
    (a_law_text : PySem.W.nsIn K mainGlobals "_law_text" = some (some (.ref f_law_text)))
    (l_law_text : K.lookup f_law_text = some ⟨oc_law_text, od_law_text, .func (PySem.W.fnOf "_law_text" "_law_text" (C8.fnArgs s_law_text) (C8.fnBody s_law_text) (C8.fnScope s_law_text) .none kV_law_text dc_law_text pm_law_text an_law_text cd_law_text ct_law_text), sl_law_text⟩)
    (c_law_text : PySem.W.codeIn K cd_law_text "_law_text" = true)
    (k_law_text : PySem.W.keepIn K (.ref f_law_text) = true)
    (a_law_new : PySem.W.nsIn K mainGlobals "_law_new" = some (some (.ref f_law_new)))
    (l_law_new : K.lookup f_law_new = some ⟨oc_law_new, od_law_new, .func (PySem.W.fnOf "_law_new" "_law_new" (C8.fnArgs s_law_new) (C8.fnBody s_law_new) (C8.fnScope s_law_new) .none kV_law_new dc_law_new pm_law_new an_law_new cd_law_new ct_law_new), sl_law_new⟩)
    (c_law_new : PySem.W.codeIn K cd_law_new "_law_new" = true)
    (k_law_new : PySem.W.keepIn K (.ref f_law_new) = true)
    (a_law_edit_row : PySem.W.nsIn K mainGlobals "_law_edit_row" = some (some (.ref f_law_edit_row)))
    (l_law_edit_row : K.lookup f_law_edit_row = some ⟨oc_law_edit_row, od_law_edit_row, .func (PySem.W.fnOf "_law_edit_row" "_law_edit_row" (C8.fnArgs s_law_edit_row) (C8.fnBody s_law_edit_row) (C8.fnScope s_law_edit_row) .none kV_law_edit_row dc_law_edit_row pm_law_edit_row an_law_edit_row cd_law_edit_row ct_law_edit_row), sl_law_edit_row⟩)
    (c_law_edit_row : PySem.W.codeIn K cd_law_edit_row "_law_edit_row" = true)
    (k_law_edit_row : PySem.W.keepIn K (.ref f_law_edit_row) = true)
    (a_law_part_ok : PySem.W.nsIn K mainGlobals "_law_part_ok" = some (some (.ref f_law_part_ok)))
    (l_law_part_ok : K.lookup f_law_part_ok = some ⟨oc_law_part_ok, od_law_part_ok, .func (PySem.W.fnOf "_law_part_ok" "_law_part_ok" (C8.fnArgs s_law_part_ok) (C8.fnBody s_law_part_ok) (C8.fnScope s_law_part_ok) .none kV_law_part_ok dc_law_part_ok pm_law_part_ok an_law_part_ok cd_law_part_ok ct_law_part_ok), sl_law_part_ok⟩)
    (c_law_part_ok : PySem.W.codeIn K cd_law_part_ok "_law_part_ok" = true)
    (k_law_part_ok : PySem.W.keepIn K (.ref f_law_part_ok) = true)
    (a_law_pieces : PySem.W.nsIn K mainGlobals "_law_pieces" = some (some (.ref f_law_pieces)))
    (l_law_pieces : K.lookup f_law_pieces = some ⟨oc_law_pieces, od_law_pieces, .func (PySem.W.fnOf "_law_pieces" "_law_pieces" (C8.fnArgs s_law_pieces) (C8.fnBody s_law_pieces) (C8.fnScope s_law_pieces) .none kV_law_pieces dc_law_pieces pm_law_pieces an_law_pieces cd_law_pieces ct_law_pieces), sl_law_pieces⟩)
    (c_law_pieces : PySem.W.codeIn K cd_law_pieces "_law_pieces" = true)
    (k_law_pieces : PySem.W.keepIn K (.ref f_law_pieces) = true)
    (a_law_right : PySem.W.nsIn K mainGlobals "_law_right" = some (some (.ref f_law_right)))
    (l_law_right : K.lookup f_law_right = some ⟨oc_law_right, od_law_right, .func (PySem.W.fnOf "_law_right" "_law_right" (C8.fnArgs s_law_right) (C8.fnBody s_law_right) (C8.fnScope s_law_right) .none kV_law_right dc_law_right pm_law_right an_law_right cd_law_right ct_law_right), sl_law_right⟩)
    (c_law_right : PySem.W.codeIn K cd_law_right "_law_right" = true)
    (k_law_right : PySem.W.keepIn K (.ref f_law_right) = true)
    (a_law_many_edits : PySem.W.nsIn K mainGlobals "_law_many_edits" = some (some (.ref f_law_many_edits)))
    (l_law_many_edits : K.lookup f_law_many_edits = some ⟨oc_law_many_edits, od_law_many_edits, .func (PySem.W.fnOf "_law_many_edits" "_law_many_edits" (C8.fnArgs s_law_many_edits) (C8.fnBody s_law_many_edits) (C8.fnScope s_law_many_edits) .none kV_law_many_edits dc_law_many_edits pm_law_many_edits an_law_many_edits cd_law_many_edits ct_law_many_edits), sl_law_many_edits⟩)
    (c_law_many_edits : PySem.W.codeIn K cd_law_many_edits "_law_many_edits" = true)
    (k_law_many_edits : PySem.W.keepIn K (.ref f_law_many_edits) = true)
    (a_law_many_joins : PySem.W.nsIn K mainGlobals "_law_many_joins" = some (some (.ref f_law_many_joins)))
    (l_law_many_joins : K.lookup f_law_many_joins = some ⟨oc_law_many_joins, od_law_many_joins, .func (PySem.W.fnOf "_law_many_joins" "_law_many_joins" (C8.fnArgs s_law_many_joins) (C8.fnBody s_law_many_joins) (C8.fnScope s_law_many_joins) .none kV_law_many_joins dc_law_many_joins pm_law_many_joins an_law_many_joins cd_law_many_joins ct_law_many_joins), sl_law_many_joins⟩)
    (c_law_many_joins : PySem.W.codeIn K cd_law_many_joins "_law_many_joins" = true)
    (k_law_many_joins : PySem.W.keepIn K (.ref f_law_many_joins) = true)
    (a_law_unlike_joins : PySem.W.nsIn K mainGlobals "_law_unlike_joins" = some (some (.ref f_law_unlike_joins)))
    (l_law_unlike_joins : K.lookup f_law_unlike_joins = some ⟨oc_law_unlike_joins, od_law_unlike_joins, .func (PySem.W.fnOf "_law_unlike_joins" "_law_unlike_joins" (C8.fnArgs s_law_unlike_joins) (C8.fnBody s_law_unlike_joins) (C8.fnScope s_law_unlike_joins) .none kV_law_unlike_joins dc_law_unlike_joins pm_law_unlike_joins an_law_unlike_joins cd_law_unlike_joins ct_law_unlike_joins), sl_law_unlike_joins⟩)
    (c_law_unlike_joins : PySem.W.codeIn K cd_law_unlike_joins "_law_unlike_joins" = true)
    (k_law_unlike_joins : PySem.W.keepIn K (.ref f_law_unlike_joins) = true)
    (a_law_cut_ones : PySem.W.nsIn K mainGlobals "_law_cut_ones" = some (some (.ref f_law_cut_ones)))
    (l_law_cut_ones : K.lookup f_law_cut_ones = some ⟨oc_law_cut_ones, od_law_cut_ones, .func (PySem.W.fnOf "_law_cut_ones" "_law_cut_ones" (C8.fnArgs s_law_cut_ones) (C8.fnBody s_law_cut_ones) (C8.fnScope s_law_cut_ones) .none kV_law_cut_ones dc_law_cut_ones pm_law_cut_ones an_law_cut_ones cd_law_cut_ones ct_law_cut_ones), sl_law_cut_ones⟩)
    (c_law_cut_ones : PySem.W.codeIn K cd_law_cut_ones "_law_cut_ones" = true)
    (k_law_cut_ones : PySem.W.keepIn K (.ref f_law_cut_ones) = true)
    (a_law : PySem.W.nsIn K mainGlobals "law" = some (some (.ref f_law)))
    (l_law : K.lookup f_law = some ⟨oc_law, od_law, .func (PySem.W.fnOf "law" "law" (C8.fnArgs s_law) (C8.fnBody s_law) (C8.fnScope s_law) .none kV_law dc_law pm_law an_law cd_law ct_law), sl_law⟩)
    (c_law : PySem.W.codeIn K cd_law "law" = true)
    (k_law : PySem.W.keepIn K (.ref f_law) = true)
    (a_EditError : PySem.W.nsIn K mainGlobals "EditError" = some (some (.ref C_EditError)))
    (ic_EditError : PySem.W.isClsIn K C_EditError = true)
    (tc_EditError : PySem.W.typeIn K (.ref C_EditError) = some (.type "type"))
    (be_EditError : PySem.W.subIn K (.ref C_EditError) (.type "BaseException") = some true)
    (ss_EditError : PySem.W.subIn K (.ref C_EditError) (.ref C_EditError) = some true)
    (sv_EditError : PySem.W.subIn K (.ref C_EditError) (.type "ValueError") = some true)
    (ga_EditError : PySem.W.findIn K (.ref C_EditError) "__getattribute__" = some (some (.builtin "BaseException.__getattribute__")))
    (gg_EditError : PySem.W.findIn K (.ref C_EditError) "__getattr__" = some none)
    (hd_EditError : PySem.W.hasDictIn K C_EditError = true)
    (cl_EditError : PySem.W.findIn K (.ref C_EditError) "__class__" = some (some (.builtin "object.__class__")))
    (mo_EditError : PySem.W.mroIn K C_EditError (.type "object") = some true)
    (nof_EditError_index : PySem.W.findIn K (.ref C_EditError) "index" = some none)
    (xl_EditError : K.lookup C_EditError = some (excClassObj nm_EditError q_EditError C_EditError N_EditError bs_EditError bm_EditError true sn_EditError sub_EditError ab_EditError col_EditError dd_EditError m0_EditError m1_EditError m2_EditError m3_EditError m5_EditError "ValueError.__new__"))
    (bmok_EditError : PySem.HandSPX.refsVE bm_EditError = true)
    (sa_EditError : PySem.W.findIn K (.ref C_EditError) "__setattr__" = some (some (.builtin "object.__setattr__")))
    (kc_EditError : PySem.W.keepIn K (.ref C_EditError) = true)
    (in_EditError : PySem.W.findIn K (.ref C_EditError) "__init__" = some (some (.ref g_EditError)))
    (ti_EditError : PySem.W.typeIn K (.ref g_EditError) = some (.type "function"))
    (li_EditError : K.lookup g_EditError = some ⟨go_EditError, ge_EditError, .func (PySem.W.ksFn "__init__" "EditError.__init__" (C8.fnArgs s_EditError___init__) (C8.fnBody s_EditError___init__) (C8.fnScope s_EditError___init__) .none gk_EditError gd_EditError gp_EditError gn_EditError (.ref cda_EditError) gt_EditError cc_EditError), gs_EditError⟩)
    (ci_EditError : PySem.W.codeIn K (.ref cda_EditError) "EditError.__init__" = true)
    (co_EditError : K.lookup cda_EditError = some ⟨u1_EditError, u3_EditError, .fields vs_EditError, u5_EditError⟩)
    (v2_EditError : vs_EditError[2]? = some (.str fl_EditError tf_EditError))
    (fl_ok_EditError : ((PySem.Challenge.rw_mendedtree_k63_rope_balance.prog.main.file : Str) == fl_EditError) = true)
    (ce_EditError : K.lookup cc_EditError = some ⟨u2_EditError, u4_EditError, .cell (some (.ref C_EditError)), u6_EditError⟩)
    (mr_EditError : PySem.W.mroIn K C_EditError (.ref C_EditError) = some true)
    (al_EditError : PySem.W.ks_superIn K C_EditError C_EditError "__init__" = some (some (.builtin "ValueError.__init__")))
    (z1 : PySem.W.specialIn K (.builtin "object.__class__") "__get__" = some (some (.builtin "getset_descriptor.__get__")))
    (z2 : PySem.W.takesIn K (.builtin "object.__class__") = some true)
    (z_super : PySem.W.nsIn K mainGlobals "super" = some none)
    (z3 : PySem.W.nsIn K cStatics "thirdparty.any" = some none)
    (a_Rope : PySem.W.nsIn K mainGlobals "Rope" = some (some (.ref C_Rope)))
    (pg_Rope : PySem.W.plainGet K C_Rope Str.empty = true)
    (hd_Rope : PySem.W.hasDictIn K C_Rope = true)
    (po_Rope : PySem.W.plainOver K C_Rope = true)
    (sa_Rope : PySem.W.findIn K (.ref C_Rope) "__setattr__" = some (some (.builtin "object.__setattr__")))
    (mk_Rope : PySem.W.makesIn K C_Rope = true)
    (kc_Rope : PySem.W.keepIn K (.ref C_Rope) = true)
    (cl_Rope : PySem.W.findIn K (.ref C_Rope) "__class__" = some (some (.builtin "object.__class__")))
    (mo_Rope : PySem.W.mroIn K C_Rope (.type "object") = some true)
    (nf_Rope_piece : PySem.W.findIn K (.ref C_Rope) "piece" = some none)
    (nf_Rope_left : PySem.W.findIn K (.ref C_Rope) "left" = some none)
    (nf_Rope_right : PySem.W.findIn K (.ref C_Rope) "right" = some none)
    (nf_Rope_size : PySem.W.findIn K (.ref C_Rope) "size" = some none)
    (nf_Rope_height : PySem.W.findIn K (.ref C_Rope) "height" = some none)
    (rd_Rope : PySem.W.readsIn K C_Rope (.type "type") = true)
    (gc_Rope : PySem.W.specialIn K (.ref C_Rope) "__getattribute__" = some (some (.builtin "type.__getattribute__")))
    (at_Rope_of : PySem.W.findCls K (.ref C_Rope) (.type "type") "of" = some (.get (.builtin "staticmethod.__get__") (.ref p_Rope_of) .none (.ref C_Rope)))
    (rc_Rope_of : PySem.W.recIn K p_Rope_of "staticmethod" = some (.ref g_Rope_of :: r_Rope_of))
    (is_Rope_of : PySem.W.isFn K (.ref g_Rope_of) = true)
    (l_Rope_of : K.lookup g_Rope_of = some ⟨oc_Rope_of, od_Rope_of, .func (PySem.W.fnOf "of" "Rope.of" (C8.fnArgs s_Rope_of) (C8.fnBody s_Rope_of) (C8.fnScope s_Rope_of) .none kV_Rope_of dc_Rope_of pm_Rope_of an_Rope_of cd_Rope_of ct_Rope_of), sl_Rope_of⟩)
    (c_Rope_of : PySem.W.codeIn K cd_Rope_of "Rope.of" = true)
    (k_Rope_of : PySem.W.keepIn K (.ref g_Rope_of) = true)
    (at_Rope_init : PySem.W.findIn K (.ref C_Rope) "__init__" = some (some (.ref g_Rope_init)))
    (is_Rope_init : PySem.W.isFn K (.ref g_Rope_init) = true)
    (l_Rope_init : K.lookup g_Rope_init = some ⟨oc_Rope_init, od_Rope_init, .func (PySem.W.fnOf "__init__" "Rope.__init__" (C8.fnArgs s_Rope___init__) (C8.fnBody s_Rope___init__) (C8.fnScope s_Rope___init__) .none kV_Rope_init dc_Rope_init pm_Rope_init an_Rope_init cd_Rope_init ct_Rope_init), sl_Rope_init⟩)
    (c_Rope_init : PySem.W.codeIn K cd_Rope_init "Rope.__init__" = true)
    (k_Rope_init : PySem.W.keepIn K (.ref g_Rope_init) = true)
    (at_Rope_cut : PySem.W.findIn K (.ref C_Rope) "cut" = some (some (.ref g_Rope_cut)))
    (is_Rope_cut : PySem.W.isFn K (.ref g_Rope_cut) = true)
    (l_Rope_cut : K.lookup g_Rope_cut = some ⟨oc_Rope_cut, od_Rope_cut, .func (PySem.W.fnOf "cut" "Rope.cut" (C8.fnArgs s_Rope_cut) (C8.fnBody s_Rope_cut) (C8.fnScope s_Rope_cut) .none kV_Rope_cut dc_Rope_cut pm_Rope_cut an_Rope_cut cd_Rope_cut ct_Rope_cut), sl_Rope_cut⟩)
    (c_Rope_cut : PySem.W.codeIn K cd_Rope_cut "Rope.cut" = true)
    (k_Rope_cut : PySem.W.keepIn K (.ref g_Rope_cut) = true)
    (at_Rope_joined : PySem.W.findIn K (.ref C_Rope) "joined" = some (some (.ref g_Rope_joined)))
    (is_Rope_joined : PySem.W.isFn K (.ref g_Rope_joined) = true)
    (l_Rope_joined : K.lookup g_Rope_joined = some ⟨oc_Rope_joined, od_Rope_joined, .func (PySem.W.fnOf "joined" "Rope.joined" (C8.fnArgs s_Rope_joined) (C8.fnBody s_Rope_joined) (C8.fnScope s_Rope_joined) .none kV_Rope_joined dc_Rope_joined pm_Rope_joined an_Rope_joined cd_Rope_joined ct_Rope_joined), sl_Rope_joined⟩)
    (c_Rope_joined : PySem.W.codeIn K cd_Rope_joined "Rope.joined" = true)
    (k_Rope_joined : PySem.W.keepIn K (.ref g_Rope_joined) = true)
    (at_Rope_edited : PySem.W.findIn K (.ref C_Rope) "edited" = some (some (.ref g_Rope_edited)))
    (is_Rope_edited : PySem.W.isFn K (.ref g_Rope_edited) = true)
    (l_Rope_edited : K.lookup g_Rope_edited = some ⟨oc_Rope_edited, od_Rope_edited, .func (PySem.W.fnOf "edited" "Rope.edited" (C8.fnArgs s_Rope_edited) (C8.fnBody s_Rope_edited) (C8.fnScope s_Rope_edited) .none kV_Rope_edited dc_Rope_edited pm_Rope_edited an_Rope_edited cd_Rope_edited ct_Rope_edited), sl_Rope_edited⟩)
    (c_Rope_edited : PySem.W.codeIn K cd_Rope_edited "Rope.edited" = true)
    (k_Rope_edited : PySem.W.keepIn K (.ref g_Rope_edited) = true) :
    ∃ fd : FuncData, (∀ (s : Shared) (v : Value), BindsTo s fd ⟨[v], []⟩ [("script", v)]) ∧ ∀ base : Heap, K.In base → base.Ns mainGlobals mg → FnOk PySem.Challenge.rw_mendedtree_k63_rope_balance.prog w K mg base C8.CX0 60 fa fd ["script"] (sp_law K) := by
  have e := hfa.symm.trans (PySem.W.mg_of X G a_law)
  cases e
  have T : Txt mg := ⟨PySem.W.mg_none_of X G z_ValueError, PySem.W.mg_none_of X G z_abs, PySem.W.mg_none_of X G z_bool, PySem.W.mg_none_of X G z_int, PySem.W.mg_none_of X G z_isinstance, PySem.W.mg_none_of X G z_len, PySem.W.mg_none_of X G z_list, PySem.W.mg_none_of X G z_max, PySem.W.mg_none_of X G z_min, PySem.W.mg_none_of X G z_range, PySem.W.mg_none_of X G z_sorted, PySem.W.mg_none_of X G z_str, PySem.W.mg_none_of X G z_sum, ⟨_, PySem.W.mg_of X G z_PIECE_SIZE⟩⟩
  have F_wall : C8.Def K mg "_wall" s_wall f_wall _ := ⟨⟨_, _, _, _, _, _, _, _, _, _, rfl, l_wall, c_wall⟩, PySem.W.mg_of X G a_wall, k_wall⟩
  have b_wall := C8.Fun.binds F_wall.fn rfl (ps := ["k"]) fun _ _ _ _ _ _ us hl => match us, hl with | [_], _ => rfl
  have F_first_unfit : C8.Def K mg "first_unfit" s_first_unfit f_first_unfit _ := ⟨⟨_, _, _, _, _, _, _, _, _, _, rfl, l_first_unfit, c_first_unfit⟩, PySem.W.mg_of X G a_first_unfit, k_first_unfit⟩
  have b_first_unfit := C8.Fun.binds F_first_unfit.fn rfl (ps := ["length", "edits"]) fun _ _ _ _ _ _ us hl => match us, hl with | [_, _], _ => rfl
  have F_check_edits : C8.Def K mg "check_edits" s_check_edits f_check_edits _ := ⟨⟨_, _, _, _, _, _, _, _, _, _, rfl, l_check_edits, c_check_edits⟩, PySem.W.mg_of X G a_check_edits, k_check_edits⟩
  have b_check_edits := C8.Fun.binds F_check_edits.fn rfl (ps := ["length", "edits"]) fun _ _ _ _ _ _ us hl => match us, hl with | [_, _], _ => rfl
  have F_empty_rope : C8.Def K mg "empty_rope" s_empty_rope f_empty_rope _ := ⟨⟨_, _, _, _, _, _, _, _, _, _, rfl, l_empty_rope, c_empty_rope⟩, PySem.W.mg_of X G a_empty_rope, k_empty_rope⟩
  have b_empty_rope := C8.Fun.binds F_empty_rope.fn rfl (ps := []) fun _ _ _ _ _ _ us hl => match us, hl with | [], _ => rfl
  have F_rope_of_row : C8.Def K mg "rope_of_row" s_rope_of_row f_rope_of_row _ := ⟨⟨_, _, _, _, _, _, _, _, _, _, rfl, l_rope_of_row, c_rope_of_row⟩, PySem.W.mg_of X G a_rope_of_row, k_rope_of_row⟩
  have b_rope_of_row := C8.Fun.binds F_rope_of_row.fn rfl (ps := ["pieces"]) fun _ _ _ _ _ _ us hl => match us, hl with | [_], _ => rfl
  have F_join_ropes : C8.Def K mg "join_ropes" s_join_ropes f_join_ropes _ := ⟨⟨_, _, _, _, _, _, _, _, _, _, rfl, l_join_ropes, c_join_ropes⟩, PySem.W.mg_of X G a_join_ropes, k_join_ropes⟩
  have b_join_ropes := C8.Fun.binds F_join_ropes.fn rfl (ps := ["left", "right"]) fun _ _ _ _ _ _ us hl => match us, hl with | [_, _], _ => rfl
  have F_balanced_rope : C8.Def K mg "balanced_rope" s_balanced_rope f_balanced_rope _ := ⟨⟨_, _, _, _, _, _, _, _, _, _, rfl, l_balanced_rope, c_balanced_rope⟩, PySem.W.mg_of X G a_balanced_rope, k_balanced_rope⟩
  have b_balanced_rope := C8.Fun.binds F_balanced_rope.fn rfl (ps := ["left", "right"]) fun _ _ _ _ _ _ us hl => match us, hl with | [_, _], _ => rfl
  have F_cut_rope : C8.Def K mg "cut_rope" s_cut_rope f_cut_rope _ := ⟨⟨_, _, _, _, _, _, _, _, _, _, rfl, l_cut_rope, c_cut_rope⟩, PySem.W.mg_of X G a_cut_rope, k_cut_rope⟩
  have b_cut_rope := C8.Fun.binds F_cut_rope.fn rfl (ps := ["rope", "start", "end"]) fun _ _ _ _ _ _ us hl => match us, hl with | [_, _, _], _ => rfl
  have F_law_reel : C8.Def K mg "_law_reel" s_law_reel f_law_reel _ := ⟨⟨_, _, _, _, _, _, _, _, _, _, rfl, l_law_reel, c_law_reel⟩, PySem.W.mg_of X G a_law_reel, k_law_reel⟩
  have b_law_reel := C8.Fun.binds F_law_reel.fn rfl (ps := ["script"]) fun _ _ _ _ _ _ us hl => match us, hl with | [_], _ => rfl
  have F_law_draw : C8.Def K mg "_law_draw" s_law_draw f_law_draw _ := ⟨⟨_, _, _, _, _, _, _, _, _, _, rfl, l_law_draw, c_law_draw⟩, PySem.W.mg_of X G a_law_draw, k_law_draw⟩
  have b_law_draw := C8.Fun.binds F_law_draw.fn rfl (ps := ["reel", "size"]) fun _ _ _ _ _ _ us hl => match us, hl with | [_, _], _ => rfl
  have F_law_pick : C8.Def K mg "_law_pick" s_law_pick f_law_pick _ := ⟨⟨_, _, _, _, _, _, _, _, _, _, rfl, l_law_pick, c_law_pick⟩, PySem.W.mg_of X G a_law_pick, k_law_pick⟩
  have b_law_pick := C8.Fun.binds F_law_pick.fn rfl (ps := ["reel", "row"]) fun _ _ _ _ _ _ us hl => match us, hl with | [_, _], _ => rfl
  have F_law_word : C8.Def K mg "_law_word" s_law_word f_law_word _ := ⟨⟨_, _, _, _, _, _, _, _, _, _, rfl, l_law_word, c_law_word⟩, PySem.W.mg_of X G a_law_word, k_law_word⟩
  have b_law_word := C8.Fun.binds F_law_word.fn rfl (ps := ["reel", "letters", "least", "most"]) fun _ _ _ _ _ _ us hl => match us, hl with | [_, _, _, _], _ => rfl
  have F_law_number : C8.Def K mg "_law_number" s_law_number f_law_number _ := ⟨⟨_, _, _, _, _, _, _, _, _, _, rfl, l_law_number, c_law_number⟩, PySem.W.mg_of X G a_law_number, k_law_number⟩
  have b_law_number := C8.Fun.binds F_law_number.fn rfl (ps := ["value"]) fun _ _ _ _ _ _ us hl => match us, hl with | [_], _ => rfl
  have F_law_signs : C8.Def K mg "_law_signs" s_law_signs f_law_signs _ := ⟨⟨_, _, _, _, _, _, _, _, _, _, rfl, l_law_signs, c_law_signs⟩, PySem.W.mg_of X G a_law_signs, k_law_signs⟩
  have b_law_signs := C8.Fun.binds F_law_signs.fn rfl (ps := []) fun _ _ _ _ _ _ us hl => match us, hl with | [], _ => rfl
  have F_law_stepped : C8.Def K mg "_law_stepped" s_law_stepped f_law_stepped _ := ⟨⟨_, _, _, _, _, _, _, _, _, _, rfl, l_law_stepped, c_law_stepped⟩, PySem.W.mg_of X G a_law_stepped, k_law_stepped⟩
  have b_law_stepped := C8.Fun.binds F_law_stepped.fn rfl (ps := ["reel", "size"]) fun _ _ _ _ _ _ us hl => match us, hl with | [_, _], _ => rfl
  have F_law_text : C8.Def K mg "_law_text" s_law_text f_law_text _ := ⟨⟨_, _, _, _, _, _, _, _, _, _, rfl, l_law_text, c_law_text⟩, PySem.W.mg_of X G a_law_text, k_law_text⟩
  have b_law_text := C8.Fun.binds F_law_text.fn rfl (ps := ["reel"]) fun _ _ _ _ _ _ us hl => match us, hl with | [_], _ => rfl
  have F_law_new : C8.Def K mg "_law_new" s_law_new f_law_new _ := ⟨⟨_, _, _, _, _, _, _, _, _, _, rfl, l_law_new, c_law_new⟩, PySem.W.mg_of X G a_law_new, k_law_new⟩
  have b_law_new := C8.Fun.binds F_law_new.fn rfl (ps := ["reel"]) fun _ _ _ _ _ _ us hl => match us, hl with | [_], _ => rfl
  have F_law_edit_row : C8.Def K mg "_law_edit_row" s_law_edit_row f_law_edit_row _ := ⟨⟨_, _, _, _, _, _, _, _, _, _, rfl, l_law_edit_row, c_law_edit_row⟩, PySem.W.mg_of X G a_law_edit_row, k_law_edit_row⟩
  have b_law_edit_row := C8.Fun.binds F_law_edit_row.fn rfl (ps := ["reel", "text", "count"]) fun _ _ _ _ _ _ us hl => match us, hl with | [_, _, _], _ => rfl
  have F_law_part_ok : C8.Def K mg "_law_part_ok" s_law_part_ok f_law_part_ok _ := ⟨⟨_, _, _, _, _, _, _, _, _, _, rfl, l_law_part_ok, c_law_part_ok⟩, PySem.W.mg_of X G a_law_part_ok, k_law_part_ok⟩
  have b_law_part_ok := C8.Fun.binds F_law_part_ok.fn rfl (ps := ["part"]) fun _ _ _ _ _ _ us hl => match us, hl with | [_], _ => rfl
  have F_law_pieces : C8.Def K mg "_law_pieces" s_law_pieces f_law_pieces _ := ⟨⟨_, _, _, _, _, _, _, _, _, _, rfl, l_law_pieces, c_law_pieces⟩, PySem.W.mg_of X G a_law_pieces, k_law_pieces⟩
  have b_law_pieces := C8.Fun.binds F_law_pieces.fn rfl (ps := ["rope", "text"]) fun _ _ _ _ _ _ us hl => match us, hl with | [_, _], _ => rfl
  have F_law_right : C8.Def K mg "_law_right" s_law_right f_law_right _ := ⟨⟨_, _, _, _, _, _, _, _, _, _, rfl, l_law_right, c_law_right⟩, PySem.W.mg_of X G a_law_right, k_law_right⟩
  have b_law_right := C8.Fun.binds F_law_right.fn rfl (ps := ["rope", "text"]) fun _ _ _ _ _ _ us hl => match us, hl with | [_, _], _ => rfl
  have F_law_many_edits : C8.Def K mg "_law_many_edits" s_law_many_edits f_law_many_edits _ := ⟨⟨_, _, _, _, _, _, _, _, _, _, rfl, l_law_many_edits, c_law_many_edits⟩, PySem.W.mg_of X G a_law_many_edits, k_law_many_edits⟩
  have b_law_many_edits := C8.Fun.binds F_law_many_edits.fn rfl (ps := ["reel"]) fun _ _ _ _ _ _ us hl => match us, hl with | [_], _ => rfl
  have F_law_many_joins : C8.Def K mg "_law_many_joins" s_law_many_joins f_law_many_joins _ := ⟨⟨_, _, _, _, _, _, _, _, _, _, rfl, l_law_many_joins, c_law_many_joins⟩, PySem.W.mg_of X G a_law_many_joins, k_law_many_joins⟩
  have b_law_many_joins := C8.Fun.binds F_law_many_joins.fn rfl (ps := ["reel"]) fun _ _ _ _ _ _ us hl => match us, hl with | [_], _ => rfl
  have F_law_unlike_joins : C8.Def K mg "_law_unlike_joins" s_law_unlike_joins f_law_unlike_joins _ := ⟨⟨_, _, _, _, _, _, _, _, _, _, rfl, l_law_unlike_joins, c_law_unlike_joins⟩, PySem.W.mg_of X G a_law_unlike_joins, k_law_unlike_joins⟩
  have b_law_unlike_joins := C8.Fun.binds F_law_unlike_joins.fn rfl (ps := ["reel"]) fun _ _ _ _ _ _ us hl => match us, hl with | [_], _ => rfl
  have F_law_cut_ones : C8.Def K mg "_law_cut_ones" s_law_cut_ones f_law_cut_ones _ := ⟨⟨_, _, _, _, _, _, _, _, _, _, rfl, l_law_cut_ones, c_law_cut_ones⟩, PySem.W.mg_of X G a_law_cut_ones, k_law_cut_ones⟩
  have b_law_cut_ones := C8.Fun.binds F_law_cut_ones.fn rfl (ps := ["reel"]) fun _ _ _ _ _ _ us hl => match us, hl with | [_], _ => rfl
  have F_law : C8.Def K mg "law" s_law _ _ := ⟨⟨_, _, _, _, _, _, _, _, _, _, rfl, l_law, c_law⟩, PySem.W.mg_of X G a_law, k_law⟩
  have x_EditError : ExcK K C_EditError := ⟨ic_EditError, ga_EditError, gg_EditError, be_EditError, cl_EditError, z1, z2, mo_EditError⟩
  have f_EditError : XfC K C_EditError := ⟨ga_EditError, gg_EditError, be_EditError, hd_EditError⟩
  have o_EditError : OexC K C_EditError := ⟨⟨_, _, _, _, _, _, _, _, _, _, _, _, _, _, _, xl_EditError, bmok_EditError⟩, sa_EditError, be_EditError, tc_EditError, kc_EditError⟩
  have u_EditError : SupC PySem.Challenge.rw_mendedtree_k63_rope_balance.prog K mg C_EditError cda_EditError cc_EditError := ⟨o_EditError, ⟨_, _, _, _, _, _, co_EditError, v2_EditError, fl_ok_EditError⟩, ⟨_, _, _, ce_EditError⟩, mr_EditError, PySem.W.mg_none_of X G z_super, z3, al_EditError, sv_EditError, top_super⟩
  have u_Rope : F_Rope K mg C_Rope := ⟨⟨⟨pg_Rope, hd_Rope, po_Rope, sa_Rope⟩, PySem.W.mg_of X G a_Rope, cl_Rope, z1, z2, mo_Rope⟩, nf_Rope_piece, nf_Rope_left, nf_Rope_right, nf_Rope_size, nf_Rope_height⟩
  have F_Rope_of : C8.Fun K "of" "Rope.of" s_Rope_of g_Rope_of _ := ⟨_, _, _, _, _, _, _, _, _, _, rfl, l_Rope_of, c_Rope_of⟩
  have b_Rope_of := C8.Fun.binds F_Rope_of rfl (ps := ["text"]) fun _ _ _ _ _ _ us hl => match us, hl with | [_], _ => rfl
  have F_Rope_init : C8.Fun K "__init__" "Rope.__init__" s_Rope___init__ g_Rope_init _ := ⟨_, _, _, _, _, _, _, _, _, _, rfl, l_Rope_init, c_Rope_init⟩
  have b_Rope_init := C8.Fun.binds F_Rope_init rfl (ps := ["self", "piece", "left", "right"]) fun _ _ _ _ _ _ us hl => match us, hl with | [_, _, _, _], _ => rfl
  have F_Rope_cut : C8.Fun K "cut" "Rope.cut" s_Rope_cut g_Rope_cut _ := ⟨_, _, _, _, _, _, _, _, _, _, rfl, l_Rope_cut, c_Rope_cut⟩
  have b_Rope_cut := C8.Fun.binds F_Rope_cut rfl (ps := ["self", "start", "end"]) fun _ _ _ _ _ _ us hl => match us, hl with | [_, _, _], _ => rfl
  have F_Rope_joined : C8.Fun K "joined" "Rope.joined" s_Rope_joined g_Rope_joined _ := ⟨_, _, _, _, _, _, _, _, _, _, rfl, l_Rope_joined, c_Rope_joined⟩
  have b_Rope_joined := C8.Fun.binds F_Rope_joined rfl (ps := ["self", "other"]) fun _ _ _ _ _ _ us hl => match us, hl with | [_, _], _ => rfl
  have F_Rope_edited : C8.Fun K "edited" "Rope.edited" s_Rope_edited g_Rope_edited _ := ⟨_, _, _, _, _, _, _, _, _, _, rfl, l_Rope_edited, c_Rope_edited⟩
  have b_Rope_edited := C8.Fun.binds F_Rope_edited rfl (ps := ["self", "edits"]) fun _ _ _ _ _ _ us hl => match us, hl with | [_, _], _ => rfl
  refine ⟨PySem.W.fnOf "law" "law" (C8.fnArgs s_law) (C8.fnBody s_law) (C8.fnScope s_law) .none kV_law dc_law pm_law an_law cd_law ct_law, fun s v => .of_eq rfl, fun base _ _ => ?_⟩
  have c_EditError := init_EditError (P := PySem.Challenge.rw_mendedtree_k63_rope_balance.prog) (w := w) (base := base) T li_EditError ci_EditError u_EditError in_EditError ti_EditError (PySem.W.mg_of X G a_EditError) nof_EditError_index
  have c_law_reel := cal_law_reel (P := PySem.Challenge.rw_mendedtree_k63_rope_balance.prog) (w := w) (base := base) T F_law_reel b_law_reel
  have c_law_draw := cal_law_draw (P := PySem.Challenge.rw_mendedtree_k63_rope_balance.prog) (w := w) (base := base) T F_law_draw b_law_draw
  have c_law_pick := cal_law_pick (P := PySem.Challenge.rw_mendedtree_k63_rope_balance.prog) (w := w) (base := base) T F_law_pick b_law_pick c_law_draw
  have c_law_word := cal_law_word (P := PySem.Challenge.rw_mendedtree_k63_rope_balance.prog) (w := w) (base := base) T F_law_word b_law_word c_law_pick c_law_draw
  have c_law_signs := cal_law_signs (P := PySem.Challenge.rw_mendedtree_k63_rope_balance.prog) (w := w) (base := base) T F_law_signs b_law_signs
  have c_law_stepped := cal_law_stepped (P := PySem.Challenge.rw_mendedtree_k63_rope_balance.prog) (w := w) (base := base) T F_law_stepped b_law_stepped c_law_pick c_law_draw c_law_signs
  have c_law_text := cal_law_text (P := PySem.Challenge.rw_mendedtree_k63_rope_balance.prog) (w := w) (base := base) T F_law_text b_law_text c_law_draw c_law_word c_law_stepped c_law_pick c_law_signs
  have c_law_number := cal_law_number (P := PySem.Challenge.rw_mendedtree_k63_rope_balance.prog) (w := w) (base := base) T F_law_number b_law_number
  have c_law_part_ok := cal_law_part_ok (P := PySem.Challenge.rw_mendedtree_k63_rope_balance.prog) (w := w) (base := base) T F_law_part_ok b_law_part_ok c_law_number (u_Rope)
  have c_law_pieces := cal_law_pieces (P := PySem.Challenge.rw_mendedtree_k63_rope_balance.prog) (w := w) (base := base) T F_law_pieces b_law_pieces c_law_part_ok (u_Rope)
  have c_law_right := cal_law_right (P := PySem.Challenge.rw_mendedtree_k63_rope_balance.prog) (w := w) (base := base) T F_law_right b_law_right c_law_pieces
  have c_Rope_init := mak_Rope (P := PySem.Challenge.rw_mendedtree_k63_rope_balance.prog) (w := w) (base := base) T F_Rope_init b_Rope_init u_Rope ⟨mk_Rope, at_Rope_init, is_Rope_init, kc_Rope⟩
  have c_rope_of_row := cal_rope_of_row (P := PySem.Challenge.rw_mendedtree_k63_rope_balance.prog) (w := w) (base := base) T F_rope_of_row b_rope_of_row c_Rope_init
  have c_empty_rope := cal_empty_rope (P := PySem.Challenge.rw_mendedtree_k63_rope_balance.prog) (w := w) (base := base) T F_empty_rope b_empty_rope c_Rope_init
  have c_Rope_of := stat_Rope_of (P := PySem.Challenge.rw_mendedtree_k63_rope_balance.prog) (w := w) (base := base) T F_Rope_of b_Rope_of (PySem.W.mg_of X G a_Rope) ⟨rd_Rope, gc_Rope⟩ at_Rope_of ⟨_, rc_Rope_of⟩ k_Rope_of c_rope_of_row c_empty_rope c_Rope_init
  have c_balanced_rope := cal_balanced_rope (P := PySem.Challenge.rw_mendedtree_k63_rope_balance.prog) (w := w) (base := base) T F_balanced_rope b_balanced_rope c_Rope_init (u_Rope)
  have c_join_ropes := cal_join_ropes (P := PySem.Challenge.rw_mendedtree_k63_rope_balance.prog) (w := w) (base := base) T F_join_ropes b_join_ropes c_balanced_rope c_Rope_init (u_Rope)
  have c_cut_rope := cal_cut_rope (P := PySem.Challenge.rw_mendedtree_k63_rope_balance.prog) (w := w) (base := base) T F_cut_rope b_cut_rope c_join_ropes c_empty_rope c_Rope_init (u_Rope)
  have c_Rope_cut := met_Rope_cut (P := PySem.Challenge.rw_mendedtree_k63_rope_balance.prog) (w := w) (base := base) T F_Rope_cut b_Rope_cut u_Rope ⟨at_Rope_cut, is_Rope_cut, k_Rope_cut⟩ c_cut_rope
  have c_Rope_joined := met_Rope_joined (P := PySem.Challenge.rw_mendedtree_k63_rope_balance.prog) (w := w) (base := base) T F_Rope_joined b_Rope_joined u_Rope ⟨at_Rope_joined, is_Rope_joined, k_Rope_joined⟩ c_join_ropes
  have c_law_cut_ones := cal_law_cut_ones (P := PySem.Challenge.rw_mendedtree_k63_rope_balance.prog) (w := w) (base := base) T F_law_cut_ones b_law_cut_ones c_law_text c_law_right c_law_draw c_Rope_of c_Rope_cut c_Rope_joined
  have c_law_new := cal_law_new (P := PySem.Challenge.rw_mendedtree_k63_rope_balance.prog) (w := w) (base := base) T F_law_new b_law_new c_law_pick c_law_word c_law_draw c_law_stepped c_law_signs
  have c_law_edit_row := cal_law_edit_row (P := PySem.Challenge.rw_mendedtree_k63_rope_balance.prog) (w := w) (base := base) T F_law_edit_row b_law_edit_row c_law_draw c_law_new c_law_pick
  have c_first_unfit := cal_first_unfit (P := PySem.Challenge.rw_mendedtree_k63_rope_balance.prog) (w := w) (base := base) T F_first_unfit b_first_unfit
  have c_check_edits := cal_check_edits (P := PySem.Challenge.rw_mendedtree_k63_rope_balance.prog) (w := w) (base := base) T F_check_edits b_check_edits c_first_unfit c_EditError
  have c_Rope_edited := met_Rope_edited (P := PySem.Challenge.rw_mendedtree_k63_rope_balance.prog) (w := w) (base := base) T F_Rope_edited b_Rope_edited u_Rope ⟨at_Rope_edited, is_Rope_edited, k_Rope_edited⟩ c_check_edits c_join_ropes c_cut_rope c_Rope_of
  have c_law_many_edits := cal_law_many_edits (P := PySem.Challenge.rw_mendedtree_k63_rope_balance.prog) (w := w) (base := base) T F_law_many_edits b_law_many_edits c_law_text c_law_edit_row c_law_right c_Rope_of c_Rope_edited (u_Rope)
  have c_law_many_joins := cal_law_many_joins (P := PySem.Challenge.rw_mendedtree_k63_rope_balance.prog) (w := w) (base := base) T F_law_many_joins b_law_many_joins c_law_draw c_law_right c_law_stepped c_Rope_of c_Rope_joined (u_Rope)
  have c_law_unlike_joins := cal_law_unlike_joins (P := PySem.Challenge.rw_mendedtree_k63_rope_balance.prog) (w := w) (base := base) T F_law_unlike_joins b_law_unlike_joins c_law_pick c_law_draw c_law_right c_law_stepped c_Rope_of c_Rope_joined
  exact fn_law (P := PySem.Challenge.rw_mendedtree_k63_rope_balance.prog) (w := w) (base := base) T F_law c_law_reel c_law_draw c_law_cut_ones c_law_many_edits c_law_many_joins c_law_unlike_joins
theorem walk {q : Program} {loose : List Str} {XP : (Str → Option Value) → Heap → Prop} {YP : World → Heap → Prop} {d : DefRec} {K : Params → PySem.W.Frag} (hn : PySem.Challenge.rw_mendedtree_k63_rope_balance.most = some 63) (hdf : d.params.defaults = [])
    (hY : ∀ (w : World) (h : Heap), YP w h → (K w.params).In h)
    (F : ∀ (w : World) (mg : Str → Option Value) (fa : Addr) (h : Heap), (K w.params).In h → h.Ns mainGlobals mg → mg d.name = some (.ref fa) →
      ∃ fd : FuncData, (∀ (s : Shared) (u : Value), BindsTo s fd ⟨[u], []⟩ [("script", u)]) ∧ ∀ base : Heap, (K w.params).In base → base.Ns mainGlobals mg → FnOk PySem.Challenge.rw_mendedtree_k63_rope_balance.prog w (K w.params) mg base C8.CX0 60 fa fd ["script"] (sp_law (K w.params))) :
    PySem.W.WalkO q loose XP YP PySem.Challenge.rw_mendedtree_k63_rope_balance.row.toRowW d [] (fun f vs => PySem.call f vs) :=
  L2.walk_of (l := PySem.Challenge.rw_mendedtree_k63_rope_balance) (n := 63) (k := 60) (x := "script") (CX := fun _ => C8.CX0) (sp := fun w => sp_law (K w.params)) hn (by decide) hdf ⟨rfl, by decide, by decide⟩ hY F (fun _ _ a ns hl _ hS => ⟨a, ns, rfl, hS, hl, fun _ => rfl⟩) fun _ _ _ _ _ z => z
end Z
open PySem PySem.W PyProof.Rows in
set_option maxRecDepth 100000 in
set_option maxHeartbeats 0 in
theorem PySem.Challenge.cw_mendedtree_k63_rope_balance_holds : PySem.Challenge.rw_mendedtree_k63_rope_balance.Holds := by
  w_on; o_law; k_head; (case hw => w_witness2)
  k_fill
  refine Z.walk rfl rfl (fun w h Y => PySem.W.kIn_of Y) ?F
  case F =>
    intro w mg fa h KX G hmg
    refine' Z.all_mk KX G hmg ?z_ValueError ?z_abs ?z_bool ?z_int ?z_isinstance ?z_len ?z_list ?z_max ?z_min ?z_range ?z_sorted ?z_str ?z_sum ?z_PIECE_SIZE ?a_wall ?l_wall ?c_wall ?k_wall ?a_first_unfit ?l_first_unfit ?c_first_unfit ?k_first_unfit ?a_check_edits ?l_check_edits ?c_check_edits ?k_check_edits ?a_empty_rope ?l_empty_rope ?c_empty_rope ?k_empty_rope ?a_rope_of_row ?l_rope_of_row ?c_rope_of_row ?k_rope_of_row ?a_join_ropes ?l_join_ropes ?c_join_ropes ?k_join_ropes ?a_balanced_rope ?l_balanced_rope ?c_balanced_rope ?k_balanced_rope ?a_cut_rope ?l_cut_rope ?c_cut_rope ?k_cut_rope ?a_law_reel ?l_law_reel ?c_law_reel ?k_law_reel ?a_law_draw ?l_law_draw ?c_law_draw ?k_law_draw ?a_law_pick ?l_law_pick ?c_law_pick ?k_law_pick ?a_law_word ?l_law_word ?c_law_word ?k_law_word ?a_law_number ?l_law_number ?c_law_number ?k_law_number ?a_law_signs ?l_law_signs ?c_law_signs ?k_law_signs ?a_law_stepped ?l_law_stepped ?c_law_stepped ?k_law_stepped ?a_law_text ?l_law_text ?c_law_text ?k_law_text ?a_law_new ?l_law_new ?c_law_new ?k_law_new ?a_law_edit_row ?l_law_edit_row ?c_law_edit_row ?k_law_edit_row ?a_law_part_ok ?l_law_part_ok ?c_law_part_ok ?k_law_part_ok ?a_law_pieces ?l_law_pieces ?c_law_pieces ?k_law_pieces ?a_law_right ?l_law_right ?c_law_right ?k_law_right ?a_law_many_edits ?l_law_many_edits ?c_law_many_edits ?k_law_many_edits ?a_law_many_joins ?l_law_many_joins ?c_law_many_joins ?k_law_many_joins ?a_law_unlike_joins ?l_law_unlike_joins ?c_law_unlike_joins ?k_law_unlike_joins ?a_law_cut_ones ?l_law_cut_ones ?c_law_cut_ones ?k_law_cut_ones ?a_law ?l_law ?c_law ?k_law ?a_EditError ?ic_EditError ?tc_EditError ?be_EditError ?ss_EditError ?sv_EditError ?ga_EditError ?gg_EditError ?hd_EditError ?cl_EditError ?mo_EditError ?nof_EditError_index ?xl_EditError ?bmok_EditError ?sa_EditError ?kc_EditError ?in_EditError ?ti_EditError ?li_EditError ?ci_EditError ?co_EditError ?v2_EditError ?fl_ok_EditError ?ce_EditError ?mr_EditError ?al_EditError ?z1 ?z2 ?z_super ?z3 ?a_Rope ?pg_Rope ?hd_Rope ?po_Rope ?sa_Rope ?mk_Rope ?kc_Rope ?cl_Rope ?mo_Rope ?nf_Rope_piece ?nf_Rope_left ?nf_Rope_right ?nf_Rope_size ?nf_Rope_height ?rd_Rope ?gc_Rope ?at_Rope_of ?rc_Rope_of ?is_Rope_of ?l_Rope_of ?c_Rope_of ?k_Rope_of ?at_Rope_init ?is_Rope_init ?l_Rope_init ?c_Rope_init ?k_Rope_init ?at_Rope_cut ?is_Rope_cut ?l_Rope_cut ?c_Rope_cut ?k_Rope_cut ?at_Rope_joined ?is_Rope_joined ?l_Rope_joined ?c_Rope_joined ?k_Rope_joined ?at_Rope_edited ?is_Rope_edited ?l_Rope_edited ?c_Rope_edited ?k_Rope_edited
    (case z_ValueError => k_is)
    (case z_abs => k_is)
    (case z_bool => k_is)
    (case z_int => k_is)
    (case z_isinstance => k_is)
    (case z_len => k_is)
    (case z_list => k_is)
    (case z_max => k_is)
    (case z_min => k_is)
    (case z_range => k_is)
    (case z_sorted => k_is)
    (case z_str => k_is)
    (case z_sum => k_is)
    (case z_PIECE_SIZE => k_is)
    (case a_wall => k_is)
    (case l_wall => k_is)
    (case c_wall => k_is)
    (case k_wall => k_is)
    (case a_first_unfit => k_is)
    (case l_first_unfit => k_is)
    (case c_first_unfit => k_is)
    (case k_first_unfit => k_is)
    (case a_check_edits => k_is)
    (case l_check_edits => k_is)
    (case c_check_edits => k_is)
    (case k_check_edits => k_is)
    (case a_empty_rope => k_is)
    (case l_empty_rope => k_is)
    (case c_empty_rope => k_is)
    (case k_empty_rope => k_is)
    (case a_rope_of_row => k_is)
    (case l_rope_of_row => k_is)
    (case c_rope_of_row => k_is)
    (case k_rope_of_row => k_is)
    (case a_join_ropes => k_is)
    (case l_join_ropes => k_is)
    (case c_join_ropes => k_is)
    (case k_join_ropes => k_is)
    (case a_balanced_rope => k_is)
    (case l_balanced_rope => k_is)
    (case c_balanced_rope => k_is)
    (case k_balanced_rope => k_is)
    (case a_cut_rope => k_is)
    (case l_cut_rope => k_is)
    (case c_cut_rope => k_is)
    (case k_cut_rope => k_is)
    (case a_law_reel => k_is)
    (case l_law_reel => k_is)
    (case c_law_reel => k_is)
    (case k_law_reel => k_is)
    (case a_law_draw => k_is)
    (case l_law_draw => k_is)
    (case c_law_draw => k_is)
    (case k_law_draw => k_is)
    (case a_law_pick => k_is)
    (case l_law_pick => k_is)
    (case c_law_pick => k_is)
    (case k_law_pick => k_is)
    (case a_law_word => k_is)
    (case l_law_word => k_is)
    (case c_law_word => k_is)
    (case k_law_word => k_is)
    (case a_law_number => k_is)
    (case l_law_number => k_is)
    (case c_law_number => k_is)
    (case k_law_number => k_is)
    (case a_law_signs => k_is)
    (case l_law_signs => k_is)
    (case c_law_signs => k_is)
    (case k_law_signs => k_is)
    (case a_law_stepped => k_is)
    (case l_law_stepped => k_is)
    (case c_law_stepped => k_is)
    (case k_law_stepped => k_is)
    (case a_law_text => k_is)
    (case l_law_text => k_is)
    (case c_law_text => k_is)
    (case k_law_text => k_is)
    (case a_law_new => k_is)
    (case l_law_new => k_is)
    (case c_law_new => k_is)
    (case k_law_new => k_is)
    (case a_law_edit_row => k_is)
    (case l_law_edit_row => k_is)
    (case c_law_edit_row => k_is)
    (case k_law_edit_row => k_is)
    (case a_law_part_ok => k_is)
    (case l_law_part_ok => k_is)
    (case c_law_part_ok => k_is)
    (case k_law_part_ok => k_is)
    (case a_law_pieces => k_is)
    (case l_law_pieces => k_is)
    (case c_law_pieces => k_is)
    (case k_law_pieces => k_is)
    (case a_law_right => k_is)
    (case l_law_right => k_is)
    (case c_law_right => k_is)
    (case k_law_right => k_is)
    (case a_law_many_edits => k_is)
    (case l_law_many_edits => k_is)
    (case c_law_many_edits => k_is)
    (case k_law_many_edits => k_is)
    (case a_law_many_joins => k_is)
    (case l_law_many_joins => k_is)
    (case c_law_many_joins => k_is)
    (case k_law_many_joins => k_is)
    (case a_law_unlike_joins => k_is)
    (case l_law_unlike_joins => k_is)
    (case c_law_unlike_joins => k_is)
    (case k_law_unlike_joins => k_is)
    (case a_law_cut_ones => k_is)
    (case l_law_cut_ones => k_is)
    (case c_law_cut_ones => k_is)
    (case k_law_cut_ones => k_is)
    (case a_law => k_is)
    (case l_law => k_is)
    (case c_law => k_is)
    (case k_law => k_is)
    (case a_EditError => k_is)
    (case ic_EditError => k_is)
    (case tc_EditError => k_is)
    (case be_EditError => k_is)
    (case ss_EditError => first | rfl | k_is)
    (case sv_EditError => k_is)
    (case ga_EditError => k_is)
    (case gg_EditError => k_is)
    (case hd_EditError => k_is)
    (case cl_EditError => k_is)
    (case mo_EditError => k_is)
    (case nof_EditError_index => k_is)
    (case xl_EditError => k_is)
    (case bmok_EditError => first | rfl | decide +kernel)
    (case sa_EditError => k_is)
    (case kc_EditError => k_is)
    (case in_EditError => k_is)
    (case ti_EditError => k_is)
    (case li_EditError => k_is)
    (case ci_EditError => k_is)
    (case co_EditError => k_is)
    (case v2_EditError => rfl)
    (case fl_ok_EditError => first | rfl | decide +kernel)
    (case ce_EditError => k_is)
    (case mr_EditError => k_is)
    (case al_EditError => ks_is)
    (case z1 => k_is)
    (case z2 => k_is)
    (case z_super => k_is)
    (case z3 => k_is)
    (case a_Rope => k_is)
    (case pg_Rope => k_is)
    (case hd_Rope => k_is)
    (case po_Rope => k_is)
    (case sa_Rope => k_is)
    (case mk_Rope => k_is)
    (case kc_Rope => k_is)
    (case cl_Rope => k_is)
    (case mo_Rope => k_is)
    (case nf_Rope_piece => k_is)
    (case nf_Rope_left => k_is)
    (case nf_Rope_right => k_is)
    (case nf_Rope_size => k_is)
    (case nf_Rope_height => k_is)
    (case rd_Rope => k_is)
    (case gc_Rope => k_is)
    (case at_Rope_of => k_is)
    (case rc_Rope_of => k_is)
    (case is_Rope_of => k_is)
    (case l_Rope_of => k_is)
    (case c_Rope_of => k_is)
    (case k_Rope_of => k_is)
    (case at_Rope_init => k_is)
    (case is_Rope_init => k_is)
    (case l_Rope_init => k_is)
    (case c_Rope_init => k_is)
    (case k_Rope_init => k_is)
    (case at_Rope_cut => k_is)
    (case is_Rope_cut => k_is)
    (case l_Rope_cut => k_is)
    (case c_Rope_cut => k_is)
    (case k_Rope_cut => k_is)
    (case at_Rope_joined => k_is)
    (case is_Rope_joined => k_is)
    (case l_Rope_joined => k_is)
    (case c_Rope_joined => k_is)
    (case k_Rope_joined => k_is)
    (case at_Rope_edited => k_is)
    (case is_Rope_edited => k_is)
    (case l_Rope_edited => k_is)
    (case c_Rope_edited => k_is)
    (case k_Rope_edited => k_is)
