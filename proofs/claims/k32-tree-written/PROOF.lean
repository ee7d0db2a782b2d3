import PyProof.Rows.All
import Wide.All
import OpenK.AllK
import Wide.FinOn
import HandS.ForMost
import HandS.Codes
import HandS.Steps
import HandS.Style
import HandS.TupAny
import HandS.Conv
import HandS.IsInst
import HandS.Flow
import HandS.ForExc
import HandS.ExcInit
import HandS.ExcField
import KE.KExcSuper
import HandS.WordsExc
import KE.KExcIs
import HandS.FStrTup
import HandS.Iter
import HandS.IterVal
import HandS.OwnIter
import OpenK.KMeth
import KE.KOpsOwn
import HandS.ClsMeth
import HandS.SortInts
import PyProof.NeKinds
import HandS.MakeKwOnly
import HandS.Walk
import HandS.Zip
import KE.KDictZip
import KE.GoesEnum
import KE.GoesMore
import HandS.Rev
import HandS.NoneIn
import PySem.Challenge.RW_mendedtree_k32_tree_written
set_option Elab.async false
set_option linter.all false
set_option maxRecDepth 100000
set_option maxHeartbeats 4000000
namespace Z
open PySem PySem.Spec L2

/-! ## heaps: what stays -/
/-- all that was tracked stands, but the list at l, which may be another one -/
structure SL (l : Addr) (H H' : Hp) : Prop where
  was : ∃ xs, H l = some (.lst xs)
  is : ∃ xs, H' l = some (.lst xs)
  keep : ∀ a o, a ≠ l → H a = some o → H' a = some o
theorem SL.refl {l : Addr} {H : Hp} {xs : List V} (h : H l = some (.lst xs)) : SL l H H := ⟨⟨_, h⟩, ⟨_, h⟩, fun _ _ _ e => e⟩
theorem SL.trans {l : Addr} {H H1 H2 : Hp} (a : SL l H H1) (b : SL l H1 H2) : SL l H H2 := ⟨a.was, b.is, fun x o n e => b.keep x o n (a.keep x o n e)⟩
theorem Same.at {H H' : Hp} {a : Addr} {o : HO} (s : Same H H') (h : H a = some o) : H' a = some o := s a o h
theorem SL.at {l : Addr} {H H' : Hp} {a : Addr} {o : HO} (s : SL l H H') (n : a ≠ l) (h : H a = some o) : H' a = some o := s.keep a o n h
theorem SL.tup {l p : Addr} {H H' : Hp} {ys : List V} (s : SL l H H') (h : H p = some (.tup ys)) : H' p = some (.tup ys) := by
  obtain ⟨xs, e⟩ := s.was
  exact s.keep p _ (ne_of h e (fun q => nomatch q)) h
theorem SL.frz {l p : Addr} {H H' : Hp} {ob : Obj} {u : HO} (s : SL l H H') (h : H p = some (.frz ob u)) : H' p = some (.frz ob u) := by
  obtain ⟨xs, e⟩ := s.was
  exact s.keep p _ (ne_of h e (fun q => nomatch q)) h
/-- the list at l was made behind H0 -/
theorem SL.same {l : Addr} {H0 H H' : Hp} (s0 : Same H0 H) (s : SL l H H') (n : H0 l = none) : Same H0 H' := fun a o e => s.keep a o (ne_of_none e n) (s0 a o e)
theorem Same.sl {l : Addr} {H H' : Hp} {xs : List V} (h : H l = some (.lst xs)) (s : Same H H') : SL l H H' := ⟨⟨_, h⟩, ⟨_, s _ _ h⟩, fun a o _ e => s a o e⟩
theorem SL.more {l : Addr} {H0 H H' : Hp} (s0 : SL l H0 H) (s : Same H H') : SL l H0 H' := ⟨s0.was, s0.is.imp fun _ e => s _ _ e, fun a o n e => s a o (s0.keep a o n e)⟩
theorem SL.two {l m : Addr} {H0 H H' : Hp} (s0 : SL m H0 H) (s : SL l H H') (n : H0 l = none) : SL m H0 H' := by
  obtain ⟨xs, e0⟩ := s0.was
  obtain ⟨ys, e1⟩ := s0.is
  exact ⟨s0.was, ⟨ys, s.keep m _ (ne_of_none e0 n) e1⟩, fun a o q e => s.keep a o (ne_of_none e n) (s0.keep a o q e)⟩
theorem Same.fre {H H' : Hp} {l : Addr} (e : Same H H') (h : H' l = Option.none) : H l = Option.none := e.free h
theorem SL.fre {H H' : Hp} {l m : Addr} (e : SL m H H') (h : H' l = Option.none) : H l = Option.none := by
  cases q : H l with
  | none => rfl
  | some o =>
    by_cases c : l = m
    · obtain ⟨xs, e1⟩ := e.is
      rw [c, e1] at h
      cases h
    · rw [e.keep l o c q] at h
      cases h
/-- a new object: its address, the heap behind it -/
def newO (o : HO) (H : Hp) (Q : VK) : Prop := ∀ p, H p = none → Q (.ref p) (upd H p o)
/-- p is new to H -/
def Frs (H : Hp) (p : Addr) : Prop := H p = none
theorem Frs.ne {H : Hp} {p a : Addr} {u : HO} (f : Frs H p) (h : H a = some u) : a ≠ p := ne_of_none h f
theorem Frs.ne' {H : Hp} {p a : Addr} {u : HO} (f : Frs H p) (h : H a = some u) : p ≠ a := (ne_of_none h f).symm
theorem newO_gen {o : HO} {H : Hp} {Q : VK} (h : ∀ (p : Addr) (H' : Hp), Frs H p → Same H H' → H' p = some o → Q (.ref p) H') : newO o H Q := fun p hp =>
  h p _ hp (fun b u e => by rw [upd_ne (ne_of_none e hp)]; exact e) upd_same
/-- a list that is written -/
def putO (l : Addr) (xs : List V) (H : Hp) (Q : Hp → Prop) : Prop := Q (upd H l (.lst xs))
theorem putO_gen {l : Addr} {xs ys : List V} {H : Hp} {Q : Hp → Prop} (hw : H l = some (.lst ys)) (h : ∀ H' : Hp, SL l H H' → H' l = some (.lst xs) → Q H') : putO l xs H Q :=
  h _ ⟨⟨_, hw⟩, ⟨_, upd_same⟩, fun a u n e => by rw [upd_ne n]; exact e⟩ upd_same

/-! ## statements -/
section
variable {t u : TS} {nx : L2.St → Hp → Prop} {rt : VK} {bk ct : L2.St → Hp → Prop} {σ : L2.St} {H : Hp} {te ta tb : TE} {c tA tB' : TT} {i : Nat} {Q : VK} {QT : Bool → Hp → Prop}
theorem rSeq (h : t ⟨u ⟨nx, rt, bk, ct⟩, rt, bk, ct⟩ σ H) : tSeq t u ⟨nx, rt, bk, ct⟩ σ H := h
theorem rCut (Mid : L2.St → Hp → Prop) (h : t ⟨Mid, rt, bk, ct⟩ σ H) (h2 : ∀ σ' H', Mid σ' H' → u ⟨nx, rt, bk, ct⟩ σ' H') : C8.tCut t u ⟨nx, rt, bk, ct⟩ σ H := ⟨Mid, h, h2⟩
theorem rNext (h : nx σ H) : tNext ⟨nx, rt, bk, ct⟩ σ H := h
theorem rBrk (h : bk σ H) : tBreak ⟨nx, rt, bk, ct⟩ σ H := h
theorem rCnt (h : ct σ H) : tCont ⟨nx, rt, bk, ct⟩ σ H := h
theorem rDrop (h : te σ H (fun _ H1 => nx σ H1)) : tDrop te ⟨nx, rt, bk, ct⟩ σ H := h
theorem rRet (h : te σ H rt) : tRet te ⟨nx, rt, bk, ct⟩ σ H := h
theorem rRetN (h : rt .non H) : tRetN ⟨nx, rt, bk, ct⟩ σ H := h
theorem rIfS (h : c σ H (fun b H1 => if b = true then t ⟨nx, rt, bk, ct⟩ σ H1 else u ⟨nx, rt, bk, ct⟩ σ H1)) : tIfS c t u ⟨nx, rt, bk, ct⟩ σ H := h
theorem rAsgN (h : te σ H (fun x H1 => nx (σ.set i (some x)) H1)) : tAsg te (gName i) ⟨nx, rt, bk, ct⟩ σ H := h
theorem rAsgT {K : PySem.W.Frag} {n : Nat} {gs : TGs} (h : te σ H (fun x H1 => gTup K n gs x σ H1 nx)) : tAsg te (gTup K n gs) ⟨nx, rt, bk, ct⟩ σ H := h
theorem rAsgS {r : TSet} (h : te σ H (fun x H1 => ta σ H1 fun o H2 => tb σ H2 fun k H3 => r o k x H3 fun H4 => nx σ H4)) : tAsg te (gSub ta tb r) ⟨nx, rt, bk, ct⟩ σ H := h
/-! expressions -/
theorem rVar {v : V} (hi : σ[i]? = some (some v)) (h : Q v H) : tVar i σ H Q := ⟨v, hi, h⟩
theorem rC {v : V} (h : Q v H) : tC v σ H Q := h
theorem rOp {r : R2} (h : ta σ H fun x H1 => tb σ H1 fun y H2 => r x y H2 Q) : tOp r ta tb σ H Q := h
theorem rUn {r : V → Hp → VK → Prop} (h : ta σ H fun x H1 => r x H1 Q) : tUn r ta σ H Q := h
theorem rChain {r r' : R2} {tc : TE} (h : ta σ H fun x H1 => tb σ H1 fun y H2 => r x y H2 fun z H3 => ∃ k, z = .bl k ∧ (if k = true then tc σ H3 fun w' H4 => r' y w' H4 Q else Q (.bl false) H3)) : tChain r r' ta tb tc σ H Q := h
theorem rTest (h : te σ H fun x H' => ∃ k, x = .bl k ∧ QT k H') : tTest te σ H QT := h
theorem rB (h : te σ H fun x H' => ∃ k, x = .bl k ∧ QT k H') : tB te σ H QT := h
theorem rBl {b : Bool} {R : Bool → Hp → Prop} (h : R b H) : ∃ k, V.bl b = V.bl k ∧ R k H := ⟨b, rfl, h⟩
theorem rBl' {b : Bool} {R : Bool → Prop} (h : R b) : ∃ k, V.bl b = V.bl k ∧ R k := ⟨b, rfl, h⟩
theorem rAnd (h : c σ H fun b H1 => if b = true then tA σ H1 QT else QT false H1) : tAnd c tA σ H QT := h
theorem rOr (h : c σ H fun b H1 => if b = true then QT true H1 else tA σ H1 QT) : tOr c tA σ H QT := h
theorem rNot (h : c σ H fun b H1 => QT (!b) H1) : tNot c σ H QT := h
theorem rAndV (h : ta σ H fun x H1 => ∃ k, x = .bl k ∧ if k = true then tb σ H1 Q else Q (.bl false) H1) : tAndV ta tb σ H Q := h
theorem rOrV (h : ta σ H fun x H1 => ∃ k, x = .bl k ∧ if k = true then Q (.bl true) H1 else tb σ H1 Q) : tOrV ta tb σ H Q := h
theorem rNotV (h : ta σ H fun x H1 => ∃ k, x = .bl k ∧ Q (.bl (!k)) H1) : tNotV ta σ H Q := h
theorem rIfE (h : c σ H fun b H1 => if b = true then ta σ H1 Q else tb σ H1 Q) : tIf c ta tb σ H Q := h
variable {tas : TA} {QA : List V → Hp → Prop}
theorem rNil (h : QA [] H) : tNil σ H QA := h
theorem rCons (h : ta σ H fun x H1 => tas σ H1 fun xs H2 => QA (x :: xs) H2) : tCons ta tas σ H QA := h
theorem rTup (h : tas σ H fun xs H1 => xs.length ≤ sizeLine ∧ newO (.tup xs) H1 Q) : tTup tas σ H Q := h
theorem rLst (h : tas σ H fun xs H1 => xs.length ≤ sizeLine ∧ newO (.lst xs) H1 Q) : tLst tas σ H Q := h
theorem rCall {sp : Sp} {E : XK} (h : tas σ H fun vs H1 => sp vs H1 Q E) : tCall sp [] E tas σ H Q := by
  have e : (fun vs H1 => sp vs H1 Q E) = fun vs H1 => sp (vs ++ []) H1 Q E := by
    funext vs H1
    rw [List.append_nil]
  show tas σ H fun vs H1 => sp (vs ++ []) H1 Q E
  rw [← e]
  exact h
theorem rCB {r : List V → Hp → VK → Prop} (h : tas σ H fun vs H1 => r vs H1 Q) : tCB r tas σ H Q := h
theorem rBM {K : PySem.W.Frag} {T : String} {r : V → List V → Hp → VK → Prop} (h : ta σ H fun x H1 => tyV K T x H1 ∧ tas σ H1 fun xs H2 => r x xs H2 Q) : tBM K T r ta tas σ H Q := h
theorem rBM0 {K : PySem.W.Frag} {T : String} {r : V → List V → Hp → VK → Prop} (h : ta σ H fun x H1 => tyV K T x H1 ∧ r x [] H1 Q) : tBM0 K T r ta σ H Q := h
theorem rM1 {r : V → List V → Hp → VK → Prop} (h : ta σ H fun x H1 => (∃ a, x = .str a) ∧ tb σ H1 fun y H2 => r x [y] H2 Q) : tM1 r ta tb σ H Q := h
theorem rM0 {r : V → List V → Hp → VK → Prop} (h : ta σ H fun x H1 => (∃ a, x = .str a) ∧ r x [] H1 Q) : tM0 r ta σ H Q := h
theorem rStr {z : Str} {P : Prop} (h : P) : (∃ a, V.str z = V.str a) ∧ P := ⟨⟨_, rfl⟩, h⟩
variable {QO : Option Int → Hp → Prop} {tl th : TO}
theorem rNoPart (h : QO none H) : tNoPart σ H QO := h
theorem rPart (h : ta σ H fun x H1 => ∃ i, x = .int i ∧ QO (some i) H1) : tPart ta σ H QO := h
theorem rInt {i : Int} {R : Int → Hp → Prop} (h : R i H) : ∃ k, V.int i = V.int k ∧ R k H := ⟨i, rfl, h⟩
theorem rInt' {i : Int} {R : Int → Prop} (h : R i) : ∃ k, V.int i = V.int k ∧ R k := ⟨i, rfl, h⟩
theorem rSl {r : V → Option Int → Option Int → Hp → VK → Prop} (h : ta σ H fun x H1 => tl σ H1 fun l H2 => th σ H2 fun u H3 => r x l u H3 Q) : tSl r ta tl th σ H Q := h
/-! targets -/
variable {g : TG} {gs : TGs} {R : L2.St → Hp → Prop} {v : V} {vs : List V}
theorem gN (h : R (σ.set i (some v)) H) : gName i v σ H R := h
theorem gNl (h : R σ H) : gNil [] σ H R := ⟨rfl, h⟩
theorem gC (h : g v σ H fun σ' H' => gs vs σ' H' R) : gCons g gs (v :: vs) σ H R := ⟨v, vs, rfl, h⟩
theorem gT {K : PySem.W.Frag} {n : Nat} {a : Addr} {xs : List V} (ha : H a = some (.tup xs)) (hn : xs.length = n) (h : gs xs σ H R) : gTup K n gs (.ref a) σ H R := ⟨a, xs, rfl, SqT.of ha, hn, h⟩
/-! tests -/
theorem ifT {A B : Prop} (h : A) : if true = true then A else B := by rw [if_pos rfl]; exact h
theorem ifF {A B : Prop} (h : B) : if false = true then A else B := by rw [if_neg Bool.false_ne_true]; exact h
theorem ifNF {A B : Prop} (h : A) : if (!false) = true then A else B := by rw [if_pos (show (!false) = true from rfl)]; exact h
theorem ifNT {A B : Prop} (h : B) : if (!true) = true then A else B := by rw [if_neg (by decide)]; exact h
/-- the answer is known -/
theorem ifDy {p A B : Prop} [Decidable p] (h : p) (h1 : A) : if decide p = true then A else B := by rw [if_pos (decide_eq_true h)]; exact h1
theorem ifDn {p A B : Prop} [Decidable p] (h : ¬ p) (h2 : B) : if decide p = true then A else B := by rw [if_neg (by rw [decide_eq_false h]; exact Bool.false_ne_true)]; exact h2
theorem ifNDy {p A B : Prop} [Decidable p] (h : p) (h2 : B) : if (!decide p) = true then A else B := by rw [if_neg (by rw [decide_eq_true h]; exact Bool.false_ne_true)]; exact h2
theorem ifNDn {p A B : Prop} [Decidable p] (h : ¬ p) (h1 : A) : if (!decide p) = true then A else B := by rw [if_pos (by rw [decide_eq_false h] <;> rfl)]; exact h1
theorem ifD {p A B : Prop} [Decidable p] (h1 : p → A) (h2 : ¬ p → B) : if decide p = true then A else B := by
  by_cases h : p
  · rw [if_pos (decide_eq_true h)]; exact h1 h
  · rw [if_neg (by rw [decide_eq_false h]; exact Bool.false_ne_true)]; exact h2 h
theorem ifND {p A B : Prop} [Decidable p] (h1 : ¬ p → A) (h2 : p → B) : if (!decide p) = true then A else B := by
  by_cases h : p
  · rw [if_neg (by rw [decide_eq_true h]; exact Bool.false_ne_true)]; exact h2 h
  · rw [if_pos (by rw [decide_eq_false h] <;> rfl)]; exact h1 h
theorem ifB {b : Bool} {A B : Prop} (h1 : b = true → A) (h2 : b = false → B) : if b = true then A else B := by
  cases b with
  | true => rw [if_pos rfl]; exact h1 rfl
  | false => rw [if_neg Bool.false_ne_true]; exact h2 rfl
end
end Z
namespace Z
open PySem PySem.Spec L2

/-! ## operators of several kinds of values -/
abbrev SqV (K : PySem.W.Frag) (H : Hp) (p : Addr) (xs : List V) : Prop := SqL K H p xs ∨ SqT K H p xs
def rAddU (K : PySem.W.Frag) : R2 := fun x y H Q => rI0 (fun i j => .int (i + j)) x y H Q ∨ (∃ i j, x = .str i ∧ y = .str j ∧ i.length + j.length ≤ sizeLine ∧ Q (.str (i ++ j)) H) ∨ rCat x y H Q ∨ rCatA K x y H Q
def rSubU : R2 := rI0 fun i j => .int (i - j)
def rMulU : R2 := fun x y H Q => rI CMul (fun i j => .int (i * j)) x y H Q ∨ rRep x y H Q
def rDivU : R2 := rI CDiv fun i j => .int (i / j)
def rModU : R2 := rI (fun _ j => 0 < j) fun i j => .int (i % j)
def rPowU : R2 := rI CPow fun i j => .int (i ^ j.toNat)
def rEqU (K : PySem.W.Frag) : R2 := fun x y H Q => rEq x y H Q ∨ rEqD K x y H Q
def rNeU (K : PySem.W.Frag) : R2 := fun x y H Q => rNe x y H Q ∨ rNeD K x y H Q
def rLtU : R2 := fun x y H Q => rI0 (fun i j => .bl (decide (i < j))) x y H Q ∨ (∃ i j, x = .str i ∧ y = .str j ∧ Q (.bl (decide (i.cps.toList < j.cps.toList))) H)
def rLeU : R2 := fun x y H Q => rI0 (fun i j => .bl (decide (i ≤ j))) x y H Q ∨ (∃ i j, x = .str i ∧ y = .str j ∧ Q (.bl (!decide (j.cps.toList < i.cps.toList))) H)
def rGtU : R2 := fun x y H Q => rI0 (fun i j => .bl (decide (j < i))) x y H Q ∨ (∃ i j, x = .str i ∧ y = .str j ∧ Q (.bl (decide (j.cps.toList < i.cps.toList))) H)
def rGeU : R2 := fun x y H Q => rI0 (fun i j => .bl (decide (j ≤ i))) x y H Q ∨ (∃ i j, x = .str i ∧ y = .str j ∧ Q (.bl (!decide (i.cps.toList < j.cps.toList))) H)
def rInU (K : PySem.W.Frag) (neg : Bool) : R2 := fun x y H Q => (∃ (c : Nat) (z : Str), x = .str ⟨#[c]⟩ ∧ y = .str z ∧ Q (.bl (if neg = true then !decide (c ∈ z.cps.toList) else decide (c ∈ z.cps.toList))) H) ∨ rIn K neg x y H Q
def rIsU (neg : Bool) : R2 := fun x y H Q => (y = .non ∧ Q (.bl (if neg = true then !decide (x = .non) else decide (x = .non))) H) ∨ (∃ a b : Bool, x = .bl a ∧ y = .bl b ∧ Q (.bl (if neg = true then !decide (a = b) else decide (a = b))) H)
def rSlU (K : PySem.W.Frag) : V → Option Int → Option Int → Hp → VK → Prop := fun x lo hi H Q => rSlL K x lo hi H Q ∨ rSlS x lo hi H Q ∨ rSlA K x lo hi H Q
def rLenU (K : PySem.W.Frag) : List V → Hp → VK → Prop := fun xs H Q => (∃ p ys, xs = [.ref p] ∧ (SqL K H p ys ∨ SqT K H p ys) ∧ Q (.int ys.length) H) ∨ (∃ z, xs = [.str z] ∧ z.length ≤ sizeLine ∧ Q (.int z.length) H)
def rIsiU (K : PySem.W.Frag) : List V → Hp → VK → Prop := fun xs H Q => rIsi K xs H Q ∨ rIsiT K xs H Q
def rAbs : List V → Hp → VK → Prop := fun xs H Q => ∃ i, xs = [.int i] ∧ Q (.int (if i < 0 then -i else i)) H
def rMax2 : List V → Hp → VK → Prop := fun xs H Q => ∃ i j, xs = [.int i, .int j] ∧ Q (.int (if j > i then j else i)) H
def rMin2 : List V → Hp → VK → Prop := fun xs H Q => ∃ i j, xs = [.int i, .int j] ∧ Q (.int (if j < i then j else i)) H
def rInt1 : List V → Hp → VK → Prop := fun xs H Q => (∃ i, xs = [.int i] ∧ Q (.int i) H) ∨ ∃ k, xs = [.bl k] ∧ Q (.int (if k then 1 else 0)) H
def rStrI : List V → Hp → VK → Prop := fun xs H Q => ∃ i, xs = [.int i] ∧ i.natAbs.log2 < 1920 ∧ Q (.str (toString i)) H
def rListOf (K : PySem.W.Frag) : List V → Hp → VK → Prop := fun xs H Q => ∃ p ys, xs = [.ref p] ∧ (SqL K H p ys ∨ SqT K H p ys) ∧ ∀ l, H l = none → Q (.ref l) (upd H l (.lst ys))
def rTupleOf (K : PySem.W.Frag) : List V → Hp → VK → Prop := fun xs H Q => ∃ p ys, xs = [.ref p] ∧ ((SqL K H p ys ∧ ∀ l, H l = none → Q (.ref l) (upd H l (.tup ys))) ∨ (SqT K H p ys ∧ Q (.ref p) H))
def rJoin (K : PySem.W.Frag) : V → List V → Hp → VK → Prop := fun x xs H Q => ∃ a p, ∃ ys : List Str, x = .str a ∧ xs = [.ref p] ∧ (SqL K H p (ys.map V.str) ∨ SqT K H p (ys.map V.str)) ∧ (ys.map (·.length)).sum + ys.length * a.length ≤ 16777216 ∧ Q (.str (Txt.join a ys)) H

section
variable {X : Cx} (K : PySem.W.Frag)
theorem op_addK (hK : X.K = K := by rfl) : OpR X (binaryOp .Add) (rAddU K) := by subst hK; exact OpR.or op_add (OpR.or op_add_str (OpR.or op_cat op_catA))
theorem op_subU {X : Cx} : OpR X (binaryOp .Sub) rSubU := op_sub
theorem op_mulU {X : Cx} : OpR X (binaryOp .Mult) rMulU := OpR.or op_mul op_rep
theorem op_divU {X : Cx} : OpR X (binaryOp .FloorDiv) rDivU := op_fdiv
theorem op_modU {X : Cx} : OpR X (binaryOp .Mod) rModU := op_mod
theorem op_powU {X : Cx} : OpR X (binaryOp .Pow) rPowU := op_pow
theorem op_eqK (hu : X.A.units + 64 < cLine) (hK : X.K = K := by rfl) : OpR X (compareOp .Eq) (rEqU K) := by subst hK; exact OpR.or op_eq (op_eqD hu)
theorem op_neK (hu : X.A.units + 64 < cLine) (hK : X.K = K := by rfl) : OpR X (compareOp .NotEq) (rNeU K) := by subst hK; exact OpR.or op_ne (op_neD hu)
theorem op_ltU {X : Cx} : OpR X (compareOp .Lt) rLtU := OpR.or op_lt op_lt_str
theorem op_leU {X : Cx} : OpR X (compareOp .LtE) rLeU := OpR.or op_le op_le_str
theorem op_gtU {X : Cx} : OpR X (compareOp .Gt) rGtU := OpR.or op_gt op_gt_str
theorem op_geU {X : Cx} : OpR X (compareOp .GtE) rGeU := OpR.or op_ge op_ge_str
theorem op_inK (hK : X.K = K := by rfl) : OpR X (compareOp .In) (rInU K false) := by
  subst hK
  intro pins s σ H x y v u Q I rx ry h
  rcases h with ⟨c, z, e1, e2, q⟩ | h
  · exact op_in_sign pins s σ H x y v u Q I rx ry ⟨c, z, e1, e2, by simpa using q⟩
  · exact op_in_seq pins s σ H x y v u Q I rx ry h
theorem op_notInK (hK : X.K = K := by rfl) : OpR X (compareOp .NotIn) (rInU K true) := by
  subst hK
  intro pins s σ H x y v u Q I rx ry h
  rcases h with ⟨c, z, e1, e2, q⟩ | h
  · exact op_notIn_sign pins s σ H x y v u Q I rx ry ⟨c, z, e1, e2, by simpa using q⟩
  · exact op_notIn_seq pins s σ H x y v u Q I rx ry h
theorem op_isU {X : Cx} : OpR X (compareOp .Is) (rIsU false) := by
  intro pins s σ H x y v u Q I rx ry h
  rcases h with ⟨e1, q⟩ | ⟨a, b, e1, e2, q⟩
  · exact op_isN pins s σ H x y v u Q I rx ry ⟨e1, by simpa using q⟩
  · exact op_isBl pins s σ H x y v u Q I rx ry ⟨a, b, e1, e2, by simpa using q⟩
theorem op_isNotU {X : Cx} : OpR X (compareOp .IsNot) (rIsU true) := by
  intro pins s σ H x y v u Q I rx ry h
  rcases h with ⟨e1, q⟩ | ⟨a, b, e1, e2, q⟩
  · exact op_notN pins s σ H x y v u Q I rx ry ⟨e1, by simpa using q⟩
  · exact op_notBl pins s σ H x y v u Q I rx ry ⟨a, b, e1, e2, by simpa using q⟩
theorem sl_K (hK : X.K = K := by rfl) : SlR X (rSlU K) := by subst hK; exact SlR.or sl_list (SlR.or sl_str sl_tupA)
theorem ix_K (hK : X.K = K := by rfl) : IxR X (rIx K) := by subst hK; exact ix_seq
theorem call_lenK (hK : X.K = K := by rfl) : CallR X (.builtin "len") (rLenU K) := by subst hK; exact CallR.or call_len_seq call_len_str
theorem call_isiK' (hK : X.K = K := by rfl) : CallR X (.builtin "isinstance") (rIsiU K) := by subst hK; exact CallR.or call_isi call_isiT
theorem call_absU {X : Cx} : CallR X (.builtin "abs") rAbs := call_abs
theorem call_max2U {X : Cx} (hc : X.calm = true) : CallR X (.builtin "max") rMax2 := call_max2 hc
theorem call_min2U {X : Cx} (hc : X.calm = true) : CallR X (.builtin "min") rMin2 := call_min2 hc
theorem call_intU {X : Cx} : CallR X (.type "int") rInt1 := call_int1
theorem call_strI {X : Cx} : CallR X (.type "str") rStrI := call_str_int
theorem call_sumK (hc : X.calm = true) (hK : X.K = K := by rfl) : CallR X (.builtin "sum") (rSum K) := by subst hK; exact cr_sum hc
theorem call_listK (hK : X.K = K := by rfl) : CallR X (.type "list") (rListOf K) := by subst hK; exact call_list_of
theorem call_tupleK (hK : X.K = K := by rfl) : CallR X (.type "tuple") (rTupleOf K) := by subst hK; exact call_tuple_of
theorem mt_joinK (hK : X.K = K := by rfl) : MtR X "str.join" (rJoin K) := by subst hK; exact mt_join
theorem pi_listK {tg l : Expr} {tl : TE} (hl : PE X l tl) (hK : X.K = K := by rfl) : PI X tg l (iList K tl) := by subst hK; exact pi_list hl
theorem pi_tupK {tg l : Expr} {tl : TE} (hl : PE X l tl) (hK : X.K = K := by rfl) : PI X tg l (iTup K tl) := by subst hK; exact pi_tup hl
/-- truth of any value -/
def tTru (K : PySem.W.Frag) (ta : TE) : TT := fun σ H Q => ta σ H fun x H' => ∃ k, TruV K x H' k ∧ Q k H'
theorem pt_truK {a : Expr} {ta : TE} (ha : PE X a ta) (he : ∀ whole, isTrue a X.env whole = (do let v ← whole; standAt a.pos; holding [v] (truthy v))) (hK : X.K = K := by rfl) : PT X a (tTru K ta) := by subst hK; exact pt_truth ha he
end
/-- a row of three comparisons -/
def tChain3 (r r' r'' : R2) (ta tb tc td : TE) : TT := fun σ H Q => ta σ H fun x H1 => tb σ H1 fun y H2 => r x y H2 fun z H3 => ∃ k, z = .bl k ∧ (if k = true then
  (tc σ H3 fun y2 H4 => r' y y2 H4 fun z2 H5 => ∃ k2, z2 = .bl k2 ∧ (if k2 = true then (td σ H5 fun y3 H6 => r'' y2 y3 H6 fun z3 H7 => ∃ k3, z3 = .bl k3 ∧ Q k3 H7) else Q false H5)) else Q false H3)
theorem pt_chain3 {X : Cx} {a b c d : Expr} {pos : Pos} {ta tb tc td : TE} {op op' op'' : CmpOp} {r r' r'' : R2} (ho : OpR X (compareOp op) r) (ho' : OpR X (compareOp op') r') (ho'' : OpR X (compareOp op'') r'') (ha : PE X a ta) (hb : PE X b tb) (hc : PE X c tc) (hd : PE X d td)
    (hm : lastMarks [op, op', op''] [b, c, d] = false := by with_unfolding_all rfl) : PT X (.Compare a [op, op', op''] [b, c, d] pos) (tChain3 r r' r'' ta tb tc td) := by
  refine ⟨fun pins s σ H Q I h => ?_⟩
  refine PyProof.Rows.isTrue_chain (thn (ha.run pins s σ H _ I h) fun v s1 ⟨x, H1, I1, r1, q1⟩ => PyProof.Rows.test_link (thn (hb.run pins s1 σ H1 _ I1 q1) fun u s2 ⟨y, H2, I2, r2, q2⟩ =>
    thn (ho pins s2 σ H2 x y v u _ I2 r1 r2 q2) fun e s3 ⟨z, H3, I3, r3, k, ek, q3⟩ => ?_)) hm
  subst ek
  cases r3
  refine wpAny_truthy_bool ?_
  cases k with
  | false => exact PyProof.Rows.ite_ff ⟨H3, I3, q3⟩
  | true =>
    refine PyProof.Rows.ite_tt (PyProof.Rows.test_link (thn (hc.run pins s3 σ H3 _ I3 q3) fun w' s4 ⟨y2, H4, I4, r4, q4⟩ => thn (ho' pins s4 σ H4 y y2 u w' _ I4 r2 r4 q4) fun e2 s5 ⟨z2, H5, I5, r5, k2, ek2, q5⟩ => ?_))
    subst ek2
    cases r5
    refine wpAny_truthy_bool ?_
    cases k2 with
    | false => exact PyProof.Rows.ite_ff ⟨H5, I5, q5⟩
    | true =>
      refine PyProof.Rows.ite_tt (PyProof.Rows.test_last (thn (hd.run pins s5 σ H5 _ I5 q5) fun w3 s6 ⟨y3, H6, I6, r6, q6⟩ => thn (ho'' pins s6 σ H6 y2 y3 w' w3 _ I6 r4 r6 q6) fun e3 s7 ⟨z3, H7, I7, r7, k3, ek3, q7⟩ => ?_))
      subst ek3
      cases r7
      exact wpAny_truthy_bool ⟨H7, I7, q7⟩
theorem rChain3 {r r' r'' : R2} {ta tb tc td : TE} {σ : L2.St} {H : Hp} {Q : Bool → Hp → Prop} (h : ta σ H fun x H1 => tb σ H1 fun y H2 => r x y H2 fun z H3 => ∃ k, z = .bl k ∧ (if k = true then
  (tc σ H3 fun y2 H4 => r' y y2 H4 fun z2 H5 => ∃ k2, z2 = .bl k2 ∧ (if k2 = true then (td σ H5 fun y3 H6 => r'' y2 y3 H6 fun z3 H7 => ∃ k3, z3 = .bl k3 ∧ Q k3 H7) else Q false H5)) else Q false H3)) : tChain3 r r' r'' ta tb tc td σ H Q := h
section
theorem sz_le {n : Nat} (h : n ≤ 16777216) : n ≤ sizeLine := by rw [sizeLine_eq]; exact h
theorem sz_lt {n : Nat} (h : n < 16777216) : n < sizeLine := by rw [sizeLine_eq]; exact h
end

/-! ## places -/
theorem at0 {α : Type} {x : α} {xs : List α} : atI (x :: xs) 0 = some x := by
  have := atI_nat (xs := x :: xs) (j := 0) (v := x) rfl
  exact this
theorem at1 {α : Type} {x y : α} {xs : List α} : atI (x :: y :: xs) 1 = some y := by
  have := atI_nat (xs := x :: y :: xs) (j := 1) (v := y) rfl
  exact this
theorem at2 {α : Type} {x y z : α} {xs : List α} : atI (x :: y :: z :: xs) 2 = some z := by
  have := atI_nat (xs := x :: y :: z :: xs) (j := 2) (v := z) rfl
  exact this
theorem ixN0 {α : Type} {x : α} {xs : List α} : ixN (x :: xs).length 0 = some 0 := by
  unfold ixN
  rw [if_pos (by decide), if_pos (by rw [List.length_cons]; omega)]
  rfl
theorem at_of {α : Type} {xs : List α} {z : Int} {j : Nat} {v : α} (e : z = (j : Int)) (h : xs[j]? = some v) : atI xs z = some v := by
  rw [e]; exact atI_nat h
/-- an item at a place in bounds -/
theorem at_in {α : Type} {xs : List α} {z : Int} (h0 : 0 ≤ z) (h1 : z < xs.length) : ∃ v, atI xs z = some v ∧ xs[z.toNat]? = some v ∧ v ∈ xs := by
  have hl : z.toNat < xs.length := by omega
  refine ⟨xs[z.toNat], at_of (j := z.toNat) (by omega) (List.getElem?_eq_getElem hl), List.getElem?_eq_getElem hl, List.getElem_mem hl⟩

/-! ## their readings, kind by kind -/
section
variable {K : PySem.W.Frag} {H : Hp} {Q : VK} {i j : Int} {a b : Str} {p q : Addr} {xs ys : List V} {x y v : V}
theorem add_int (h : Q (.int (i + j)) H) : rAddU K (.int i) (.int j) H Q := .inl ⟨i, j, rfl, rfl, h⟩
theorem add_str (hl : a.length + b.length ≤ sizeLine) (h : Q (.str (a ++ b)) H) : rAddU K (.str a) (.str b) H Q := .inr (.inl ⟨a, b, rfl, rfl, hl, h⟩)
theorem add_lst (h1 : H p = some (.lst xs)) (h2 : H q = some (.lst ys)) (hl : xs.length + ys.length ≤ sizeLine) (h : newO (.lst (xs ++ ys)) H Q) : rAddU K (.ref p) (.ref q) H Q := .inr (.inr (.inl ⟨p, q, xs, ys, rfl, rfl, h1, h2, hl, h⟩))
theorem add_tup (h1 : H p = some (.tup xs)) (h2 : H q = some (.tup ys)) (n1 : xs ≠ []) (n2 : ys ≠ []) (hl : xs.length + ys.length ≤ sizeLine) (h : newO (.tup (xs ++ ys)) H Q) : rAddU K (.ref p) (.ref q) H Q :=
  .inr (.inr (.inr ⟨p, q, xs, ys, rfl, rfl, SqT.of h1, SqT.of h2, hl, fun e => absurd e n1, fun _ e => absurd e n2, fun _ _ => h⟩))
theorem sub_int (h : Q (.int (i - j)) H) : rSubU (.int i) (.int j) H Q := ⟨i, j, rfl, rfl, h⟩
theorem mul_int (hc : CMul i j) (h : Q (.int (i * j)) H) : rMulU (.int i) (.int j) H Q := .inl ⟨i, j, rfl, rfl, hc, h⟩
theorem mul_intR (hc : -(2 ^ 64) < j ∧ j < 2 ^ 64) (h : Q (.int (i * j)) H) : rMulU (.int i) (.int j) H Q := .inl ⟨i, j, rfl, rfl, .inr hc, h⟩
theorem mul_intL (hc : -(2 ^ 64) < i ∧ i < 2 ^ 64) (h : Q (.int (i * j)) H) : rMulU (.int i) (.int j) H Q := .inl ⟨i, j, rfl, rfl, .inl hc, h⟩
theorem div_int (hc : 0 < j ∧ j < 1073741824) (h : Q (.int (i / j)) H) : rDivU (.int i) (.int j) H Q := ⟨i, j, rfl, rfl, hc, h⟩
theorem mod_int (hc : 0 < j) (h : Q (.int (i % j)) H) : rModU (.int i) (.int j) H Q := ⟨i, j, rfl, rfl, hc, h⟩
theorem neg_int (h : Q (.int (-i)) H) : rU (fun i => .int (-i)) (.int i) H Q := ⟨i, rfl, h⟩
theorem pow_int (hc : 0 ≤ j ∧ j ≤ 1000000 ∧ i.natAbs < 2 ^ 64) (h : Q (.int (i ^ j.toNat)) H) : rPowU (.int i) (.int j) H Q := ⟨i, j, rfl, rfl, hc, h⟩
theorem dec_int : decide (V.int i = V.int j) = decide (i = j) := by
  by_cases h : i = j
  · subst h; simp
  · rw [decide_eq_false h, decide_eq_false (fun e => h (V.int.inj e))]
theorem dec_str : decide (V.str a = V.str b) = decide (a = b) := by
  by_cases h : a = b
  · subst h; simp
  · rw [decide_eq_false h, decide_eq_false (fun e => h (V.str.inj e))]
theorem dec_bl {a b : Bool} : decide (V.bl a = V.bl b) = decide (a = b) := by
  by_cases h : a = b
  · subst h; simp
  · rw [decide_eq_false h, decide_eq_false (fun e => h (V.bl.inj e))]
theorem eq_int (h : Q (.bl (decide (i = j))) H) : rEqU K (.int i) (.int j) H Q := .inl ⟨rfl, by rw [dec_int]; exact h⟩
theorem eq_str (h : Q (.bl (decide (a = b))) H) : rEqU K (.str a) (.str b) H Q := .inl ⟨rfl, by rw [dec_str]; exact h⟩
theorem eq_bl {a b : Bool} (h : Q (.bl (decide (a = b))) H) : rEqU K (.bl a) (.bl b) H Q := .inl ⟨rfl, by rw [dec_bl]; exact h⟩
theorem eq_scal (hs : scal x y = true) (h : Q (.bl (decide (x = y))) H) : rEqU K x y H Q := .inl ⟨hs, h⟩
theorem eq_deep {d e : PyData} (h1 : Dp K H x d) (h2 : Dp K H y e) (s1 : SeqAt.shaped d = true) (s2 : SeqAt.shaped e = true) (h : Q (.bl (PyData.eqv d e)) H) : rEqU K x y H Q := .inr ⟨d, e, h1, h2, s1, s2, h⟩
theorem ne_int (h : Q (.bl (!decide (i = j))) H) : rNeU K (.int i) (.int j) H Q := .inl ⟨rfl, by rw [dec_int]; exact h⟩
theorem ne_str (h : Q (.bl (!decide (a = b))) H) : rNeU K (.str a) (.str b) H Q := .inl ⟨rfl, by rw [dec_str]; exact h⟩
theorem ne_bl {a b : Bool} (h : Q (.bl (!decide (a = b))) H) : rNeU K (.bl a) (.bl b) H Q := .inl ⟨rfl, by rw [dec_bl]; exact h⟩
theorem ne_scal (hs : scal x y = true) (h : Q (.bl (!decide (x = y))) H) : rNeU K x y H Q := .inl ⟨hs, h⟩
theorem ne_deep {d e : PyData} (h1 : Dp K H x d) (h2 : Dp K H y e) (s1 : SeqAt.shaped d = true) (s2 : SeqAt.shaped e = true) (h : Q (.bl (!PyData.eqv d e)) H) : rNeU K x y H Q := .inr ⟨d, e, h1, h2, s1, s2, h⟩
theorem lt_int (h : Q (.bl (decide (i < j))) H) : rLtU (.int i) (.int j) H Q := .inl ⟨i, j, rfl, rfl, h⟩
theorem le_int (h : Q (.bl (decide (i ≤ j))) H) : rLeU (.int i) (.int j) H Q := .inl ⟨i, j, rfl, rfl, h⟩
theorem gt_int (h : Q (.bl (decide (j < i))) H) : rGtU (.int i) (.int j) H Q := .inl ⟨i, j, rfl, rfl, h⟩
theorem ge_int (h : Q (.bl (decide (j ≤ i))) H) : rGeU (.int i) (.int j) H Q := .inl ⟨i, j, rfl, rfl, h⟩
theorem lt_str (h : Q (.bl (decide (a.cps.toList < b.cps.toList))) H) : rLtU (.str a) (.str b) H Q := .inr ⟨a, b, rfl, rfl, h⟩
theorem is_non (h : Q (.bl (decide (x = .non))) H) : rIsU false x .non H Q := .inl ⟨rfl, h⟩
theorem isnt_non (h : Q (.bl (!decide (x = .non))) H) : rIsU true x .non H Q := .inl ⟨rfl, h⟩
theorem is_bl {a b : Bool} (h : Q (.bl (decide (a = b))) H) : rIsU false (.bl a) (.bl b) H Q := .inr ⟨a, b, rfl, rfl, h⟩
theorem isnt_bl {a b : Bool} (h : Q (.bl (!decide (a = b))) H) : rIsU true (.bl a) (.bl b) H Q := .inr ⟨a, b, rfl, rfl, h⟩
theorem in_seq {neg : Bool} (h1 : SqV K H p xs) (hx : flatV x = true) (ha : xs.all flatV = true) (h : Q (.bl (if neg then !inV x xs else inV x xs)) H) : rInU K neg x (.ref p) H Q := .inr ⟨p, xs, rfl, h1, hx, ha, h⟩
theorem in_sign {c : Nat} (h : Q (.bl (decide (c ∈ a.cps.toList))) H) : rInU K false (.str ⟨#[c]⟩) (.str a) H Q := .inl ⟨c, a, rfl, rfl, h⟩
/-- an item -/
theorem ix_lst (h1 : H p = some (.lst xs)) (h2 : atI xs i = some v) (h : Q v H) : rIx K (.ref p) (.int i) H Q := .inl ⟨p, xs, i, v, rfl, rfl, SqL.of h1, h2, h⟩
theorem ix_sql (h1 : SqL K H p xs) (h2 : atI xs i = some v) (h : Q v H) : rIx K (.ref p) (.int i) H Q := .inl ⟨p, xs, i, v, rfl, rfl, h1, h2, h⟩
theorem ix_tpl (h1 : H p = some (.tup xs)) (h2 : atI xs i = some v) (h : Q v H) : rIx K (.ref p) (.int i) H Q := .inr (.inl ⟨p, xs, i, v, rfl, rfl, SqT.of h1, h2, h⟩)
theorem ix_str {c : Nat} (hl : a.length ≤ sizeLine) (h2 : atI a.cps.toList i = some c) (h : Q (.str ⟨#[c]⟩) H) : rIx K (.str a) (.int i) H Q := .inr (.inr ⟨a, i, c, rfl, rfl, hl, h2, h⟩)
variable {lo hi : Option Int}
theorem sl_lst (h1 : H p = some (.lst xs)) (h : newO (.lst (cutV xs lo hi)) H Q) : rSlU K (.ref p) lo hi H Q := .inl ⟨p, xs, rfl, SqL.of h1, h⟩
theorem sl_strU (hl : a.length ≤ sizeLine) (h : Q (.str (cutS a lo hi)) H) : rSlU K (.str a) lo hi H Q := .inr (.inl ⟨a, rfl, hl, h⟩)
theorem len_lst (h1 : H p = some (.lst xs)) (h : Q (.int xs.length) H) : rLenU K [.ref p] H Q := .inl ⟨p, xs, rfl, .inl (SqL.of h1), h⟩
theorem len_sql (h1 : SqL K H p xs) (h : Q (.int xs.length) H) : rLenU K [.ref p] H Q := .inl ⟨p, xs, rfl, .inl h1, h⟩
theorem len_tup (h1 : H p = some (.tup xs)) (h : Q (.int xs.length) H) : rLenU K [.ref p] H Q := .inl ⟨p, xs, rfl, .inr (SqT.of h1), h⟩
theorem len_str (hl : a.length ≤ sizeLine) (h : Q (.int a.length) H) : rLenU K [.str a] H Q := .inr ⟨a, rfl, hl, h⟩
theorem abs_int (h : Q (.int (if i < 0 then -i else i)) H) : rAbs [.int i] H Q := ⟨i, rfl, h⟩
theorem max_int (h : Q (.int (if j > i then j else i)) H) : rMax2 [.int i, .int j] H Q := ⟨i, j, rfl, h⟩
theorem min_int (h : Q (.int (if j < i then j else i)) H) : rMin2 [.int i, .int j] H Q := ⟨i, j, rfl, h⟩
theorem int_int (h : Q (.int i) H) : rInt1 [.int i] H Q := .inl ⟨i, rfl, h⟩
theorem list_lst (h1 : H p = some (.lst xs)) (h : newO (.lst xs) H Q) : rListOf K [.ref p] H Q := ⟨p, xs, rfl, .inl (SqL.of h1), h⟩
theorem list_tup (h1 : H p = some (.tup xs)) (h : newO (.lst xs) H Q) : rListOf K [.ref p] H Q := ⟨p, xs, rfl, .inr (SqT.of h1), h⟩
theorem tuple_lst (h1 : H p = some (.lst xs)) (h : newO (.tup xs) H Q) : rTupleOf K [.ref p] H Q := ⟨p, xs, rfl, .inl ⟨SqL.of h1, h⟩⟩
theorem tuple_tup (h1 : H p = some (.tup xs)) (h : Q (.ref p) H) : rTupleOf K [.ref p] H Q := ⟨p, xs, rfl, .inr ⟨SqT.of h1, h⟩⟩
theorem sum_lst {ns : List Int} (h1 : H p = some (.lst (ns.map V.int))) (h : Q (.int ns.sum) H) : rSum K [.ref p] H Q := ⟨p, ns, rfl, SqL.of h1, h⟩
theorem join_lst {zs : List Str} (h1 : H p = some (.lst (zs.map V.str))) (hl : (zs.map (·.length)).sum + zs.length * a.length ≤ 16777216) (h : Q (.str (Txt.join a zs)) H) : rJoin K (.str a) [.ref p] H Q := ⟨a, p, zs, rfl, rfl, .inl (SqL.of h1), hl, h⟩
/-! methods of a list -/
theorem tyL {P : Prop} (h1 : H p = some (.lst xs)) (h : P) : tyV K "list" (.ref p) H ∧ P := ⟨.inl ⟨rfl, _, SqL.of h1⟩, h⟩
theorem append_lst (h1 : H p = some (.lst xs)) (hl : xs.length < sizeLine) (h : putO p (xs ++ [x]) H (Q .non)) : rAppend (.ref p) [x] H Q := ⟨p, xs, x, rfl, rfl, h1, hl, h⟩
theorem pop_lst (h1 : H p = some (.lst xs)) (h2 : xs[xs.length - 1]? = some v) (h : putO p xs.dropLast H (Q v)) : rPop (.ref p) [] H Q := ⟨p, xs, v, rfl, rfl, h1, h2, h⟩
theorem clear_lst (h1 : H p = some (.lst xs)) (h : putO p [] H (Q .non)) : rClear (.ref p) [] H Q := ⟨p, xs, rfl, rfl, h1, h⟩
theorem set_lst {k : Nat} {R : Hp → Prop} (h1 : H p = some (.lst xs)) (h2 : ixN xs.length i = some k) (h : putO p (xs.set k v) H R) : rSetL (.ref p) (.int i) v H R := ⟨p, xs, i, k, rfl, rfl, h1, h2, h⟩
/-! isinstance -/
theorem isi_ty {n m : String} {b : Bool} (ty : TyX K H x (.type n)) (e : kitB n m = some b) (h : Q (.bl b) H) : rIsiU K [x, .ty m] H Q := .inl ⟨x, .ty m, _, _, b, rfl, .ty m, ty, kit_ty e, h⟩
theorem kb_ii : kitB "int" "int" = some true := by decide +kernel
theorem kb_ib : kitB "int" "bool" = some false := by decide +kernel
theorem kb_bi : kitB "bool" "int" = some true := by decide +kernel
theorem kb_bb : kitB "bool" "bool" = some true := by decide +kernel
theorem kb_ss : kitB "str" "str" = some true := by decide +kernel
theorem kb_tt : kitB "tuple" "tuple" = some true := by decide +kernel
theorem kb_ll : kitB "list" "list" = some true := by decide +kernel
theorem isi_ii (h : Q (.bl true) H) : rIsiU K [.int i, .ty "int"] H Q := isi_ty (.base (.int i)) kb_ii h
theorem isi_ib (h : Q (.bl false) H) : rIsiU K [.int i, .ty "bool"] H Q := isi_ty (.base (.int i)) kb_ib h
theorem isi_bb {c : Bool} (h : Q (.bl true) H) : rIsiU K [.bl c, .ty "bool"] H Q := isi_ty (.base (.bl c)) kb_bb h
theorem isi_bi {c : Bool} (h : Q (.bl true) H) : rIsiU K [.bl c, .ty "int"] H Q := isi_ty (.base (.bl c)) kb_bi h
theorem isi_ss (h : Q (.bl true) H) : rIsiU K [.str a, .ty "str"] H Q := isi_ty (.base (.str a)) kb_ss h
theorem isi_tt (h1 : H p = some (.tup xs)) (h : Q (.bl true) H) : rIsiU K [.ref p, .ty "tuple"] H Q := isi_ty (.base (.tup h1)) kb_tt h
theorem isi_ll (h1 : H p = some (.lst xs)) (h : Q (.bl true) H) : rIsiU K [.ref p, .ty "list"] H Q := isi_ty (.base (.lst h1)) kb_ll h
/-! truth -/
variable {QT : Bool → Hp → Prop}
theorem rTru {σ : L2.St} {ta : TE} (h : ta σ H fun x H' => ∃ k, TruV K x H' k ∧ QT k H') : tTru K ta σ H QT := h
theorem tru_bl {c : Bool} {R : Bool → Prop} (h : R c) : ∃ k, TruV K (.bl c) H k ∧ R k := ⟨c, rfl, h⟩
theorem tru_int {R : Bool → Prop} (h : R (i != 0)) : ∃ k, TruV K (.int i) H k ∧ R k := ⟨_, rfl, h⟩
theorem tru_str {R : Bool → Prop} (hl : a.length ≤ sizeLine) (h : R ((a.length : Int) != 0)) : ∃ k, TruV K (.str a) H k ∧ R k := ⟨_, ⟨hl, rfl⟩, h⟩
theorem tru_lst {R : Bool → Prop} (h1 : H p = some (.lst xs)) (h : R (!xs.isEmpty)) : ∃ k, TruV K (.ref p) H k ∧ R k := ⟨_, .inl ⟨xs, SqL.of h1, rfl⟩, h⟩
theorem tru_tup {R : Bool → Prop} (h1 : H p = some (.tup xs)) (h : R (!xs.isEmpty)) : ∃ k, TruV K (.ref p) H k ∧ R k := ⟨_, .inr (.inl ⟨xs, SqT.of h1, rfl⟩), h⟩
end
end Z
namespace Z
open PySem PySem.Spec L2
local macro_rules | `(tactic| walk_at "ne") => `(tactic| first
  | with_reducible assumption
  | with_reducible exact Ne.symm (by assumption)
  | exact Frs.ne (by with_reducible assumption) (by walk_at "hp")
  | exact Frs.ne' (by with_reducible assumption) (by walk_at "hp"))
local macro_rules | `(tactic| walk_at "hp") => `(tactic| first
  | with_reducible assumption
  | (with_reducible refine Same.at (by assumption) ?_; walk_at "hp")
  | (with_reducible refine SL.tup (by assumption) ?_; walk_at "hp")
  | (with_reducible refine SL.at (by assumption) (by walk_at "ne") ?_; walk_at "hp"))
local macro_rules | `(tactic| walk_at "sz") => `(tactic| first
  | with_reducible assumption
  | exact Nat.le_of_ble_eq_true rfl
  | (refine sz_le ?_; omega)
  | (refine sz_lt ?_; omega)
  | decide +kernel)
local macro_rules | `(tactic| walk_at "at") => `(tactic| first
  | with_reducible assumption
  | with_reducible exact at0
  | with_reducible exact at1
  | with_reducible exact at2
  | with_reducible exact ixN0)
local macro_rules | `(tactic| walk_at "nn") => `(tactic| first
  | omega
  | decide
  | exact ⟨by decide, by decide⟩
  | exact ⟨by omega, by omega⟩
  | exact ⟨by omega, by omega, by omega, by omega⟩)
local macro_rules | `(tactic| walk_at "rdv") => `(tactic| first
  | (with_reducible refine add_int ?_)
  | (with_reducible refine sub_int ?_)
  | (with_reducible refine neg_int ?_)
  | ((with_reducible refine ix_tpl (xs := ?xs) (v := ?v) ?h1 ?h2 ?_); (case h1 => walk_at "hp"); (case h2 => walk_at "at"))
  | ((with_reducible refine ix_lst (xs := ?xs) (v := ?v) ?h1 ?h2 ?_); (case h1 => walk_at "hp"); (case h2 => walk_at "at"))
  | (with_reducible refine eq_int ?_)
  | (with_reducible refine ne_int ?_)
  | (with_reducible refine lt_int ?_)
  | (with_reducible refine le_int ?_)
  | (with_reducible refine gt_int ?_)
  | (with_reducible refine ge_int ?_)
  | (with_reducible refine eq_str ?_)
  | (with_reducible refine ne_str ?_)
  | (with_reducible refine eq_bl ?_)
  | (with_reducible refine ne_bl ?_)
  | ((with_reducible refine mod_int ?hc ?_); (case hc => walk_at "nn"))
  | ((with_reducible refine div_int ?hc ?_); (case hc => walk_at "nn"))
  | ((with_reducible refine mul_intR ?hc ?_); (case hc => exact ⟨by decide, by decide⟩))
  | ((with_reducible refine mul_intR ?hc ?_); (case hc => exact ⟨by omega, by omega⟩))
  | ((with_reducible refine mul_intL ?hc ?_); (case hc => exact ⟨by omega, by omega⟩))
  | ((with_reducible refine pow_int ?hc ?_); (case hc => exact ⟨by decide, by decide, by decide⟩))
  | ((with_reducible refine add_str ?hc ?_); (case hc => walk_at "sz"))
  | ((with_reducible refine add_lst (xs := ?xs) (ys := ?ys) ?h1 ?h2 ?hc ?_); (case h1 => walk_at "hp"); (case h2 => walk_at "hp"); (case hc => walk_at "sz"))
  | ((with_reducible refine sl_strU ?hc ?_); (case hc => walk_at "sz"))
  | ((with_reducible refine sl_lst (xs := ?xs) ?h1 ?_); (case h1 => walk_at "hp"))
  | (with_reducible refine is_bl ?_)
  | (with_reducible refine isnt_bl ?_)
  | (with_reducible refine is_non ?_)
  | (with_reducible refine isnt_non ?_))
local macro_rules | `(tactic| walk_at "rdc") => `(tactic| first
  | ((with_reducible refine len_lst (xs := ?xs) ?h1 ?_); (case h1 => walk_at "hp"))
  | ((with_reducible refine len_tup (xs := ?xs) ?h1 ?_); (case h1 => walk_at "hp"))
  | ((with_reducible refine len_str ?hc ?_); (case hc => walk_at "sz"))
  | (with_reducible refine int_int ?_)
  | (with_reducible refine max_int ?_)
  | (with_reducible refine min_int ?_)
  | (with_reducible refine abs_int ?_)
  | (with_reducible refine isi_ii ?_)
  | (with_reducible refine isi_ib ?_)
  | (with_reducible refine isi_ss ?_)
  | (with_reducible refine isi_bb ?_)
  | ((with_reducible refine isi_tt (xs := ?xs) ?h1 ?_); (case h1 => walk_at "hp"))
  | ((with_reducible refine isi_ll (xs := ?xs) ?h1 ?_); (case h1 => walk_at "hp"))
  | ((with_reducible refine list_lst (xs := ?xs) ?h1 ?_); (case h1 => walk_at "hp"))
  | ((with_reducible refine list_tup (xs := ?xs) ?h1 ?_); (case h1 => walk_at "hp"))
  | ((with_reducible refine tuple_lst (xs := ?xs) ?h1 ?_); (case h1 => walk_at "hp"))
  | ((with_reducible refine tuple_tup (xs := ?xs) ?h1 ?_); (case h1 => walk_at "hp"))
  | ((with_reducible refine append_lst (xs := ?xs) ?h1 ?hc ?_); (case h1 => walk_at "hp"); (case hc => walk_at "sz"))
  | ((with_reducible refine clear_lst (xs := ?xs) ?h1 ?_); (case h1 => walk_at "hp"))
  | ((with_reducible refine set_lst (xs := ?xs) (k := ?k) ?h1 ?h2 ?_); (case h1 => walk_at "hp"); (case h2 => walk_at "at")))
local macro_rules | `(tactic| walk_at "rd1") => `(tactic| first
  | ((with_reducible refine rVar (v := ?v) ?h ?_); (case h => exact rfl))
  | (with_reducible refine rC ?_)
  | (with_reducible refine rCons ?_)
  | (with_reducible refine rNil ?_)
  | (with_reducible refine rOp ?_)
  | (with_reducible refine rSeq ?_)
  | (with_reducible refine rAsgN ?_)
  | (with_reducible refine rAsgT ?_)
  | (with_reducible refine rAsgS ?_)
  | (with_reducible refine rTest ?_)
  | (with_reducible refine rBl ?_)
  | (with_reducible refine rBl' ?_)
  | (with_reducible refine rInt ?_)
  | (with_reducible refine rInt' ?_)
  | (with_reducible refine rCall ?_)
  | (with_reducible refine rCB ?_)
  | (with_reducible refine rRet ?_)
  | (with_reducible refine rDrop ?_)
  | (with_reducible refine rIfS ?_)
  | (with_reducible refine rTup ?_)
  | (with_reducible refine rLst ?_)
  | (with_reducible refine ⟨Nat.le_of_ble_eq_true rfl, ?_⟩)
  | (with_reducible refine rSl ?_)
  | (with_reducible refine rPart ?_)
  | (with_reducible refine rNoPart ?_)
  | (with_reducible refine rBM ?_)
  | (with_reducible refine rBM0 ?_)
  | ((with_reducible refine tyL (xs := ?xs) ?h1 ?_); (case h1 => walk_at "hp"))
  | (with_reducible refine rM1 ?_)
  | (with_reducible refine rM0 ?_)
  | (with_reducible refine rStr ?_)
  | (with_reducible refine rTru ?_)
  | (with_reducible refine tru_bl ?_)
  | (with_reducible refine tru_int ?_)
  | ((with_reducible refine tru_lst (xs := ?xs) ?h1 ?_); (case h1 => walk_at "hp"))
  | ((with_reducible refine tru_tup (xs := ?xs) ?h1 ?_); (case h1 => walk_at "hp"))
  | ((with_reducible refine tru_str ?hc ?_); (case hc => walk_at "sz"))
  | (with_reducible refine rAnd ?_)
  | (with_reducible refine rOr ?_)
  | (with_reducible refine rNot ?_)
  | (with_reducible refine rAndV ?_)
  | (with_reducible refine rOrV ?_)
  | (with_reducible refine rNotV ?_)
  | (with_reducible refine rIfE ?_)
  | (with_reducible refine rChain ?_)
  | (with_reducible refine rChain3 ?_)
  | (with_reducible refine ifT ?_)
  | (with_reducible refine ifF ?_)
  | (with_reducible refine ifNF ?_)
  | (with_reducible refine ifNT ?_)
  | (with_reducible refine rNext ?_)
  | (with_reducible refine rBrk ?_)
  | (with_reducible refine rCnt ?_)
  | (with_reducible refine rRetN ?_)
  | (with_reducible refine rForR1 ?_)
  | (with_reducible refine rForR2 ?_)
  | (with_reducible refine rForL ?_)
  | ((with_reducible refine rRg1 ?hb ?_); (case hb => walk_at "nn"))
  | ((with_reducible refine rRg2 ?hb ?_); (case hb => walk_at "nn"))
  | ((with_reducible refine rRf (xs := ?xs) ?h1 ?_); (case h1 => walk_at "hp"))
  | (with_reducible refine rLcR1 ?_)
  | (with_reducible refine rLcR2 ?_)
  | (with_reducible refine rLcL ?_)
  | (with_reducible refine gN ?_)
  | (with_reducible refine gNl ?_)
  | (with_reducible refine gC ?_)
  | ((with_reducible refine gT (xs := ?xs) ?h1 ?h2 ?_); (case h1 => walk_at "hp"); (case h2 => exact rfl))
  | (with_reducible refine rUn ?_)
  | walk_at "rdv"
  | walk_at "rdc")
local macro_rules | `(tactic| walk_at "rd") => `(tactic| repeat walk_at "rd1")

def top (i : Nat) : Stmt := PySem.Challenge.pw_mendedtree_k32_tree_written.main.body.getD i (.Pass ⟨0, 0, 0, 0⟩)
abbrev s_TreeError___init__ : Stmt := (inClass (top 2) 0)
abbrev s_Node___init__ : Stmt := (inClass (top 4) 0)
abbrev s_Node___iter__ : Stmt := (inClass (top 4) 1)
abbrev s_char_of : Stmt := top 12
abbrev s_name_end : Stmt := top 13
abbrev s_written_char_end : Stmt := top 14
abbrev s_literal_end : Stmt := top 15
abbrev s_word_end : Stmt := top 16
abbrev s_number_end : Stmt := top 17
abbrev s_written_head : Stmt := top 20
abbrev s_write_tree : Stmt := top 21
abbrev s_read_head : Stmt := top 22
abbrev s_built_node : Stmt := top 23
abbrev s_read_tree : Stmt := top 24
abbrev s_law_reel : Stmt := top 26
abbrev s_law_draw : Stmt := top 27
abbrev s_law_pick : Stmt := top 28
abbrev s_law_word : Stmt := top 29
abbrev s_law_quoted : Stmt := top 30
abbrev s_law_literal : Stmt := top 31
abbrev s_law_name : Stmt := top 32
abbrev s_law_sort : Stmt := top 33
abbrev s_law_comb : Stmt := top 34
abbrev s_law_levels : Stmt := top 35
abbrev s_law_count : Stmt := top 36
abbrev s_law_row : Stmt := top 37
abbrev s_law_small_row : Stmt := top 38
abbrev s_law_tree : Stmt := top 39
abbrev s_law_made : Stmt := top 40
abbrev s_law_told : Stmt := top 41
abbrev s_law_text : Stmt := top 42
abbrev s_law : Stmt := top 43
theorem sc_Node___init__ : FnScope ["self", "kind", "symbol", "state", "lead", "width", "look", "alternative", "nodes", "popped"] ["self", "kind", "symbol", "state", "lead", "width", "look", "alternative", "nodes", "popped"] (C8.fnScope s_Node___init__) := C8.fnScope_by (by decide +kernel)
theorem sc_Node___iter__ : FnScope ["self"] ["self"] (C8.fnScope s_Node___iter__) := C8.fnScope_by (by decide +kernel)
theorem sc_char_of : FnScope ["notation", "place", "chars"] ["notation", "place", "chars"] (C8.fnScope s_char_of) := C8.fnScope_by (by decide +kernel)
theorem sc_name_end : FnScope ["notation", "place", "end"] ["notation", "place"] (C8.fnScope s_name_end) := C8.fnScope_by (by decide +kernel)
theorem sc_written_char_end : FnScope ["notation", "place"] ["notation", "place"] (C8.fnScope s_written_char_end) := C8.fnScope_by (by decide +kernel)
theorem sc_literal_end : FnScope ["notation", "place", "end"] ["notation", "place"] (C8.fnScope s_literal_end) := C8.fnScope_by (by decide +kernel)
theorem sc_word_end : FnScope ["notation", "place"] ["notation", "place"] (C8.fnScope s_word_end) := C8.fnScope_by (by decide +kernel)
theorem sc_number_end : FnScope ["notation", "place", "least", "first", "end"] ["notation", "place", "least"] (C8.fnScope s_number_end) := C8.fnScope_by (by decide +kernel)
theorem sc_written_head : FnScope ["node", "numbers", "number"] ["node"] (C8.fnScope s_written_head) := C8.fnScope_by (by decide +kernel)
theorem sc_write_tree : FnScope ["node", "pieces", "todo", "here", "complete", "child"] ["node"] (C8.fnScope s_write_tree) := C8.fnScope_by (by decide +kernel)
theorem sc_read_head : FnScope ["notation", "place", "words", "start", "_", "end", "turn", "least"] ["notation", "place"] (C8.fnScope s_read_head) := C8.fnScope_by (by decide +kernel)
theorem sc_built_node : FnScope ["words", "nodes", "kind", "symbol", "state", "lead", "width", "look", "alternative", "popped"] ["words", "nodes"] (C8.fnScope s_built_node) := C8.fnScope_by (by decide +kernel)
theorem sc_read_tree : FnScope ["notation", "above", "place", "words", "nodes", "made"] ["notation"] (C8.fnScope s_read_tree) := C8.fnScope_by (by decide +kernel)
theorem sc_law_reel : FnScope ["script", "reel", "k", "cell", "rest", "turn", "mixed"] ["script"] (C8.fnScope s_law_reel) := C8.fnScope_by (by decide +kernel)
theorem sc_law_draw : FnScope ["reel", "size", "count", "at"] ["reel", "size"] (C8.fnScope s_law_draw) := C8.fnScope_by (by decide +kernel)
theorem sc_law_pick : FnScope ["reel", "row"] ["reel", "row"] (C8.fnScope s_law_pick) := C8.fnScope_by (by decide +kernel)
theorem sc_law_word : FnScope ["reel", "letters", "least", "most", "k"] ["reel", "letters", "least", "most"] (C8.fnScope s_law_word) := C8.fnScope_by (by decide +kernel)
theorem sc_law_quoted : FnScope ["chars", "text", "char"] ["chars"] (C8.fnScope s_law_quoted) := C8.fnScope_by (by decide +kernel)
theorem sc_law_literal : FnScope ["reel", "plain", "chars", "turn"] ["reel"] (C8.fnScope s_law_literal) := C8.fnScope_by (by decide +kernel)
theorem sc_law_name : FnScope ["reel", "letters"] ["reel"] (C8.fnScope s_law_name) := C8.fnScope_by (by decide +kernel)
theorem sc_law_sort : FnScope ["reel"] ["reel"] (C8.fnScope s_law_sort) := C8.fnScope_by (by decide +kernel)
theorem sc_law_comb : FnScope ["reel", "deep", "right", "levels", "k"] ["reel", "deep"] (C8.fnScope s_law_comb) := C8.fnScope_by (by decide +kernel)
theorem sc_law_levels : FnScope ["reel", "levels", "size", "turn", "drop"] ["reel"] (C8.fnScope s_law_levels) := C8.fnScope_by (by decide +kernel)
theorem sc_law_count : FnScope ["reel", "least", "form"] ["reel", "least"] (C8.fnScope s_law_count) := C8.fnScope_by (by decide +kernel)
theorem sc_law_row : FnScope ["reel", "level", "first", "second", "numbers", "least"] ["reel", "level"] (C8.fnScope s_law_row) := C8.fnScope_by (by decide +kernel)
theorem sc_law_small_row : FnScope ["reel", "level", "first", "second", "numbers", "least"] ["reel", "level"] (C8.fnScope s_law_small_row) := C8.fnScope_by (by decide +kernel)
theorem sc_law_tree : FnScope ["reel", "form", "levels", "level"] ["reel"] (C8.fnScope s_law_tree) := C8.fnScope_by (by decide +kernel)
theorem sc_law_made : FnScope ["rows", "made", "waiting", "k", "row", "below"] ["rows"] (C8.fnScope s_law_made) := C8.fnScope_by (by decide +kernel)
theorem sc_law_told : FnScope ["root", "most", "told", "todo", "turn", "level", "node", "numbers", "number", "k"] ["root", "most"] (C8.fnScope s_law_told) := C8.fnScope_by (by decide +kernel)
theorem sc_law_text : FnScope ["rows", "pieces", "last", "row", "words", "k"] ["rows"] (C8.fnScope s_law_text) := C8.fnScope_by (by decide +kernel)
theorem sc_law : FnScope ["script", "reel", "rows", "others", "first", "second", "text", "near", "pair", "top", "twice", "tree", "due", "written", "back", "beside", "level"] ["script"] (C8.fnScope s_law) := C8.fnScope_by (by decide +kernel)
structure Txt (mg : Str → Option Value) : Prop where
  n_ValueError : mg "ValueError" = none
  n_abs : mg "abs" = none
  n_bool : mg "bool" = none
  n_enumerate : mg "enumerate" = none
  n_int : mg "int" = none
  n_isinstance : mg "isinstance" = none
  n_iter : mg "iter" = none
  n_len : mg "len" = none
  n_max : mg "max" = none
  n_min : mg "min" = none
  n_range : mg "range" = none
  n_reversed : mg "reversed" = none
  n_str : mg "str" = none
  n_sum : mg "sum" = none
  n_tuple : mg "tuple" = none
  c_DIGITS : ∃ t, mg "DIGITS" = some (.str "0123456789" t)
  c_ESCAPED_CHARS : ∃ t, mg "ESCAPED_CHARS" = some (.str "nt\\\"" t)
  c_LETTERS : ∃ t, mg "LETTERS" = some (.str "abcdefghijklmnopqrstuvwxyz" t)
  c_LITERAL_CHARS : ∃ t, mg "LITERAL_CHARS" = some (.str " !#$&'()*+,-./0123456789:;<=>?@ABCDEFGHIJKLMNOPQRSTUVWXYZ[]^_abcdefghijklmnopqrstuvwxyz{|}~" t)
  c_MOST_DIGITS : ∃ t, mg "MOST_DIGITS" = some (.int (9) t)
  c_NAME_CHARS : ∃ t, mg "NAME_CHARS" = some (.str "abcdefghijklmnopqrstuvwxyz0123456789_~" t)
end Z
namespace Z
open PySem PySem.Spec L2

theorem hu64 {k : Nat} {A : Around} (r : Room k A) : A.units + 64 < cLine := by have := r.un; omega
theorem pe_c0 {X : Cx} {k j : Nat} {x : Str} {sp : Sp} {p pos : Pos} (c : C8.Cal X.prog X.w X.K X.mg X.base k x sp []) (hr : Room j X.A) (hk : k ≤ j) (hg : Gl X x) (hdb : (x == ("__debug__" : Str)) = false := by decide) :
    PE X (.Call (.Name x p) [] [] pos) (tCall sp [] C8.E0 tNil) := by
  obtain ⟨f, fd, ps, ds, F, hm, kp, b, d⟩ := c.ex
  exact pe_call0 F (hr.mono hk) hg hm kp b d C8.pass0 hdb
/-! ## loops -/
section
variable {g : TG} {tb : TS} {nx : L2.St → Hp → Prop} {rt : VK} {bk ct : L2.St → Hp → Prop} {σ : L2.St} {H : Hp} {ta : TA} {te tl : TE} {K : PySem.W.Frag} {Q : VK} {tt : TT} {vs : List Nat}
/-- a loop over what J walks -/
def loopJ (J : It) (g : TG) (tb : TS) (nx : L2.St → Hp → Prop) (rt : VK) (σ : L2.St) (H : Hp) : Prop :=
  ∃ W : Nat → Nat → L2.St → Hp → Prop, (∃ m, W 0 m σ H) ∧ ∀ i m σ H, W i m σ H →
    (J.stop i H ∧ nx σ H) ∨ (J.go i H ∧ ∃ N : L2.St → Hp → Prop, (∀ σ' H', N σ' H' → ∃ m', m' < m ∧ W (i + 1) m' σ' H') ∧ ∀ x H', J.yld i H x H' → g x σ H' fun σ2 H2 => tb ⟨N, rt, nx, N⟩ σ2 H2)
abbrev loopR (lo : Int) (n : Nat) := loopJ (Itr lo n)
abbrev loopL (K : PySem.W.Frag) (a : Addr) := loopJ (Itl K a)
theorem rForR1 (h : ta σ H fun as H1 => ∃ j : Int, as = [.int j] ∧ -(2 ^ 62) ≤ j ∧ j < 2 ^ 62 ∧ loopJ (Itr 0 j.toNat) g tb nx rt σ H1) : tFor (iRng1 ta) g tb ⟨nx, rt, bk, ct⟩ σ H := h
theorem rForR2 (h : ta σ H fun as H1 => ∃ i j : Int, as = [.int i, .int j] ∧ (-(2 ^ 62) ≤ i ∧ i < 2 ^ 62 ∧ -(2 ^ 62) ≤ j ∧ j < 2 ^ 62) ∧ loopJ (Itr i (j - i).toNat) g tb nx rt σ H1) : tFor (iRng2 ta) g tb ⟨nx, rt, bk, ct⟩ σ H := h
theorem rForL (h : tl σ H fun x H1 => ∃ a, x = .ref a ∧ (∃ xs, SqL K H1 a xs) ∧ loopJ (Itl K a) g tb nx rt σ H1) : tFor (iList K tl) g tb ⟨nx, rt, bk, ct⟩ σ H := h
theorem rRg1 {n : Int} {R : Int → Prop} (b : -(2 ^ 62) ≤ n ∧ n < 2 ^ 62) (h : R n) : ∃ j : Int, [V.int n] = [V.int j] ∧ -(2 ^ 62) ≤ j ∧ j < 2 ^ 62 ∧ R j := ⟨n, rfl, b.1, b.2, h⟩
theorem rRg2 {n m : Int} {R : Int → Int → Prop} (b : -(2 ^ 62) ≤ n ∧ n < 2 ^ 62 ∧ -(2 ^ 62) ≤ m ∧ m < 2 ^ 62) (h : R n m) : ∃ i j : Int, [V.int n, V.int m] = [V.int i, V.int j] ∧ (-(2 ^ 62) ≤ i ∧ i < 2 ^ 62 ∧ -(2 ^ 62) ≤ j ∧ j < 2 ^ 62) ∧ R i j := ⟨n, m, rfl, b, h⟩
theorem rRf {p : Addr} {xs : List V} {R : Addr → Prop} (h1 : H p = some (.lst xs)) (h : R p) : ∃ a, V.ref p = V.ref a ∧ (∃ xs, SqL K H a xs) ∧ R a := ⟨p, rfl, ⟨xs, SqL.of h1⟩, h⟩
theorem loopR_by {lo : Int} {n : Nat} (Pv : Nat → L2.St → Hp → Prop) (h0 : Pv 0 σ H)
    (hs : ∀ (i : Nat) σ H, i < n → Pv i σ H → g (.int (lo + i)) σ H fun σ2 H2 => tb ⟨Pv (i + 1), rt, nx, Pv (i + 1)⟩ σ2 H2) (hd : ∀ σ H, Pv n σ H → nx σ H) : loopJ (Itr lo n) g tb nx rt σ H :=
  for_range (D := ⟨nx, rt, fun _ _ => False, fun _ _ => False⟩) Pv h0 hs hd
theorem loopL_by {a : Addr} {xs : List V} (Pv : Nat → L2.St → Hp → Prop) (h0 : Pv 0 σ H) (hl : ∀ i σ H, i ≤ xs.length → Pv i σ H → H a = some (.lst xs))
    (hs : ∀ i x σ H, xs[i]? = some x → Pv i σ H → g x σ H fun σ2 H2 => tb ⟨Pv (i + 1), rt, nx, Pv (i + 1)⟩ σ2 H2) (hd : ∀ σ H, Pv xs.length σ H → nx σ H) : loopJ (Itl K a) g tb nx rt σ H :=
  for_list (K := K) (D := ⟨nx, rt, fun _ _ => False, fun _ _ => False⟩) Pv h0 (fun i σ H hi p => SqL.of (hl i σ H hi p)) hs hd
/-! a while -/
def loopW (c : TT) (tb : TS) (nx : L2.St → Hp → Prop) (rt : VK) (σ : L2.St) (H : Hp) : Prop :=
  tWhile c tb ⟨nx, rt, fun _ _ => False, fun _ _ => False⟩ σ H
theorem rWhile {c : TT} (h : tWhile c tb ⟨nx, rt, bk, ct⟩ σ H) : tWhile c tb ⟨nx, rt, bk, ct⟩ σ H := h

/-! ## comprehensions -/
/-- a comprehension over what J walks, the list at a new address -/
def compJ (J : It) (g : TG) (tt : TT) (te : TE) (vs : List Nat) (σ : L2.St) (H1 : Hp) (Q : VK) : Prop := ∀ D, H1 D = none → ∃ W : Nat → Nat → Hp → Prop, (∃ m, W 0 m (upd H1 D (.lst []))) ∧ ∀ i m H, W i m H →
  (J.stop i H ∧ Q (.ref D) H) ∨ (J.go i H ∧ ∃ Nx : Hp → Prop, (∀ H', Nx H' → ∃ m', m' < m ∧ W (i + 1) m' H') ∧ ∀ x H', J.yld i H x H' → g x (wipe σ vs) H' fun σ2 H2 => wipe σ2 vs = wipe σ vs ∧ tt σ2 H2 fun b H3 =>
    if b = true then te σ2 H3 fun y H4 => ∃ acc, H4 D = some (.lst acc) ∧ acc.length < sizeLine ∧ Nx (upd H4 D (.lst (acc ++ [y]))) else Nx H3)
theorem rLcR1 (h : ta σ H fun as H1 => ∃ j : Int, as = [.int j] ∧ -(2 ^ 62) ≤ j ∧ j < 2 ^ 62 ∧ compJ (Itr 0 j.toNat) g tt te vs σ H1 Q) : tLc (iRng1 ta) g tt te vs σ H Q := h
theorem rLcR2 (h : ta σ H fun as H1 => ∃ i j : Int, as = [.int i, .int j] ∧ (-(2 ^ 62) ≤ i ∧ i < 2 ^ 62 ∧ -(2 ^ 62) ≤ j ∧ j < 2 ^ 62) ∧ compJ (Itr i (j - i).toNat) g tt te vs σ H1 Q) : tLc (iRng2 ta) g tt te vs σ H Q := h
theorem rLcL (h : tl σ H fun x H1 => ∃ a, x = .ref a ∧ (∃ xs, SqL K H1 a xs) ∧ compJ (Itl K a) g tt te vs σ H1 Q) : tLc (iList K tl) g tt te vs σ H Q := h
theorem wipe1 (σ : L2.St) (i : Nat) (x : V) : wipe ((wipe σ [i]).set i (some x)) [i] = wipe σ [i] := by
  show (((σ.set i none).set i (some x)).set i none) = σ.set i none
  rw [List.set_set, List.set_set]
end

/-! ## the reel -/
/-- the reel: a list of whole numbers, at least 41 of them -/
def Reel (H : Hp) (r : Addr) : Prop := ∃ (p : Int) (ns : List Int), H r = some (.lst (V.int p :: ns.map V.int)) ∧ 40 ≤ ns.length ∧ ns.length ≤ 5000
theorem Reel.lst {H : Hp} {r : Addr} (h : Reel H r) : ∃ xs, H r = some (.lst xs) := let ⟨_, _, e, _⟩ := h; ⟨_, e⟩
theorem Reel.same {H H' : Hp} {r : Addr} (h : Reel H r) (s : Same H H') : Reel H' r := let ⟨p, ns, e, l⟩ := h; ⟨p, ns, s _ _ e, l⟩
theorem Reel.sl {H H' : Hp} {r l : Addr} (h : Reel H r) (s : SL l H H') (n : r ≠ l) : Reel H' r := let ⟨p, ns, e, q⟩ := h; ⟨p, ns, s.keep _ _ n e, q⟩
theorem Reel.refl {H : Hp} {r : Addr} (h : Reel H r) : SL r H H := let ⟨_, e⟩ := h.lst; SL.refl e
theorem Reel.ne {H : Hp} {r p : Addr} (h : Reel H r) (f : Frs H p) : r ≠ p := let ⟨_, e⟩ := h.lst; f.ne e
theorem Reel.ne_tup {H : Hp} {r p : Addr} {xs : List V} (h : Reel H r) (f : H p = Option.some (.tup xs)) : p ≠ r := by
  obtain ⟨_, e⟩ := h.lst
  exact ne_of f e (fun q => nomatch q)
theorem Reel.sl0 {H H' : Hp} {r : Addr} (h : Reel H r) (s : Same H H') : SL r H H' := let ⟨_, e⟩ := h.lst; Same.sl e s
theorem SL.upd_new {r D : Addr} {H H' : Hp} {o : HO} (s : SL r H H') (f : H D = Option.none) : SL r H (upd H' D o) := by
  obtain ⟨xs, e⟩ := s.was
  obtain ⟨ys, e'⟩ := s.is
  refine ⟨s.was, ⟨ys, by rw [upd_ne (ne_of_none e f)]; exact e'⟩, fun a u n q => ?_⟩
  rw [upd_ne (ne_of_none q f)]
  exact s.keep a u n q
theorem Reel.upd_ne {H : Hp} {r D : Addr} {o : HO} (h : Reel H r) (n : r ≠ D) : Reel (upd H D o) r := let ⟨p, ns, e, q⟩ := h; ⟨p, ns, by rw [L2.upd_ne n]; exact e, q⟩
section
variable {lo : Int} {n i : Nat} {te : TE} {σ : L2.St} {H : Hp} {Q : VK} {r : Addr}
/-- within a comprehension: the list so far at D, the heap H2, since H at its start -/
structure cIn (r : Addr) (H : Hp) (D : Addr) (n : Nat) (acc : List V) (H2 : Hp) : Prop where
  at_D : H2 D = some (.lst acc)
  fresh : Frs H D
  since : SL r H H2
  reel : Reel H2 r
  lt : acc.length < n
/-- the turn's end -/
def cD (r : Addr) (H : Hp) (D : Addr) (Pa : List V → Prop) (k : Nat) (y : V) (H4 : Hp) : Prop :=
  ∃ acc, H4 D = some (.lst acc) ∧ acc.length < sizeLine ∧ ∃ acc', acc'.length = k + 1 ∧ Pa acc' ∧ SL r H (upd H4 D (.lst (acc ++ [y]))) ∧ Reel (upd H4 D (.lst (acc ++ [y]))) r ∧ upd H4 D (.lst (acc ++ [y])) D = some (.lst acc')
theorem cD_of {D : Addr} {acc : List V} {H2 H4 : Hp} {Pa : List V → Prop} {y : V} (c : cIn r H D n acc H2) (hn : n < 16777216) (s : SL r H2 H4) (hr : Reel H4 r) (pa : Pa (acc ++ [y])) : cD r H D Pa acc.length y H4 := by
  have hrD : r ≠ D := by
    obtain ⟨_, e⟩ := c.since.was
    exact c.fresh.ne e
  have l := c.lt
  exact ⟨acc, s.keep D _ hrD.symm c.at_D, sz_lt (by omega), acc ++ [y], by simp, pa, (c.since.trans s).upd_new c.fresh, hr.upd_ne hrD, upd_same⟩
/-- a comprehension over a range whose element draws from the reel -/
theorem compR_draw (hR : Reel H r) (Pa : List V → Prop) (h0 : Pa [])
    (hs : ∀ acc H2 D, cIn r H D n acc H2 → Pa acc → te ((σ.set i none).set i (some (.int (lo + acc.length)))) H2 (fun y H3 => cD r H D Pa acc.length y H3))
    (hd : ∀ acc H2 D, acc.length = n → Pa acc → SL r H H2 → Reel H2 r → H2 D = some (.lst acc) → Frs H D → Q (.ref D) H2) : compJ (Itr lo n) (gName i) tYes te [i] σ H Q := by
  intro D hD
  have hrD : r ≠ D := hR.ne hD
  refine lc_range (Qd := fun H' => Q (.ref D) H') (fun k H' => ∃ acc, acc.length = k ∧ Pa acc ∧ SL r H H' ∧ Reel H' r ∧ H' D = some (.lst acc)) ⟨[], rfl, h0, hR.refl.upd_new hD, hR.upd_ne hrD, upd_same⟩ ?_ ?_
  · rintro k H' hk ⟨acc, rfl, pa, s, hr, hDl⟩
    exact ⟨wipe1 σ i _, (hs acc H' D ⟨hDl, hD, s, hr, hk⟩ pa)⟩
  · rintro H' ⟨acc, e, pa, s, hr, hDl⟩
    exact hd acc H' D e pa s hr hDl hD
end
section
variable {lo : Int} {n i : Nat} {te : TE} {σ : L2.St} {H : Hp} {Q : VK} {K : PySem.W.Frag}
/-- the same where the element leaves all as it was -/
structure pIn (H : Hp) (D : Addr) (n : Nat) (acc : List V) (H2 : Hp) : Prop where
  at_D : H2 D = some (.lst acc)
  fresh : Frs H D
  since : Same H H2
  lt : acc.length < n
def pD (H : Hp) (D : Addr) (Pa : List V → Hp → Prop) (k : Nat) (y : V) (H4 : Hp) : Prop :=
  ∃ acc, H4 D = some (.lst acc) ∧ acc.length < sizeLine ∧ ∃ acc', acc'.length = k + 1 ∧ Pa acc' (upd H4 D (.lst (acc ++ [y]))) ∧ Same H (upd H4 D (.lst (acc ++ [y]))) ∧ upd H4 D (.lst (acc ++ [y])) D = some (.lst acc')
theorem Same.upd_new {D : Addr} {H H' : Hp} {o : HO} (s : Same H H') (f : H D = none) : Same H (upd H' D o) := fun a u q => by
  rw [upd_ne (ne_of_none q f)]
  exact s a u q
theorem pD_of {D : Addr} {acc : List V} {H2 H4 : Hp} {Pa : List V → Hp → Prop} {y : V} (c : pIn H D n acc H2) (hn : n < 16777216) (s : Same H2 H4) (pa : ∀ H5, SL D H4 H5 → Pa (acc ++ [y]) H5) : pD H D Pa acc.length y H4 := by
  have l := c.lt
  have e4 := s _ _ c.at_D
  exact ⟨acc, e4, sz_lt (by omega), acc ++ [y], by simp, pa _ ⟨⟨_, e4⟩, ⟨_, upd_same⟩, fun a u n e => by rw [upd_ne n]; exact e⟩, Same.upd_new (Same.trans c.since s) c.fresh, upd_same⟩
theorem compR_pure (Pa : List V → Hp → Prop) (h0 : ∀ H2, Same H H2 → Pa [] H2)
    (hs : ∀ acc H2 D, pIn H D n acc H2 → Pa acc H2 → te ((σ.set i none).set i (some (.int (lo + acc.length)))) H2 (fun y H3 => pD H D Pa acc.length y H3))
    (hd : ∀ acc H2 D, acc.length = n → Pa acc H2 → Same H H2 → H2 D = some (.lst acc) → Frs H D → Q (.ref D) H2) : compJ (Itr lo n) (gName i) tYes te [i] σ H Q := by
  intro D hD
  refine lc_range (Qd := fun H' => Q (.ref D) H') (fun k H' => ∃ acc, acc.length = k ∧ Pa acc H' ∧ Same H H' ∧ H' D = some (.lst acc)) ⟨[], rfl, h0 _ (Same.upd_new (Same.refl H) hD), Same.upd_new (Same.refl H) hD, upd_same⟩ ?_ ?_
  · rintro k H' hk ⟨acc, rfl, pa, s, hDl⟩
    exact ⟨wipe1 σ i _, (hs acc H' D ⟨hDl, hD, s, hk⟩ pa)⟩
  · rintro H' ⟨acc, e, pa, s, hDl⟩
    exact hd acc H' D e pa s hDl hD
theorem compL_pure {a : Addr} {xs : List V} (ha : H a = some (.lst xs)) (Pa : List V → Hp → Prop) (h0 : ∀ H2, Same H H2 → Pa [] H2)
    (hs : ∀ acc x H2 D, pIn H D xs.length acc H2 → xs[acc.length]? = some x → Pa acc H2 → te ((σ.set i none).set i (some x)) H2 (fun y H3 => pD H D Pa acc.length y H3))
    (hd : ∀ acc H2 D, acc.length = xs.length → Pa acc H2 → Same H H2 → H2 D = some (.lst acc) → Frs H D → Q (.ref D) H2) : compJ (Itl K a) (gName i) tYes te [i] σ H Q := by
  intro D hD
  refine lc_list (K := K) (a := a) (xs := xs) (Qd := fun H' => Q (.ref D) H') (fun k H' => ∃ acc, acc.length = k ∧ Pa acc H' ∧ Same H H' ∧ H' D = some (.lst acc)) ⟨[], rfl, h0 _ (Same.upd_new (Same.refl H) hD), Same.upd_new (Same.refl H) hD, upd_same⟩ (fun i H' _ ⟨_, _, _, s, _⟩ => SqL.of (s _ _ ha)) ?_ ?_
  · rintro k x H' hx ⟨acc, rfl, pa, s, hDl⟩
    exact ⟨wipe1 σ i _, (hs acc x H' D ⟨hDl, hD, s, (List.getElem?_eq_some_iff.mp hx).1⟩ hx pa)⟩
  · rintro H' ⟨acc, e, pa, s, hDl⟩
    exact hd acc H' D e pa s hDl hD
end
/-! ## texts -/
theorem len_app (x y : Str) : (x ++ y).length = x.length + y.length := by
  rw [TL.len_tl, TL.tl_append, List.length_append, ← TL.len_tl, ← TL.len_tl]
theorem joinL_nil : ∀ ps : List (List Nat), TL.joinL [] ps = ps.flatten
  | [] => rfl
  | [p] => by simp [TL.joinL]
  | p :: q :: r => by
    show p ++ ([] ++ TL.joinL [] (q :: r)) = _
    rw [List.nil_append, joinL_nil (q :: r)]
    rfl
theorem tl_join0 (ys : List Str) : TL.tl (Txt.join Str.empty ys) = (ys.map TL.tl).flatten := by
  rw [TL.join_eq, TL.tl_join, show TL.tl Str.empty = [] from rfl, joinL_nil]
/-- all signs are signs -/
abbrev Ok (x : Str) : Prop := ∀ c ∈ TL.tl x, c < 1114112
theorem Ok.strOk {x : Str} (h : Ok x) : PyData.strOk x = true := by
  show x.cps.all (fun c => decide (c < 0x110000)) = true
  rw [← Array.all_toList, List.all_eq_true]
  exact fun c hc => decide_eq_true (h c hc)
theorem Ok.app {x y : Str} (h : Ok x) (h' : Ok y) : Ok (x ++ y) := fun c hc => by
  rw [TL.tl_append] at hc
  rcases List.mem_append.mp hc with hc | hc
  · exact h c hc
  · exact h' c hc
theorem Ok.join {ys : List Str} (h : ∀ y ∈ ys, Ok y) : Ok (Txt.join Str.empty ys) := fun c hc => by
  rw [tl_join0] at hc
  obtain ⟨l, hl, hcl⟩ := List.mem_flatten.mp hc
  obtain ⟨y, hy, rfl⟩ := List.mem_map.mp hl
  exact h y hy c hcl
/-- the list form of a slice -/
def cut {α : Type} (l : List α) (lo hi : Option Int) : List α := (l.drop (HT.sIx l.length 0 lo)).take (HT.sIx l.length l.length hi - HT.sIx l.length 0 lo)
theorem cutV_cut (xs : List V) (lo hi : Option Int) : cutV xs lo hi = cut xs lo hi := rfl
theorem tl_cutS (z : Str) (lo hi : Option Int) : TL.tl (cutS z lo hi) = cut (TL.tl z) lo hi := by
  unfold cutS cut
  rw [TL.len_tl z]
theorem Ok.cut {x : Str} (h : Ok x) (lo hi : Option Int) : Ok (cutS x lo hi) := fun c hc => by
  rw [tl_cutS] at hc
  exact h c (List.mem_of_mem_drop (List.mem_of_mem_take hc))
theorem sIx_pos {n d : Nat} {i : Int} (h : 0 ≤ i) : HT.sIx n d (some i) = min i.toNat n := by
  show (if i < 0 then (i + (n : Int)).toNat else min i.toNat n) = min i.toNat n
  rw [if_neg (by omega)]
theorem cut_to {α : Type} {l : List α} {i : Int} (h : 0 ≤ i) : cut l none (some i) = l.take i.toNat := by
  unfold cut
  rw [HT.sIx_none, sIx_pos h, List.drop_zero, Nat.sub_zero]
  by_cases c : i.toNat ≤ l.length
  · rw [Nat.min_eq_left c]
  · rw [Nat.min_eq_right (by omega), List.take_of_length_le (Nat.le_refl _), List.take_of_length_le (by omega)]
theorem cut_from {α : Type} {l : List α} {i : Int} (h : 0 ≤ i) : cut l (some i) none = l.drop i.toNat := by
  unfold cut
  rw [HT.sIx_none, sIx_pos h]
  by_cases c : i.toNat ≤ l.length
  · rw [Nat.min_eq_left c, List.take_of_length_le (by rw [List.length_drop]; omega)]
  · rw [Nat.min_eq_right (by omega), List.drop_eq_nil_of_le (Nat.le_refl _), List.drop_eq_nil_of_le (by omega)]
    simp
theorem cut_mid {α : Type} {l : List α} {i j : Int} (h : 0 ≤ i) (h' : 0 ≤ j) : cut l (some i) (some j) = (l.take j.toNat).drop i.toNat := by
  unfold cut
  rw [sIx_pos h, sIx_pos h', List.drop_take]
  by_cases c : i.toNat ≤ l.length
  · rw [Nat.min_eq_left c]
    by_cases c2 : j.toNat ≤ l.length
    · rw [Nat.min_eq_left c2]
    · rw [Nat.min_eq_right (by omega)]
      rw [List.take_of_length_le (by rw [List.length_drop]; omega), List.take_of_length_le (by rw [List.length_drop]; omega)]
  · rw [Nat.min_eq_right (show l.length ≤ i.toNat by omega), List.drop_eq_nil_of_le (Nat.le_refl _), List.drop_eq_nil_of_le (by omega)]
    simp
theorem cut_len {α : Type} (l : List α) (lo hi : Option Int) : (cut l lo hi).length ≤ l.length := by
  unfold cut
  rw [List.length_take, List.length_drop]
  omega
end Z
namespace Z
open PySem PySem.Spec L2
local macro_rules | `(tactic| walk_at "ne") => `(tactic| first
  | with_reducible assumption
  | with_reducible exact Ne.symm (by assumption)
  | exact Frs.ne (by with_reducible assumption) (by walk_at "hp")
  | exact Frs.ne' (by with_reducible assumption) (by walk_at "hp"))
local macro_rules | `(tactic| walk_at "hp") => `(tactic| first
  | with_reducible assumption
  | (with_reducible refine Same.at (by assumption) ?_; walk_at "hp")
  | (with_reducible refine SL.tup (by assumption) ?_; walk_at "hp")
  | (with_reducible refine SL.at (by assumption) (by walk_at "ne") ?_; walk_at "hp"))
local macro_rules | `(tactic| walk_at "sz") => `(tactic| first
  | with_reducible assumption
  | exact Nat.le_of_ble_eq_true rfl
  | (refine sz_le ?_; omega)
  | (refine sz_lt ?_; omega)
  | decide +kernel)
local macro_rules | `(tactic| walk_at "at") => `(tactic| first
  | with_reducible assumption
  | with_reducible exact at0
  | with_reducible exact at1
  | with_reducible exact at2
  | with_reducible exact ixN0)
local macro_rules | `(tactic| walk_at "nn") => `(tactic| first
  | omega
  | decide
  | exact ⟨by decide, by decide⟩
  | exact ⟨by omega, by omega⟩
  | exact ⟨by omega, by omega, by omega, by omega⟩)
local macro_rules | `(tactic| walk_at "rdv") => `(tactic| first
  | (with_reducible refine add_int ?_)
  | (with_reducible refine sub_int ?_)
  | (with_reducible refine neg_int ?_)
  | ((with_reducible refine ix_tpl (xs := ?xs) (v := ?v) ?h1 ?h2 ?_); (case h1 => walk_at "hp"); (case h2 => walk_at "at"))
  | ((with_reducible refine ix_lst (xs := ?xs) (v := ?v) ?h1 ?h2 ?_); (case h1 => walk_at "hp"); (case h2 => walk_at "at"))
  | (with_reducible refine eq_int ?_)
  | (with_reducible refine ne_int ?_)
  | (with_reducible refine lt_int ?_)
  | (with_reducible refine le_int ?_)
  | (with_reducible refine gt_int ?_)
  | (with_reducible refine ge_int ?_)
  | (with_reducible refine eq_str ?_)
  | (with_reducible refine ne_str ?_)
  | (with_reducible refine eq_bl ?_)
  | (with_reducible refine ne_bl ?_)
  | ((with_reducible refine mod_int ?hc ?_); (case hc => walk_at "nn"))
  | ((with_reducible refine div_int ?hc ?_); (case hc => walk_at "nn"))
  | ((with_reducible refine mul_intR ?hc ?_); (case hc => exact ⟨by decide, by decide⟩))
  | ((with_reducible refine mul_intR ?hc ?_); (case hc => exact ⟨by omega, by omega⟩))
  | ((with_reducible refine mul_intL ?hc ?_); (case hc => exact ⟨by omega, by omega⟩))
  | ((with_reducible refine pow_int ?hc ?_); (case hc => exact ⟨by decide, by decide, by decide⟩))
  | ((with_reducible refine add_str ?hc ?_); (case hc => walk_at "sz"))
  | ((with_reducible refine add_lst (xs := ?xs) (ys := ?ys) ?h1 ?h2 ?hc ?_); (case h1 => walk_at "hp"); (case h2 => walk_at "hp"); (case hc => walk_at "sz"))
  | ((with_reducible refine sl_strU ?hc ?_); (case hc => walk_at "sz"))
  | ((with_reducible refine sl_lst (xs := ?xs) ?h1 ?_); (case h1 => walk_at "hp"))
  | (with_reducible refine is_bl ?_)
  | (with_reducible refine isnt_bl ?_)
  | (with_reducible refine is_non ?_)
  | (with_reducible refine isnt_non ?_))
local macro_rules | `(tactic| walk_at "rdc") => `(tactic| first
  | ((with_reducible refine len_lst (xs := ?xs) ?h1 ?_); (case h1 => walk_at "hp"))
  | ((with_reducible refine len_tup (xs := ?xs) ?h1 ?_); (case h1 => walk_at "hp"))
  | ((with_reducible refine len_str ?hc ?_); (case hc => walk_at "sz"))
  | (with_reducible refine int_int ?_)
  | (with_reducible refine max_int ?_)
  | (with_reducible refine min_int ?_)
  | (with_reducible refine abs_int ?_)
  | (with_reducible refine isi_ii ?_)
  | (with_reducible refine isi_ib ?_)
  | (with_reducible refine isi_ss ?_)
  | (with_reducible refine isi_bb ?_)
  | ((with_reducible refine isi_tt (xs := ?xs) ?h1 ?_); (case h1 => walk_at "hp"))
  | ((with_reducible refine isi_ll (xs := ?xs) ?h1 ?_); (case h1 => walk_at "hp"))
  | ((with_reducible refine list_lst (xs := ?xs) ?h1 ?_); (case h1 => walk_at "hp"))
  | ((with_reducible refine list_tup (xs := ?xs) ?h1 ?_); (case h1 => walk_at "hp"))
  | ((with_reducible refine tuple_lst (xs := ?xs) ?h1 ?_); (case h1 => walk_at "hp"))
  | ((with_reducible refine tuple_tup (xs := ?xs) ?h1 ?_); (case h1 => walk_at "hp"))
  | ((with_reducible refine append_lst (xs := ?xs) ?h1 ?hc ?_); (case h1 => walk_at "hp"); (case hc => walk_at "sz"))
  | ((with_reducible refine clear_lst (xs := ?xs) ?h1 ?_); (case h1 => walk_at "hp"))
  | ((with_reducible refine set_lst (xs := ?xs) (k := ?k) ?h1 ?h2 ?_); (case h1 => walk_at "hp"); (case h2 => walk_at "at")))
local macro_rules | `(tactic| walk_at "rd1") => `(tactic| first
  | ((with_reducible refine rVar (v := ?v) ?h ?_); (case h => exact rfl))
  | (with_reducible refine rC ?_)
  | (with_reducible refine rCons ?_)
  | (with_reducible refine rNil ?_)
  | (with_reducible refine rOp ?_)
  | (with_reducible refine rSeq ?_)
  | (with_reducible refine rAsgN ?_)
  | (with_reducible refine rAsgT ?_)
  | (with_reducible refine rAsgS ?_)
  | (with_reducible refine rTest ?_)
  | (with_reducible refine rBl ?_)
  | (with_reducible refine rBl' ?_)
  | (with_reducible refine rInt ?_)
  | (with_reducible refine rInt' ?_)
  | (with_reducible refine rCall ?_)
  | (with_reducible refine rCB ?_)
  | (with_reducible refine rRet ?_)
  | (with_reducible refine rDrop ?_)
  | (with_reducible refine rIfS ?_)
  | (with_reducible refine rTup ?_)
  | (with_reducible refine rLst ?_)
  | (with_reducible refine ⟨Nat.le_of_ble_eq_true rfl, ?_⟩)
  | (with_reducible refine rSl ?_)
  | (with_reducible refine rPart ?_)
  | (with_reducible refine rNoPart ?_)
  | (with_reducible refine rBM ?_)
  | (with_reducible refine rBM0 ?_)
  | ((with_reducible refine tyL (xs := ?xs) ?h1 ?_); (case h1 => walk_at "hp"))
  | (with_reducible refine rM1 ?_)
  | (with_reducible refine rM0 ?_)
  | (with_reducible refine rStr ?_)
  | (with_reducible refine rTru ?_)
  | (with_reducible refine tru_bl ?_)
  | (with_reducible refine tru_int ?_)
  | ((with_reducible refine tru_lst (xs := ?xs) ?h1 ?_); (case h1 => walk_at "hp"))
  | ((with_reducible refine tru_tup (xs := ?xs) ?h1 ?_); (case h1 => walk_at "hp"))
  | ((with_reducible refine tru_str ?hc ?_); (case hc => walk_at "sz"))
  | (with_reducible refine rAnd ?_)
  | (with_reducible refine rOr ?_)
  | (with_reducible refine rNot ?_)
  | (with_reducible refine rAndV ?_)
  | (with_reducible refine rOrV ?_)
  | (with_reducible refine rNotV ?_)
  | (with_reducible refine rIfE ?_)
  | (with_reducible refine rChain ?_)
  | (with_reducible refine rChain3 ?_)
  | (with_reducible refine ifT ?_)
  | (with_reducible refine ifF ?_)
  | (with_reducible refine ifNF ?_)
  | (with_reducible refine ifNT ?_)
  | (with_reducible refine rNext ?_)
  | (with_reducible refine rBrk ?_)
  | (with_reducible refine rCnt ?_)
  | (with_reducible refine rRetN ?_)
  | (with_reducible refine rForR1 ?_)
  | (with_reducible refine rForR2 ?_)
  | (with_reducible refine rForL ?_)
  | ((with_reducible refine rRg1 ?hb ?_); (case hb => walk_at "nn"))
  | ((with_reducible refine rRg2 ?hb ?_); (case hb => walk_at "nn"))
  | ((with_reducible refine rRf (xs := ?xs) ?h1 ?_); (case h1 => walk_at "hp"))
  | (with_reducible refine rLcR1 ?_)
  | (with_reducible refine rLcR2 ?_)
  | (with_reducible refine rLcL ?_)
  | (with_reducible refine gN ?_)
  | (with_reducible refine gNl ?_)
  | (with_reducible refine gC ?_)
  | ((with_reducible refine gT (xs := ?xs) ?h1 ?h2 ?_); (case h1 => walk_at "hp"); (case h2 => exact rfl))
  | (with_reducible refine rUn ?_)
  | walk_at "rdv"
  | walk_at "rdc")
local macro_rules | `(tactic| walk_at "rd") => `(tactic| repeat walk_at "rd1")

/-! ## promises of the draws -/
def sp_law_draw : Sp := fun vs H Q _ => ∃ (r : Addr) (n : Int), vs = [.ref r, .int n] ∧ Reel H r ∧ 0 < n ∧ ∀ (i : Int) (H' : Hp), 0 ≤ i → i < n → SL r H H' → Reel H' r → Q (.int i) H'
theorem use_draw {r : Addr} {n : Int} {H : Hp} {Q : VK} {E : XK} (hR : Reel H r) (hn : 0 < n) (h : ∀ (i : Int) (H' : Hp), 0 ≤ i → i < n → SL r H H' → Reel H' r → Q (.int i) H') : sp_law_draw [.ref r, .int n] H Q E := ⟨r, n, rfl, hR, hn, h⟩
def sp_law_pick : Sp := fun vs H Q _ => ∃ (r : Addr) (row : V), vs = [.ref r, row] ∧ Reel H r ∧
  ((∃ p xs, row = .ref p ∧ H p = some (.lst xs) ∧ p ≠ r ∧ 0 < xs.length ∧ ∀ v H', v ∈ xs → SL r H H' → Reel H' r → Q v H') ∨
   (∃ z : Str, row = .str z ∧ 0 < z.length ∧ z.length ≤ 16777216 ∧ ∀ c H', c ∈ TL.tl z → SL r H H' → Reel H' r → Q (.str ⟨#[c]⟩) H'))
inductive AllI (lo hi : Int) : List V → Prop where
  | nil : AllI lo hi []
  | cons {i : Int} {xs : List V} (h1 : lo ≤ i ∧ i ≤ hi) (h : AllI lo hi xs) : AllI lo hi (.int i :: xs)
theorem AllI.mem {lo hi : Int} {v : V} : ∀ {xs : List V}, AllI lo hi xs → v ∈ xs → ∃ i, v = .int i ∧ lo ≤ i ∧ i ≤ hi
  | _, .cons h1 h, hm => by
    rcases List.mem_cons.mp hm with e | hm
    · exact ⟨_, e, h1⟩
    · exact AllI.mem h hm
inductive AllS (P : Str → Prop) : List V → Prop where
  | nil : AllS P []
  | cons {z : Str} {xs : List V} (h1 : P z) (h : AllS P xs) : AllS P (.str z :: xs)
theorem AllS.mem {P : Str → Prop} {v : V} : ∀ {xs : List V}, AllS P xs → v ∈ xs → ∃ z, v = .str z ∧ P z
  | _, .cons h1 h, hm => by
    rcases List.mem_cons.mp hm with e | hm
    · exact ⟨_, e, h1⟩
    · exact AllS.mem h hm
theorem use_pickI {r p : Addr} {xs : List V} {lo hi : Int} {H : Hp} {Q : VK} {E : XK} (hR : Reel H r) (hp : H p = some (.lst xs)) (hn : p ≠ r) (h0 : 0 < xs.length) (ha : AllI lo hi xs)
    (h : ∀ (i : Int) (H' : Hp), lo ≤ i → i ≤ hi → SL r H H' → Reel H' r → Q (.int i) H') : sp_law_pick [.ref r, .ref p] H Q E :=
  ⟨r, _, rfl, hR, .inl ⟨p, xs, rfl, hp, hn, h0, fun v H' hm s hr => by
    obtain ⟨i, rfl, h1, h2⟩ := ha.mem hm
    exact h i H' h1 h2 s hr⟩⟩
theorem use_pickS {r p : Addr} {xs : List V} {P : Str → Prop} {H : Hp} {Q : VK} {E : XK} (hR : Reel H r) (hp : H p = some (.lst xs)) (hn : p ≠ r) (h0 : 0 < xs.length) (ha : AllS P xs)
    (h : ∀ (z : Str) (H' : Hp), P z → SL r H H' → Reel H' r → Q (.str z) H') : sp_law_pick [.ref r, .ref p] H Q E :=
  ⟨r, _, rfl, hR, .inl ⟨p, xs, rfl, hp, hn, h0, fun v H' hm s hr => by
    obtain ⟨i, rfl, h1⟩ := ha.mem hm
    exact h i H' h1 s hr⟩⟩
theorem use_pickC {r : Addr} {z : Str} {H : Hp} {Q : VK} {E : XK} (hR : Reel H r) (h0 : 0 < z.length) (h1 : z.length ≤ 16777216)
    (h : ∀ (c : Nat) (H' : Hp), c ∈ TL.tl z → SL r H H' → Reel H' r → Q (.str ⟨#[c]⟩) H') : sp_law_pick [.ref r, .str z] H Q E := ⟨r, _, rfl, hR, .inr ⟨z, rfl, h0, h1, h⟩⟩
def sp_law_word : Sp := fun vs H Q _ => ∃ (r : Addr) (z : Str) (l m : Int), vs = [.ref r, .str z, .int l, .int m] ∧ Reel H r ∧ 0 < z.length ∧ z.length ≤ 1000 ∧ 0 ≤ l ∧ l ≤ m ∧ m ≤ 100000 ∧
  ∀ (x : Str) (H' : Hp), l ≤ x.length → x.length ≤ m → (∀ c ∈ TL.tl x, c ∈ TL.tl z) → SL r H H' → Reel H' r → Q (.str x) H'
theorem use_word {r : Addr} {z : Str} {l m : Int} {H : Hp} {Q : VK} {E : XK} (hR : Reel H r) (hz : 0 < z.length ∧ z.length ≤ 1000) (hl : 0 ≤ l ∧ l ≤ m ∧ m ≤ 100000)
    (h : ∀ (x : Str) (H' : Hp), l ≤ x.length → x.length ≤ m → (∀ c ∈ TL.tl x, c ∈ TL.tl z) → SL r H H' → Reel H' r → Q (.str x) H') : sp_law_word [.ref r, .str z, .int l, .int m] H Q E := ⟨r, z, l, m, rfl, hR, hz.1, hz.2, hl.1, hl.2.1, hl.2.2, h⟩
section
variable {P : Program} {w : World} {K : PySem.W.Frag} {mg : Str → Option Value} {base : Heap}
theorem reel_at {p z : Int} {ns : List Int} (h0 : 0 ≤ z) (h1 : z < ns.length) : ∃ j, atI (V.int p :: ns.map V.int) (1 + z) = some (V.int j) := by
  obtain ⟨v, h, _, hm⟩ := at_in (xs := V.int p :: ns.map V.int) (z := 1 + z) (by omega) (by rw [List.length_cons, List.length_map]; omega)
  rcases List.mem_cons.mp hm with e | hm
  · exact ⟨p, by rw [h, e]⟩
  · obtain ⟨j, _, e⟩ := List.mem_map.mp hm
    exact ⟨j, by rw [h, e]⟩
theorem cal_law_draw {f : Addr} {fd : FuncData} (T : Txt mg) (FD : C8.Def K mg "_law_draw" s_law_draw f fd) (b : Binds K fd ["reel", "size"] []) : C8.Cal P w K mg base 1 "_law_draw" sp_law_draw [] := by
  refine C8.cal0 FD b .nil sc_law_draw (fun vs H Q E h => ?_) (fun cdv A outer s H vs Q E hr h => ?_)
  · obtain ⟨r, n, rfl, _⟩ := h; rfl
  · obtain ⟨r, n, rfl, ⟨p, ns, hR, l1, l2⟩, hn, k⟩ := h
    refine ⟨_, (pss_cons (ps_set (i := 2) sc_law_draw.nd rfl (.inl rfl) (pe_op op_subU (pe_callB (call_lenK K) (by rfl) T.n_len PySem.boot_len (pa_cons (pv 0) pa_nil)) pe_int))
  (pss_cons (ps_set (i := 3) sc_law_draw.nd rfl (.inl rfl) (pe_ix (ix_K K) (pv 0) pe_int (fun _ _ => rfl)))
  (pss_cons (ps_asg (pe_op (op_addK K) (pv 3) pe_int) (pg_sub (pv 0) pe_int set_list))
  (pss_one (ps_ret (pe_op op_modU (pe_callTy call_intU (by rfl) T.n_int (by decide +kernel) (pa_cons (pe_op (op_addK K) (pe_ix (ix_K K) (pv 0) (pe_op (op_addK K) pe_int (pe_op op_modU (pe_callTy call_intU (by rfl) T.n_int (by decide +kernel) (pa_cons (pv 3) pa_nil)) (pv 2))) (fun _ _ => rfl)) (pe_op op_mulU (pe_op op_divU (pv 3) (pv 2)) pe_int)) pa_nil)) (pv 1))))))), ?_⟩
    show (_ : TS) _ [some (.ref r), some (.int n), none, none] H
    have hc : (((V.int p :: ns.map V.int).length : Int) - 1) = (ns.length : Int) := by rw [List.length_cons, List.length_map]; omega
    walk_at "rd"
    refine putO_gen hR fun H1 s1 h1 => ?_
    replace h1 : H1 r = some (.lst (V.int (p + 1) :: ns.map V.int)) := h1
    rw [hc]
    have c0 := Int.emod_nonneg p (show (ns.length : Int) ≠ 0 by omega)
    have c1 := Int.emod_lt_of_pos p (show (0 : Int) < (ns.length : Int) by omega)
    obtain ⟨j, hj⟩ := reel_at (p := p + 1) c0 c1
    walk_at "rd"
    exact k _ _ (Int.emod_nonneg _ (by omega)) (Int.emod_lt_of_pos _ hn) s1 ⟨_, _, h1, l1, l2⟩
theorem cal_law_pick {f : Addr} {fd : FuncData} (T : Txt mg) (FD : C8.Def K mg "_law_pick" s_law_pick f fd) (b : Binds K fd ["reel", "row"] [])
    (c_law_draw : C8.Cal P w K mg base 1 "_law_draw" sp_law_draw []) : C8.Cal P w K mg base 2 "_law_pick" sp_law_pick [] := by
  refine C8.cal0 FD b .nil sc_law_pick (fun vs H Q E h => ?_) (fun cdv A outer s H vs Q E hr h => ?_)
  · obtain ⟨r, n, rfl, _⟩ := h; rfl
  · obtain ⟨r, row, rfl, hR, h⟩ := h
    refine ⟨_, (pss_one (ps_ret (pe_ix (ix_K K) (pv 1) (C8.pe_c c_law_draw hr (by decide) (by rfl) (pa_cons (pv 0) (pa_cons (pe_callB (call_lenK K) (by rfl) T.n_len PySem.boot_len (pa_cons (pv 1) pa_nil)) pa_nil))) (fun _ _ => rfl)))), ?_⟩
    show (_ : TS) _ [some (.ref r), some row] H
    rcases h with ⟨p, xs, rfl, hp, hn, h0, k⟩ | ⟨z, rfl, h0, h1, k⟩
    · walk_at "rd"
      refine use_draw hR (by omega) fun i H1 i0 i1 s1 r1 => ?_
      obtain ⟨v, hv, _, hm⟩ := at_in i0 i1
      walk_at "rd"
      exact k v H1 hm s1 r1
    · walk_at "rd"
      refine use_draw hR (by omega) fun i H1 i0 i1 s1 r1 => ?_
      obtain ⟨c, hv, _, hm⟩ := at_in (xs := z.cps.toList) i0 (by rw [← TL.len_tl]; exact i1)
      refine ix_str (sz_le h1) hv ?_
      exact k c H1 hm s1 r1
theorem cal_law_word {f : Addr} {fd : FuncData} (T : Txt mg) (FD : C8.Def K mg "_law_word" s_law_word f fd) (b : Binds K fd ["reel", "letters", "least", "most"] [])
    (c_law_pick : C8.Cal P w K mg base 2 "_law_pick" sp_law_pick [])
    (c_law_draw : C8.Cal P w K mg base 1 "_law_draw" sp_law_draw []) : C8.Cal P w K mg base 3 "_law_word" sp_law_word [] := by
  refine C8.cal0 FD b .nil sc_law_word (fun vs H Q E h => ?_) (fun cdv A outer s H vs Q E hr h => ?_)
  · obtain ⟨r, z, l, m, rfl, _⟩ := h; rfl
  · obtain ⟨r, z, l, m, rfl, hR, z0, z1, l0, l1, l2, k⟩ := h
    refine ⟨_, (pss_one (ps_ret (pe_m1 F.slot_str_join F.type_str_join (mt_joinK K) pe_str (pe_lc (own := [("k", 4)]) rfl sc_law_word.nd (pi_range1 rfl T.n_range (pa_cons (pe_op (op_addK K) (pv 2) (C8.pe_c c_law_draw hr (by decide) (by rfl) (pa_cons (pv 0) (pa_cons (pe_op (op_addK K) (pe_op op_subU (pv 3) (pv 2)) pe_int) pa_nil)))) pa_nil)) (blkOk_by (own := [("k", 4)]) (N := ["reel", "letters", "least", "most", "k"]) (sc := C8.fnScope s_law_word) (by decide +kernel)) (fun _ _ _ _ _ => (pg_name (i := 4) sc_law_word.nd rfl (.inl rfl))) (fun _ _ _ _ _ => pts_nil) (fun _ _ _ _ _ => (C8.pe_c c_law_pick hr (by decide) (by rfl) (pa_cons (pv 0) (pa_cons (pv 1) pa_nil)))))))), ?_⟩
    show (_ : TS) _ [some (.ref r), some (.str z), some (.int l), some (.int m), none] H
    walk_at "rd"
    refine use_draw hR (by omega) fun i H1 i0 i1 s1 r1 => ?_
    walk_at "rd"
    refine compR_draw (r := r) r1 (fun acc => ∃ ys : List Str, acc = ys.map V.str ∧ ∀ y ∈ ys, ∃ c ∈ TL.tl z, y = ⟨#[c]⟩) ⟨[], rfl, fun _ h => nomatch h⟩ ?_ ?_
    · rintro acc H2 D c ⟨ys, rfl, hy⟩
      walk_at "rd"
      refine use_pickC c.reel z0 (by omega) fun ch H3 hc s3 r3 => ?_
      refine cD_of c (by omega) s3 r3 ⟨ys ++ [⟨#[ch]⟩], by simp, fun y hm => ?_⟩
      rcases List.mem_append.mp hm with hm | hm
      · exact hy y hm
      · exact ⟨ch, hc, List.mem_singleton.mp hm⟩
    · rintro acc H2 D hl ⟨ys, rfl, hy⟩ s2 r2 hD _
      rw [List.length_map] at hl
      have hlen : ∀ ys : List Str, (∀ y ∈ ys, ∃ c ∈ TL.tl z, y = ⟨#[c]⟩) → (ys.map (·.length)).sum = ys.length ∧ ((ys.map TL.tl).flatten).length = ys.length ∧ ∀ c ∈ (ys.map TL.tl).flatten, c ∈ TL.tl z := by
        intro ys
        induction ys with
        | nil => intro _; exact ⟨rfl, rfl, fun _ h => nomatch h⟩
        | cons y ys ih =>
          intro h
          obtain ⟨e1, e2, e3⟩ := ih fun q hq => h q (List.mem_cons_of_mem _ hq)
          obtain ⟨c, hc, rfl⟩ := h y (List.mem_cons_self ..)
          refine ⟨?_, ?_, ?_⟩
          · rw [List.map_cons, List.sum_cons, e1]; show 1 + ys.length = ys.length + 1; omega
          · rw [List.map_cons, List.flatten_cons, List.length_append, e2]; show 1 + ys.length = ys.length + 1; omega
          · intro q hq
            rw [List.map_cons, List.flatten_cons] at hq
            rcases List.mem_append.mp hq with hq | hq
            · have : q = c := by simpa using hq
              rw [this]; exact hc
            · exact e3 q hq
      obtain ⟨e1, e2, e3⟩ := hlen ys hy
      have e : TL.tl (Txt.join (Str.ofString "") ys) = (ys.map TL.tl).flatten := tl_join0 ys
      refine join_lst hD (by rw [e1]; show ys.length + ys.length * 0 ≤ _; omega) ?_
      refine k _ H2 ?_ ?_ ?_ (s1.trans s2) r2
      · rw [TL.len_tl, e, e2]; omega
      · rw [TL.len_tl, e, e2]; omega
      · rw [e]; exact e3
end
end Z
namespace Z
open PySem PySem.Spec L2
local macro_rules | `(tactic| walk_at "ne") => `(tactic| first
  | with_reducible assumption
  | with_reducible exact Ne.symm (by assumption)
  | exact Frs.ne (by with_reducible assumption) (by walk_at "hp")
  | exact Frs.ne' (by with_reducible assumption) (by walk_at "hp"))
local macro_rules | `(tactic| walk_at "hp") => `(tactic| first
  | with_reducible assumption
  | (with_reducible refine Same.at (by assumption) ?_; walk_at "hp")
  | (with_reducible refine SL.tup (by assumption) ?_; walk_at "hp")
  | (with_reducible refine SL.at (by assumption) (by walk_at "ne") ?_; walk_at "hp"))
local macro_rules | `(tactic| walk_at "sz") => `(tactic| first
  | with_reducible assumption
  | exact Nat.le_of_ble_eq_true rfl
  | (refine sz_le ?_; omega)
  | (refine sz_lt ?_; omega)
  | decide +kernel)
local macro_rules | `(tactic| walk_at "at") => `(tactic| first
  | with_reducible assumption
  | with_reducible exact at0
  | with_reducible exact at1
  | with_reducible exact at2
  | with_reducible exact ixN0)
local macro_rules | `(tactic| walk_at "nn") => `(tactic| first
  | omega
  | decide
  | exact ⟨by decide, by decide⟩
  | exact ⟨by omega, by omega⟩
  | exact ⟨by omega, by omega, by omega, by omega⟩)
local macro_rules | `(tactic| walk_at "rdv") => `(tactic| first
  | (with_reducible refine add_int ?_)
  | (with_reducible refine sub_int ?_)
  | (with_reducible refine neg_int ?_)
  | ((with_reducible refine ix_tpl (xs := ?xs) (v := ?v) ?h1 ?h2 ?_); (case h1 => walk_at "hp"); (case h2 => walk_at "at"))
  | ((with_reducible refine ix_lst (xs := ?xs) (v := ?v) ?h1 ?h2 ?_); (case h1 => walk_at "hp"); (case h2 => walk_at "at"))
  | (with_reducible refine eq_int ?_)
  | (with_reducible refine ne_int ?_)
  | (with_reducible refine lt_int ?_)
  | (with_reducible refine le_int ?_)
  | (with_reducible refine gt_int ?_)
  | (with_reducible refine ge_int ?_)
  | (with_reducible refine eq_str ?_)
  | (with_reducible refine ne_str ?_)
  | (with_reducible refine eq_bl ?_)
  | (with_reducible refine ne_bl ?_)
  | ((with_reducible refine mod_int ?hc ?_); (case hc => walk_at "nn"))
  | ((with_reducible refine div_int ?hc ?_); (case hc => walk_at "nn"))
  | ((with_reducible refine mul_intR ?hc ?_); (case hc => exact ⟨by decide, by decide⟩))
  | ((with_reducible refine mul_intR ?hc ?_); (case hc => exact ⟨by omega, by omega⟩))
  | ((with_reducible refine mul_intL ?hc ?_); (case hc => exact ⟨by omega, by omega⟩))
  | ((with_reducible refine pow_int ?hc ?_); (case hc => exact ⟨by decide, by decide, by decide⟩))
  | ((with_reducible refine add_str ?hc ?_); (case hc => walk_at "sz"))
  | ((with_reducible refine add_lst (xs := ?xs) (ys := ?ys) ?h1 ?h2 ?hc ?_); (case h1 => walk_at "hp"); (case h2 => walk_at "hp"); (case hc => walk_at "sz"))
  | ((with_reducible refine sl_strU ?hc ?_); (case hc => walk_at "sz"))
  | ((with_reducible refine sl_lst (xs := ?xs) ?h1 ?_); (case h1 => walk_at "hp"))
  | (with_reducible refine is_bl ?_)
  | (with_reducible refine isnt_bl ?_)
  | (with_reducible refine is_non ?_)
  | (with_reducible refine isnt_non ?_))
local macro_rules | `(tactic| walk_at "rdc") => `(tactic| first
  | ((with_reducible refine len_lst (xs := ?xs) ?h1 ?_); (case h1 => walk_at "hp"))
  | ((with_reducible refine len_tup (xs := ?xs) ?h1 ?_); (case h1 => walk_at "hp"))
  | ((with_reducible refine len_str ?hc ?_); (case hc => walk_at "sz"))
  | (with_reducible refine int_int ?_)
  | (with_reducible refine max_int ?_)
  | (with_reducible refine min_int ?_)
  | (with_reducible refine abs_int ?_)
  | (with_reducible refine isi_ii ?_)
  | (with_reducible refine isi_ib ?_)
  | (with_reducible refine isi_ss ?_)
  | (with_reducible refine isi_bb ?_)
  | ((with_reducible refine isi_tt (xs := ?xs) ?h1 ?_); (case h1 => walk_at "hp"))
  | ((with_reducible refine isi_ll (xs := ?xs) ?h1 ?_); (case h1 => walk_at "hp"))
  | ((with_reducible refine list_lst (xs := ?xs) ?h1 ?_); (case h1 => walk_at "hp"))
  | ((with_reducible refine list_tup (xs := ?xs) ?h1 ?_); (case h1 => walk_at "hp"))
  | ((with_reducible refine tuple_lst (xs := ?xs) ?h1 ?_); (case h1 => walk_at "hp"))
  | ((with_reducible refine tuple_tup (xs := ?xs) ?h1 ?_); (case h1 => walk_at "hp"))
  | ((with_reducible refine append_lst (xs := ?xs) ?h1 ?hc ?_); (case h1 => walk_at "hp"); (case hc => walk_at "sz"))
  | ((with_reducible refine clear_lst (xs := ?xs) ?h1 ?_); (case h1 => walk_at "hp"))
  | ((with_reducible refine set_lst (xs := ?xs) (k := ?k) ?h1 ?h2 ?_); (case h1 => walk_at "hp"); (case h2 => walk_at "at")))
local macro_rules | `(tactic| walk_at "rd1") => `(tactic| first
  | ((with_reducible refine rVar (v := ?v) ?h ?_); (case h => exact rfl))
  | (with_reducible refine rC ?_)
  | (with_reducible refine rCons ?_)
  | (with_reducible refine rNil ?_)
  | (with_reducible refine rOp ?_)
  | (with_reducible refine rSeq ?_)
  | (with_reducible refine rAsgN ?_)
  | (with_reducible refine rAsgT ?_)
  | (with_reducible refine rAsgS ?_)
  | (with_reducible refine rTest ?_)
  | (with_reducible refine rBl ?_)
  | (with_reducible refine rBl' ?_)
  | (with_reducible refine rInt ?_)
  | (with_reducible refine rInt' ?_)
  | (with_reducible refine rCall ?_)
  | (with_reducible refine rCB ?_)
  | (with_reducible refine rRet ?_)
  | (with_reducible refine rDrop ?_)
  | (with_reducible refine rIfS ?_)
  | (with_reducible refine rTup ?_)
  | (with_reducible refine rLst ?_)
  | (with_reducible refine ⟨Nat.le_of_ble_eq_true rfl, ?_⟩)
  | (with_reducible refine rSl ?_)
  | (with_reducible refine rPart ?_)
  | (with_reducible refine rNoPart ?_)
  | (with_reducible refine rBM ?_)
  | (with_reducible refine rBM0 ?_)
  | ((with_reducible refine tyL (xs := ?xs) ?h1 ?_); (case h1 => walk_at "hp"))
  | (with_reducible refine rM1 ?_)
  | (with_reducible refine rM0 ?_)
  | (with_reducible refine rStr ?_)
  | (with_reducible refine rTru ?_)
  | (with_reducible refine tru_bl ?_)
  | (with_reducible refine tru_int ?_)
  | ((with_reducible refine tru_lst (xs := ?xs) ?h1 ?_); (case h1 => walk_at "hp"))
  | ((with_reducible refine tru_tup (xs := ?xs) ?h1 ?_); (case h1 => walk_at "hp"))
  | ((with_reducible refine tru_str ?hc ?_); (case hc => walk_at "sz"))
  | (with_reducible refine rAnd ?_)
  | (with_reducible refine rOr ?_)
  | (with_reducible refine rNot ?_)
  | (with_reducible refine rAndV ?_)
  | (with_reducible refine rOrV ?_)
  | (with_reducible refine rNotV ?_)
  | (with_reducible refine rIfE ?_)
  | (with_reducible refine rChain ?_)
  | (with_reducible refine rChain3 ?_)
  | (with_reducible refine ifT ?_)
  | (with_reducible refine ifF ?_)
  | (with_reducible refine ifNF ?_)
  | (with_reducible refine ifNT ?_)
  | (with_reducible refine rNext ?_)
  | (with_reducible refine rBrk ?_)
  | (with_reducible refine rCnt ?_)
  | (with_reducible refine rRetN ?_)
  | (with_reducible refine rForR1 ?_)
  | (with_reducible refine rForR2 ?_)
  | (with_reducible refine rForL ?_)
  | ((with_reducible refine rRg1 ?hb ?_); (case hb => walk_at "nn"))
  | ((with_reducible refine rRg2 ?hb ?_); (case hb => walk_at "nn"))
  | ((with_reducible refine rRf (xs := ?xs) ?h1 ?_); (case h1 => walk_at "hp"))
  | (with_reducible refine rLcR1 ?_)
  | (with_reducible refine rLcR2 ?_)
  | (with_reducible refine rLcL ?_)
  | (with_reducible refine gN ?_)
  | (with_reducible refine gNl ?_)
  | (with_reducible refine gC ?_)
  | ((with_reducible refine gT (xs := ?xs) ?h1 ?h2 ?_); (case h1 => walk_at "hp"); (case h2 => exact rfl))
  | (with_reducible refine rUn ?_)
  | walk_at "rdv"
  | walk_at "rdc")
local macro_rules | `(tactic| walk_at "rd") => `(tactic| repeat walk_at "rd1")

def sp_law_signs : Sp := fun vs H Q _ => vs = [] ∧ ∀ z : Str, 0 < z.length ∧ z.length ≤ 200 ∧ Ok z → Q (.str z) H
theorem use_signs {H : Hp} {Q : VK} {E : XK} (h : ∀ z : Str, 0 < z.length ∧ z.length ≤ 200 ∧ Ok z → Q (.str z) H) : sp_law_signs [] H Q E := ⟨rfl, h⟩
def sp_law_stepped : Sp := fun vs H Q _ => ∃ (r : Addr) (n : Int), vs = [.ref r, .int n] ∧ Reel H r ∧ 0 ≤ n ∧ n ≤ 5000 ∧ ∀ (x : Str) (H' : Hp), (x.length : Int) = n → Ok x → SL r H H' → Reel H' r → Q (.str x) H'
theorem use_stepped {r : Addr} {n : Int} {H : Hp} {Q : VK} {E : XK} (hR : Reel H r) (hn : 0 ≤ n ∧ n ≤ 5000) (h : ∀ (x : Str) (H' : Hp), (x.length : Int) = n → Ok x → SL r H H' → Reel H' r → Q (.str x) H') : sp_law_stepped [.ref r, .int n] H Q E := ⟨r, n, rfl, hR, hn.1, hn.2, h⟩
/-- a drawn text of a bounded length -/
def spTxt (m : Nat) : Sp := fun vs H Q _ => ∃ (r : Addr), vs = [.ref r] ∧ Reel H r ∧ ∀ (x : Str) (H' : Hp), x.length ≤ m → Ok x → SL r H H' → Reel H' r → Q (.str x) H'
abbrev sp_law_text : Sp := spTxt 2000
abbrev sp_law_new : Sp := spTxt 300
theorem use_txt {m : Nat} {r : Addr} {H : Hp} {Q : VK} {E : XK} (hR : Reel H r) (h : ∀ (x : Str) (H' : Hp), x.length ≤ m → Ok x → SL r H H' → Reel H' r → Q (.str x) H') : spTxt m [.ref r] H Q E := ⟨r, rfl, hR, h⟩
theorem ones : ∀ ys : List Str, (∀ y ∈ ys, y.length = 1 ∧ Ok y) → (ys.map (·.length)).sum = ys.length ∧ ((ys.map TL.tl).flatten).length = ys.length := by
  intro ys
  induction ys with
  | nil => intro _; exact ⟨rfl, rfl⟩
  | cons y ys ih =>
    intro h
    obtain ⟨e1, e2⟩ := ih fun q hq => h q (List.mem_cons_of_mem _ hq)
    have e := (h y (List.mem_cons_self ..)).1
    refine ⟨?_, ?_⟩
    · rw [List.map_cons, List.sum_cons, e1, e]; show 1 + ys.length = ys.length + 1; omega
    · rw [List.map_cons, List.flatten_cons, List.length_append, e2, ← TL.len_tl, e]; show 1 + ys.length = ys.length + 1; omega
section
variable {P : Program} {w : World} {K : PySem.W.Frag} {mg : Str → Option Value} {base : Heap}
end
end Z
namespace Z
open PySem PySem.Spec L2

/-! ## paired lists -/
section
variable {α β : Type} {F G : α → β → Prop}
theorem Paired.len : ∀ {xs : List α} {ys : List β}, Paired F xs ys → xs.length = ys.length
  | _, _, .nil => rfl
  | _, _, .cons _ t => congrArg Nat.succ (Paired.len t)
theorem Paired.imp (f : ∀ a b, F a b → G a b) : ∀ {xs : List α} {ys : List β}, Paired F xs ys → Paired G xs ys
  | _, _, .nil => .nil
  | _, _, .cons r t => .cons (f _ _ r) (Paired.imp f t)
theorem Paired.app : ∀ {xs xs' : List α} {ys ys' : List β}, Paired F xs ys → Paired F xs' ys' → Paired F (xs ++ xs') (ys ++ ys')
  | _, _, _, _, .nil, h => h
  | _, _, _, _, .cons r t, h => .cons r (Paired.app t h)
theorem Paired.snoc {xs : List α} {ys : List β} {x : α} {y : β} (h : Paired F xs ys) (r : F x y) : Paired F (xs ++ [x]) (ys ++ [y]) := Paired.app h (.cons r .nil)
theorem Paired.tk : ∀ (n : Nat) {xs : List α} {ys : List β}, Paired F xs ys → Paired F (xs.take n) (ys.take n)
  | 0, _, _, _ => by rw [List.take_zero, List.take_zero]; exact .nil
  | _ + 1, _, _, .nil => .nil
  | n + 1, _, _, .cons r t => .cons r (Paired.tk n t)
theorem Paired.dr : ∀ (n : Nat) {xs : List α} {ys : List β}, Paired F xs ys → Paired F (xs.drop n) (ys.drop n)
  | 0, _, _, h => h
  | _ + 1, _, _, .nil => .nil
  | n + 1, _, _, .cons _ t => Paired.dr n t
theorem Paired.cut {xs : List α} {ys : List β} (h : Paired F xs ys) (lo hi : Option Int) : Paired F (cut xs lo hi) (cut ys lo hi) := by
  unfold Z.cut
  rw [Paired.len h]
  exact Paired.tk _ (Paired.dr _ h)
theorem Paired.rev : ∀ {xs : List α} {ys : List β}, Paired F xs ys → Paired F xs.reverse ys.reverse
  | _, _, .nil => .nil
  | _, _, .cons r t => by rw [List.reverse_cons, List.reverse_cons]; exact Paired.snoc (Paired.rev t) r
theorem Paired.at : ∀ {xs : List α} {ys : List β} {i : Nat} {x : α}, Paired F xs ys → xs[i]? = some x → ∃ y, ys[i]? = some y ∧ F x y
  | _, _, _, _, .nil, e => by simp at e
  | _, _, 0, x, .cons r _, e => by simp at e; subst e; exact ⟨_, rfl, r⟩
  | _, _, i + 1, x, .cons _ t, e => by
    obtain ⟨u, h1, h2⟩ := Paired.at (i := i) (x := x) t (by simpa using e)
    exact ⟨u, by simpa using h1, h2⟩
theorem Paired.at' : ∀ {xs : List α} {ys : List β} {i : Nat} {y : β}, Paired F xs ys → ys[i]? = some y → ∃ x, xs[i]? = some x ∧ F x y
  | _, _, _, _, .nil, e => by simp at e
  | _, _, 0, x, .cons r _, e => by simp at e; subst e; exact ⟨_, rfl, r⟩
  | _, _, i + 1, x, .cons _ t, e => by
    obtain ⟨u, h1, h2⟩ := Paired.at' (i := i) (y := x) t (by simpa using e)
    exact ⟨u, by simpa using h1, h2⟩
end

theorem Paired.last {α β : Type} {F : α → β → Prop} {x : α} : ∀ {xs : List α} {ys : List β}, Paired F (xs ++ [x]) ys → ∃ ys' y, ys = ys' ++ [y] ∧ Paired F xs ys' ∧ F x y
  | [], _, .cons r .nil => ⟨[], _, rfl, .nil, r⟩
  | a :: xs, _, .cons r t => by
    obtain ⟨ys', y, e, h, q⟩ := Paired.last (xs := xs) t
    exact ⟨_ :: ys', y, by rw [e]; rfl, .cons r h, q⟩
/-! ## edits -/
structure Ed where
  s : Int
  e : Int
  n : Str
deriving DecidableEq
def EdAt (H : Hp) (v : V) (x : Ed) : Prop := ∃ p, v = .ref p ∧ H p = some (.tup [.int x.s, .int x.e, .str x.n])
abbrev Edits (H : Hp) : List V → List Ed → Prop := Paired (EdAt H)
/-- tuples stay -/
def TpS (H H' : Hp) : Prop := ∀ p xs, H p = some (.tup xs) → H' p = some (.tup xs)
theorem TpS.same {H H' : Hp} (s : Same H H') : TpS H H' := fun _ _ e => s _ _ e
theorem TpS.sl {l : Addr} {H H' : Hp} (s : SL l H H') : TpS H H' := fun _ _ e => s.tup e
theorem TpS.trans {H H1 H2 : Hp} (a : TpS H H1) (b : TpS H1 H2) : TpS H H2 := fun p xs e => b p xs (a p xs e)
theorem EdAt.ts {H H' : Hp} {v : V} {x : Ed} (s : TpS H H') (h : EdAt H v x) : EdAt H' v x := let ⟨p, e, q⟩ := h; ⟨p, e, s _ _ q⟩
theorem Edits.ts {H H' : Hp} {vs : List V} {es : List Ed} (s : TpS H H') (h : Edits H vs es) : Edits H' vs es := Paired.imp (fun _ _ r => r.ts s) h

/-- it fits a text of this size -/
abbrev fit1 (sz : Int) (x : Ed) : Prop := 0 ≤ x.s ∧ x.s ≤ x.e ∧ x.e ≤ sz
/-- the size behind it -/
abbrev nsz (sz : Int) (x : Ed) : Int := sz - (x.e - x.s) + x.n.length
def fits : Int → List Ed → Prop
  | _, [] => True
  | sz, x :: xs => fit1 sz x ∧ fits (nsz sz x) xs
def sza (sz : Int) (es : List Ed) : Int := es.foldl nsz sz
theorem sza_snoc (sz : Int) (es : List Ed) (x : Ed) : sza sz (es ++ [x]) = nsz (sza sz es) x := by
  unfold sza
  rw [List.foldl_append]
  rfl
theorem fits_app : ∀ {sz : Int} {es fs : List Ed}, fits sz (es ++ fs) ↔ fits sz es ∧ fits (sza sz es) fs
  | sz, [], fs => ⟨fun h => ⟨trivial, h⟩, fun h => h.2⟩
  | sz, x :: es, fs => by
    show fit1 sz x ∧ fits (nsz sz x) (es ++ fs) ↔ (fit1 sz x ∧ fits (nsz sz x) es) ∧ fits (sza (nsz sz x) es) fs
    rw [fits_app]
    constructor
    · rintro ⟨a, b, c⟩; exact ⟨⟨a, b⟩, c⟩
    · rintro ⟨⟨a, b⟩, c⟩; exact ⟨a, b, c⟩
theorem fits_snoc {sz : Int} {es : List Ed} {x : Ed} (h : fits sz es) (h1 : fit1 (sza sz es) x) : fits sz (es ++ [x]) := fits_app.mpr ⟨h, h1, trivial⟩
theorem fits_take {sz : Int} {es : List Ed} (h : fits sz es) (k : Nat) : fits sz (es.take k) := by
  have e := List.take_append_drop k es
  rw [← e] at h
  exact (fits_app.mp h).1
/-- the place of the first that does not fit, or -1 -/
def fuAt : Int → List Ed → Nat → Int
  | _, [], _ => -1
  | sz, x :: xs, k => if fit1 sz x then fuAt (nsz sz x) xs (k + 1) else k
def fu (sz : Int) (es : List Ed) : Int := fuAt sz es 0
theorem fuAt_cases : ∀ (es : List Ed) (sz : Int) (k : Nat), (fuAt sz es k = -1 ∧ fits sz es) ∨ ∃ j, j < es.length ∧ fuAt sz es k = ((k + j : Nat) : Int) ∧ fits sz (es.take j) ∧ ¬ fits sz (es.take (j + 1))
  | [], sz, k => .inl ⟨rfl, trivial⟩
  | x :: xs, sz, k => by
    by_cases c : fit1 sz x
    · rcases fuAt_cases xs (nsz sz x) (k + 1) with ⟨h1, h2⟩ | ⟨j, h0, h1, h2, h3⟩
      · exact .inl ⟨by unfold fuAt; rw [if_pos c]; exact h1, c, h2⟩
      · refine .inr ⟨j + 1, by simpa using h0, ?_, ⟨c, h2⟩, fun h => h3 h.2⟩
        unfold fuAt
        rw [if_pos c, h1]
        omega
    · refine .inr ⟨0, by simp, ?_, by rw [List.take_zero]; exact trivial, fun h => c h.1⟩
      unfold fuAt
      rw [if_neg c]
      simp
theorem fu_cases (sz : Int) (es : List Ed) : (fu sz es = -1 ∧ fits sz es) ∨ ∃ j, j < es.length ∧ fu sz es = ((j : Nat) : Int) ∧ fits sz (es.take j) ∧ ¬ fits sz (es.take (j + 1)) := by
  have h := fuAt_cases es sz 0
  simpa [fu] using h
theorem fu_fits {sz : Int} {es : List Ed} (h : fits sz es) : fu sz es = -1 := by
  rcases fu_cases sz es with ⟨h1, _⟩ | ⟨j, _, _, _, h3⟩
  · exact h1
  · exact absurd (fits_take h _) h3
theorem drop_cons {α : Type} {l : List α} {i : Nat} {x : α} (h : l[i]? = some x) : l.drop i = x :: l.drop (i + 1) := by
  obtain ⟨h1, e⟩ := List.getElem?_eq_some_iff.mp h
  rw [List.drop_eq_getElem_cons h1, e]
theorem take_snoc {α : Type} {l : List α} {i : Nat} {x : α} (h : l[i]? = some x) : l.take (i + 1) = l.take i ++ [x] := by
  obtain ⟨h1, e⟩ := List.getElem?_eq_some_iff.mp h
  rw [List.take_add_one, h]
  rfl
/-- one step of the search -/
theorem fu_step {sz z : Int} {es : List Ed} {i : Nat} {x : Ed} (h : es[i]? = some x) (e : fu sz es = fuAt z (es.drop i) i) : fu sz es = if fit1 z x then fuAt (nsz z x) (es.drop (i + 1)) (i + 1) else (i : Int) := by
  rw [e, drop_cons h]
  rfl
theorem fu_end {sz z : Int} {es : List Ed} (e : fu sz es = fuAt z (es.drop es.length) es.length) : fu sz es = -1 := by
  rw [e, List.drop_length]
  rfl

/-! ## texts under edits -/
abbrev Nm (x : Ed) : Prop := x.n.length ≤ 2000 ∧ Ok x.n
def ap (t : Str) (x : Ed) : Str := cutS t none (some x.s) ++ x.n ++ cutS t (some x.e) none
def aps (t : Str) (es : List Ed) : Str := es.foldl ap t
theorem Ok.ap {t : Str} {x : Ed} (h : Ok t) (h' : Ok x.n) : Ok (ap t x) := ((h.cut _ _).app h').app (h.cut _ _)
theorem Ok.aps : ∀ {es : List Ed} {t : Str}, Ok t → (∀ x ∈ es, Ok x.n) → Ok (aps t es)
  | [], _, h, _ => h
  | x :: es, t, h, hn => Ok.aps (es := es) (h.ap (hn x (List.mem_cons_self ..))) fun y hy => hn y (List.mem_cons_of_mem _ hy)
theorem aps_snoc (t : Str) (es : List Ed) (x : Ed) : aps t (es ++ [x]) = ap (aps t es) x := by
  unfold aps
  rw [List.foldl_append]
  rfl
theorem tl_ap {t : Str} {x : Ed} (h : fit1 t.length x) : TL.tl (ap t x) = (TL.tl t).take x.s.toNat ++ TL.tl x.n ++ (TL.tl t).drop x.e.toNat := by
  unfold ap
  rw [TL.tl_append, TL.tl_append, tl_cutS, tl_cutS, cut_to h.1, cut_from (by omega)]
theorem len_ap {t : Str} {x : Ed} (h : fit1 t.length x) : ((ap t x).length : Int) = nsz t.length x := by
  have hl := TL.len_tl t
  rw [TL.len_tl, tl_ap h, List.length_append, List.length_append, List.length_take, List.length_drop, ← TL.len_tl t, ← TL.len_tl x.n]
  unfold nsz
  omega
theorem len_aps : ∀ {es : List Ed} {t : Str}, fits t.length es → ((aps t es).length : Int) = sza t.length es
  | [], _, _ => rfl
  | x :: es, t, h => by
    have e := len_ap h.1
    show ((aps (ap t x) es).length : Int) = sza (nsz t.length x) es
    rw [len_aps (es := es) (t := ap t x) (by rw [e]; exact h.2), e]
/-- what is asked of a list of edits beside: few, and none puts in much -/
structure Small (es : List Ed) : Prop where
  len : es.length ≤ 400
  new : ∀ x ∈ es, Nm x
theorem Small.take {es : List Ed} (h : Small es) (k : Nat) : Small (es.take k) := ⟨by rw [List.length_take]; have := h.len; omega, fun x hx => h.new x (List.mem_of_mem_take hx)⟩
theorem sza_le : ∀ {es : List Ed} {sz : Int}, fits sz es → (∀ x ∈ es, x.n.length ≤ 2000) → sza sz es ≤ sz + 2000 * es.length
  | [], sz, _, _ => by show sz ≤ _; simp
  | x :: es, sz, h, hn => by
    have h1 := sza_le (es := es) h.2 (fun y hy => hn y (List.mem_cons_of_mem _ hy))
    have h2 := hn x (List.mem_cons_self ..)
    have h3 := h.1
    show sza (nsz sz x) es ≤ _
    rw [List.length_cons]
    have : nsz sz x ≤ sz + 2000 := by unfold nsz; omega
    omega
theorem sza_nonneg : ∀ {es : List Ed} {sz : Int}, 0 ≤ sz → fits sz es → 0 ≤ sza sz es
  | [], _, h, _ => h
  | x :: es, sz, h, hf => by
    have h3 := hf.1
    exact sza_nonneg (es := es) (by unfold nsz; omega) hf.2
end Z
namespace Z
open PySem PySem.Spec L2
local macro_rules | `(tactic| walk_at "ne") => `(tactic| first
  | with_reducible assumption
  | with_reducible exact Ne.symm (by assumption)
  | exact Frs.ne (by with_reducible assumption) (by walk_at "hp")
  | exact Frs.ne' (by with_reducible assumption) (by walk_at "hp"))
local macro_rules | `(tactic| walk_at "hp") => `(tactic| first
  | with_reducible assumption
  | (with_reducible refine Same.at (by assumption) ?_; walk_at "hp")
  | (with_reducible refine SL.tup (by assumption) ?_; walk_at "hp")
  | (with_reducible refine SL.at (by assumption) (by walk_at "ne") ?_; walk_at "hp"))
local macro_rules | `(tactic| walk_at "sz") => `(tactic| first
  | with_reducible assumption
  | exact Nat.le_of_ble_eq_true rfl
  | (refine sz_le ?_; omega)
  | (refine sz_lt ?_; omega)
  | decide +kernel)
local macro_rules | `(tactic| walk_at "at") => `(tactic| first
  | with_reducible assumption
  | with_reducible exact at0
  | with_reducible exact at1
  | with_reducible exact at2
  | with_reducible exact ixN0)
local macro_rules | `(tactic| walk_at "nn") => `(tactic| first
  | omega
  | decide
  | exact ⟨by decide, by decide⟩
  | exact ⟨by omega, by omega⟩
  | exact ⟨by omega, by omega, by omega, by omega⟩)
local macro_rules | `(tactic| walk_at "rdv") => `(tactic| first
  | (with_reducible refine add_int ?_)
  | (with_reducible refine sub_int ?_)
  | (with_reducible refine neg_int ?_)
  | ((with_reducible refine ix_tpl (xs := ?xs) (v := ?v) ?h1 ?h2 ?_); (case h1 => walk_at "hp"); (case h2 => walk_at "at"))
  | ((with_reducible refine ix_lst (xs := ?xs) (v := ?v) ?h1 ?h2 ?_); (case h1 => walk_at "hp"); (case h2 => walk_at "at"))
  | (with_reducible refine eq_int ?_)
  | (with_reducible refine ne_int ?_)
  | (with_reducible refine lt_int ?_)
  | (with_reducible refine le_int ?_)
  | (with_reducible refine gt_int ?_)
  | (with_reducible refine ge_int ?_)
  | (with_reducible refine eq_str ?_)
  | (with_reducible refine ne_str ?_)
  | (with_reducible refine eq_bl ?_)
  | (with_reducible refine ne_bl ?_)
  | ((with_reducible refine mod_int ?hc ?_); (case hc => walk_at "nn"))
  | ((with_reducible refine div_int ?hc ?_); (case hc => walk_at "nn"))
  | ((with_reducible refine mul_intR ?hc ?_); (case hc => exact ⟨by decide, by decide⟩))
  | ((with_reducible refine mul_intR ?hc ?_); (case hc => exact ⟨by omega, by omega⟩))
  | ((with_reducible refine mul_intL ?hc ?_); (case hc => exact ⟨by omega, by omega⟩))
  | ((with_reducible refine pow_int ?hc ?_); (case hc => exact ⟨by decide, by decide, by decide⟩))
  | ((with_reducible refine add_str ?hc ?_); (case hc => walk_at "sz"))
  | ((with_reducible refine add_lst (xs := ?xs) (ys := ?ys) ?h1 ?h2 ?hc ?_); (case h1 => walk_at "hp"); (case h2 => walk_at "hp"); (case hc => walk_at "sz"))
  | ((with_reducible refine sl_strU ?hc ?_); (case hc => walk_at "sz"))
  | ((with_reducible refine sl_lst (xs := ?xs) ?h1 ?_); (case h1 => walk_at "hp"))
  | (with_reducible refine is_bl ?_)
  | (with_reducible refine isnt_bl ?_)
  | (with_reducible refine is_non ?_)
  | (with_reducible refine isnt_non ?_))
local macro_rules | `(tactic| walk_at "rdc") => `(tactic| first
  | ((with_reducible refine len_lst (xs := ?xs) ?h1 ?_); (case h1 => walk_at "hp"))
  | ((with_reducible refine len_tup (xs := ?xs) ?h1 ?_); (case h1 => walk_at "hp"))
  | ((with_reducible refine len_str ?hc ?_); (case hc => walk_at "sz"))
  | (with_reducible refine int_int ?_)
  | (with_reducible refine max_int ?_)
  | (with_reducible refine min_int ?_)
  | (with_reducible refine abs_int ?_)
  | (with_reducible refine isi_ii ?_)
  | (with_reducible refine isi_ib ?_)
  | (with_reducible refine isi_ss ?_)
  | (with_reducible refine isi_bb ?_)
  | ((with_reducible refine isi_tt (xs := ?xs) ?h1 ?_); (case h1 => walk_at "hp"))
  | ((with_reducible refine isi_ll (xs := ?xs) ?h1 ?_); (case h1 => walk_at "hp"))
  | ((with_reducible refine list_lst (xs := ?xs) ?h1 ?_); (case h1 => walk_at "hp"))
  | ((with_reducible refine list_tup (xs := ?xs) ?h1 ?_); (case h1 => walk_at "hp"))
  | ((with_reducible refine tuple_lst (xs := ?xs) ?h1 ?_); (case h1 => walk_at "hp"))
  | ((with_reducible refine tuple_tup (xs := ?xs) ?h1 ?_); (case h1 => walk_at "hp"))
  | ((with_reducible refine append_lst (xs := ?xs) ?h1 ?hc ?_); (case h1 => walk_at "hp"); (case hc => walk_at "sz"))
  | ((with_reducible refine clear_lst (xs := ?xs) ?h1 ?_); (case h1 => walk_at "hp"))
  | ((with_reducible refine set_lst (xs := ?xs) (k := ?k) ?h1 ?h2 ?_); (case h1 => walk_at "hp"); (case h2 => walk_at "at")))
local macro_rules | `(tactic| walk_at "rd1") => `(tactic| first
  | ((with_reducible refine rVar (v := ?v) ?h ?_); (case h => exact rfl))
  | (with_reducible refine rC ?_)
  | (with_reducible refine rCons ?_)
  | (with_reducible refine rNil ?_)
  | (with_reducible refine rOp ?_)
  | (with_reducible refine rSeq ?_)
  | (with_reducible refine rAsgN ?_)
  | (with_reducible refine rAsgT ?_)
  | (with_reducible refine rAsgS ?_)
  | (with_reducible refine rTest ?_)
  | (with_reducible refine rBl ?_)
  | (with_reducible refine rBl' ?_)
  | (with_reducible refine rInt ?_)
  | (with_reducible refine rInt' ?_)
  | (with_reducible refine rCall ?_)
  | (with_reducible refine rCB ?_)
  | (with_reducible refine rRet ?_)
  | (with_reducible refine rDrop ?_)
  | (with_reducible refine rIfS ?_)
  | (with_reducible refine rTup ?_)
  | (with_reducible refine rLst ?_)
  | (with_reducible refine ⟨Nat.le_of_ble_eq_true rfl, ?_⟩)
  | (with_reducible refine rSl ?_)
  | (with_reducible refine rPart ?_)
  | (with_reducible refine rNoPart ?_)
  | (with_reducible refine rBM ?_)
  | (with_reducible refine rBM0 ?_)
  | ((with_reducible refine tyL (xs := ?xs) ?h1 ?_); (case h1 => walk_at "hp"))
  | (with_reducible refine rM1 ?_)
  | (with_reducible refine rM0 ?_)
  | (with_reducible refine rStr ?_)
  | (with_reducible refine rTru ?_)
  | (with_reducible refine tru_bl ?_)
  | (with_reducible refine tru_int ?_)
  | ((with_reducible refine tru_lst (xs := ?xs) ?h1 ?_); (case h1 => walk_at "hp"))
  | ((with_reducible refine tru_tup (xs := ?xs) ?h1 ?_); (case h1 => walk_at "hp"))
  | ((with_reducible refine tru_str ?hc ?_); (case hc => walk_at "sz"))
  | (with_reducible refine rAnd ?_)
  | (with_reducible refine rOr ?_)
  | (with_reducible refine rNot ?_)
  | (with_reducible refine rAndV ?_)
  | (with_reducible refine rOrV ?_)
  | (with_reducible refine rNotV ?_)
  | (with_reducible refine rIfE ?_)
  | (with_reducible refine rChain ?_)
  | (with_reducible refine rChain3 ?_)
  | (with_reducible refine ifT ?_)
  | (with_reducible refine ifF ?_)
  | (with_reducible refine ifNF ?_)
  | (with_reducible refine ifNT ?_)
  | (with_reducible refine rNext ?_)
  | (with_reducible refine rBrk ?_)
  | (with_reducible refine rCnt ?_)
  | (with_reducible refine rRetN ?_)
  | (with_reducible refine rForR1 ?_)
  | (with_reducible refine rForR2 ?_)
  | (with_reducible refine rForL ?_)
  | ((with_reducible refine rRg1 ?hb ?_); (case hb => walk_at "nn"))
  | ((with_reducible refine rRg2 ?hb ?_); (case hb => walk_at "nn"))
  | ((with_reducible refine rRf (xs := ?xs) ?h1 ?_); (case h1 => walk_at "hp"))
  | (with_reducible refine rLcR1 ?_)
  | (with_reducible refine rLcR2 ?_)
  | (with_reducible refine rLcL ?_)
  | (with_reducible refine gN ?_)
  | (with_reducible refine gNl ?_)
  | (with_reducible refine gC ?_)
  | ((with_reducible refine gT (xs := ?xs) ?h1 ?h2 ?_); (case h1 => walk_at "hp"); (case h2 => exact rfl))
  | (with_reducible refine rUn ?_)
  | walk_at "rdv"
  | walk_at "rdc")
local macro_rules | `(tactic| walk_at "rd") => `(tactic| repeat walk_at "rd1")

/-- a list of edits, as it comes of a def -/
def sp_law_edit_row : Sp := fun vs H Q _ => ∃ (r : Addr) (t : Str) (n : Int), vs = [.ref r, .str t, .int n] ∧ Reel H r ∧ t.length ≤ 5000 ∧ Ok t ∧ 0 ≤ n ∧ n ≤ 300 ∧
  ∀ (p : Addr) (us : List V) (es : List Ed) (H' : Hp), SL r H H' → Reel H' r → Frs H p → H' p = some (.lst us) → Edits H' us es → es.length = n.toNat → (∀ x ∈ es, Nm x) → fits t.length es → sza t.length es ≤ 5000 → (∀ k, sza t.length (es.take k) ≤ 5000) → Q (.ref p) H'
theorem use_edit_row {r : Addr} {t : Str} {n : Int} {H : Hp} {Q : VK} {E : XK} (hR : Reel H r) (ht : t.length ≤ 5000 ∧ Ok t) (hn : 0 ≤ n ∧ n ≤ 300)
    (h : ∀ (p : Addr) (us : List V) (es : List Ed) (H' : Hp), SL r H H' → Reel H' r → Frs H p → H' p = some (.lst us) → Edits H' us es → es.length = n.toNat → (∀ x ∈ es, Nm x) → fits t.length es → sza t.length es ≤ 5000 → Q (.ref p) H') :
    sp_law_edit_row [.ref r, .str t, .int n] H Q E := ⟨r, t, n, rfl, hR, ht.1, ht.2, hn.1, hn.2, fun p us es H' h1 h2 h3 h4 h5 h6 h7 h8 h9 _ => h p us es H' h1 h2 h3 h4 h5 h6 h7 h8 h9⟩
theorem use_edit_rowK {r : Addr} {t : Str} {n : Int} {H : Hp} {Q : VK} {E : XK} (hR : Reel H r) (ht : t.length ≤ 5000 ∧ Ok t) (hn : 0 ≤ n ∧ n ≤ 300)
    (h : ∀ (p : Addr) (us : List V) (es : List Ed) (H' : Hp), SL r H H' → Reel H' r → Frs H p → H' p = some (.lst us) → Edits H' us es → es.length = n.toNat → (∀ x ∈ es, Nm x) → fits t.length es → (∀ k, sza t.length (es.take k) ≤ 5000) → Q (.ref p) H') :
    sp_law_edit_row [.ref r, .str t, .int n] H Q E := ⟨r, t, n, rfl, hR, ht.1, ht.2, hn.1, hn.2, fun p us es H' h1 h2 h3 h4 h5 h6 h7 h8 _ h9 => h p us es H' h1 h2 h3 h4 h5 h6 h7 h8 h9⟩
section
variable {P : Program} {w : World} {K : PySem.W.Frag} {mg : Str → Option Value} {base : Heap}
end
end Z
namespace Z
open PySem PySem.Spec L2
/-! ## planted edits do not fit -/
/-- the list begins as es, up to an edit that does not fit there -/
def Spoilt (sz : Int) (es es' : List Ed) : Prop := ∃ (j : Nat) (x : Ed), es'.take j = es.take j ∧ es'[j]? = some x ∧ ¬ fit1 (sza sz (es.take j)) x
theorem Spoilt.unfit {sz : Int} {es es' : List Ed} (h : Spoilt sz es es') : ¬ fits sz es' := fun hf => by
  obtain ⟨j, x, h1, h2, h3⟩ := h
  have h4 := fits_take hf (j + 1)
  rw [take_snoc h2, h1] at h4
  exact h3 (fits_app.mp h4).2.1
theorem Spoilt.pre {sz : Int} {es es' : List Ed} (h : Spoilt sz es es') {k : Nat} (hf : fits sz (es'.take k)) : es'.take k = es.take k := by
  obtain ⟨j, x, h1, h2, h3⟩ := h
  by_cases c : k ≤ j
  · have := congrArg (List.take k) h1
    rw [List.take_take, List.take_take, Nat.min_eq_left c] at this
    exact this
  · refine absurd ?_ h3
    have h4 := fits_take hf (j + 1)
    rw [List.take_take, Nat.min_eq_left (by omega), take_snoc h2, h1] at h4
    exact (fits_app.mp h4).2.1
theorem spoil {sz : Int} {es es' : List Ed} {d : Nat} {x : Ed} (h : es' = es ∧ d ≤ es.length ∨ Spoilt sz es es') (hx : ¬ fit1 (sza sz (es.take d)) x) : Spoilt sz es (es'.take d ++ [x] ++ es'.drop (d + 1)) := by
  have here : es'.take d = es.take d → (es'.take d).length = d → Spoilt sz es (es'.take d ++ [x] ++ es'.drop (d + 1)) := fun e l => by
    refine ⟨d, x, ?_, ?_, hx⟩
    · rw [List.append_assoc, List.take_left' l, e]
    · rw [List.append_assoc, List.getElem?_append_right (by omega), l, Nat.sub_self]
      rfl
  rcases h with ⟨rfl, hd⟩ | ⟨j, y, h1, h2, h3⟩
  · exact here rfl (by rw [List.length_take]; omega)
  · have hj := (List.getElem?_eq_some_iff.mp h2).1
    by_cases c : d ≤ j
    · refine here ?_ (by rw [List.length_take]; omega)
      have := congrArg (List.take d) h1
      rw [List.take_take, List.take_take, Nat.min_eq_left c] at this
      exact this
    · have l : j < (es'.take d).length := by rw [List.length_take]; omega
      refine ⟨j, y, ?_, ?_, h3⟩
      · rw [List.append_assoc, List.take_append_of_le_length (by omega), List.take_take, Nat.min_eq_left (by omega)]
        exact h1
      · rw [List.append_assoc, List.getElem?_append_left l, List.getElem?_take_of_lt (by omega)]
        exact h2
/-- the sizes ahead of each edit, and behind the last -/
def szs (sz : Int) (es : List Ed) (i : Nat) : List Int := (List.range (i + 1)).map fun j => sza sz (es.take j)
theorem szs_snoc (sz : Int) (es : List Ed) (i : Nat) : szs sz es (i + 1) = szs sz es i ++ [sza sz (es.take (i + 1))] := by
  unfold szs
  rw [List.range_succ, List.map_append]
  rfl
theorem szs_at {sz : Int} {es : List Ed} {i j : Nat} {n : Int} (h : (szs sz es i)[j]? = some n) : j ≤ i ∧ n = sza sz (es.take j) := by
  unfold szs at h
  rw [List.getElem?_map] at h
  by_cases c : j < i + 1
  · rw [List.getElem?_range c] at h
    exact ⟨by omega, (Option.some.inj h).symm⟩
  · rw [List.getElem?_eq_none (by rw [List.length_range]; omega)] at h
    cases h
end Z
namespace Z
open PySem PySem.Spec L2
local macro_rules | `(tactic| walk_at "ne") => `(tactic| first
  | with_reducible assumption
  | with_reducible exact Ne.symm (by assumption)
  | exact Frs.ne (by with_reducible assumption) (by walk_at "hp")
  | exact Frs.ne' (by with_reducible assumption) (by walk_at "hp"))
local macro_rules | `(tactic| walk_at "hp") => `(tactic| first
  | with_reducible assumption
  | (with_reducible refine Same.at (by assumption) ?_; walk_at "hp")
  | (with_reducible refine SL.tup (by assumption) ?_; walk_at "hp")
  | (with_reducible refine SL.at (by assumption) (by walk_at "ne") ?_; walk_at "hp"))
local macro_rules | `(tactic| walk_at "sz") => `(tactic| first
  | with_reducible assumption
  | exact Nat.le_of_ble_eq_true rfl
  | (refine sz_le ?_; omega)
  | (refine sz_lt ?_; omega)
  | decide +kernel)
local macro_rules | `(tactic| walk_at "at") => `(tactic| first
  | with_reducible assumption
  | with_reducible exact at0
  | with_reducible exact at1
  | with_reducible exact at2
  | with_reducible exact ixN0)
local macro_rules | `(tactic| walk_at "nn") => `(tactic| first
  | omega
  | decide
  | exact ⟨by decide, by decide⟩
  | exact ⟨by omega, by omega⟩
  | exact ⟨by omega, by omega, by omega, by omega⟩)
local macro_rules | `(tactic| walk_at "rdv") => `(tactic| first
  | (with_reducible refine add_int ?_)
  | (with_reducible refine sub_int ?_)
  | (with_reducible refine neg_int ?_)
  | ((with_reducible refine ix_tpl (xs := ?xs) (v := ?v) ?h1 ?h2 ?_); (case h1 => walk_at "hp"); (case h2 => walk_at "at"))
  | ((with_reducible refine ix_lst (xs := ?xs) (v := ?v) ?h1 ?h2 ?_); (case h1 => walk_at "hp"); (case h2 => walk_at "at"))
  | (with_reducible refine eq_int ?_)
  | (with_reducible refine ne_int ?_)
  | (with_reducible refine lt_int ?_)
  | (with_reducible refine le_int ?_)
  | (with_reducible refine gt_int ?_)
  | (with_reducible refine ge_int ?_)
  | (with_reducible refine eq_str ?_)
  | (with_reducible refine ne_str ?_)
  | (with_reducible refine eq_bl ?_)
  | (with_reducible refine ne_bl ?_)
  | ((with_reducible refine mod_int ?hc ?_); (case hc => walk_at "nn"))
  | ((with_reducible refine div_int ?hc ?_); (case hc => walk_at "nn"))
  | ((with_reducible refine mul_intR ?hc ?_); (case hc => exact ⟨by decide, by decide⟩))
  | ((with_reducible refine mul_intR ?hc ?_); (case hc => exact ⟨by omega, by omega⟩))
  | ((with_reducible refine mul_intL ?hc ?_); (case hc => exact ⟨by omega, by omega⟩))
  | ((with_reducible refine pow_int ?hc ?_); (case hc => exact ⟨by decide, by decide, by decide⟩))
  | ((with_reducible refine add_str ?hc ?_); (case hc => walk_at "sz"))
  | ((with_reducible refine add_lst (xs := ?xs) (ys := ?ys) ?h1 ?h2 ?hc ?_); (case h1 => walk_at "hp"); (case h2 => walk_at "hp"); (case hc => walk_at "sz"))
  | ((with_reducible refine sl_strU ?hc ?_); (case hc => walk_at "sz"))
  | ((with_reducible refine sl_lst (xs := ?xs) ?h1 ?_); (case h1 => walk_at "hp"))
  | (with_reducible refine is_bl ?_)
  | (with_reducible refine isnt_bl ?_)
  | (with_reducible refine is_non ?_)
  | (with_reducible refine isnt_non ?_))
local macro_rules | `(tactic| walk_at "rdc") => `(tactic| first
  | ((with_reducible refine len_lst (xs := ?xs) ?h1 ?_); (case h1 => walk_at "hp"))
  | ((with_reducible refine len_tup (xs := ?xs) ?h1 ?_); (case h1 => walk_at "hp"))
  | ((with_reducible refine len_str ?hc ?_); (case hc => walk_at "sz"))
  | (with_reducible refine int_int ?_)
  | (with_reducible refine max_int ?_)
  | (with_reducible refine min_int ?_)
  | (with_reducible refine abs_int ?_)
  | (with_reducible refine isi_ii ?_)
  | (with_reducible refine isi_ib ?_)
  | (with_reducible refine isi_ss ?_)
  | (with_reducible refine isi_bb ?_)
  | ((with_reducible refine isi_tt (xs := ?xs) ?h1 ?_); (case h1 => walk_at "hp"))
  | ((with_reducible refine isi_ll (xs := ?xs) ?h1 ?_); (case h1 => walk_at "hp"))
  | ((with_reducible refine list_lst (xs := ?xs) ?h1 ?_); (case h1 => walk_at "hp"))
  | ((with_reducible refine list_tup (xs := ?xs) ?h1 ?_); (case h1 => walk_at "hp"))
  | ((with_reducible refine tuple_lst (xs := ?xs) ?h1 ?_); (case h1 => walk_at "hp"))
  | ((with_reducible refine tuple_tup (xs := ?xs) ?h1 ?_); (case h1 => walk_at "hp"))
  | ((with_reducible refine append_lst (xs := ?xs) ?h1 ?hc ?_); (case h1 => walk_at "hp"); (case hc => walk_at "sz"))
  | ((with_reducible refine clear_lst (xs := ?xs) ?h1 ?_); (case h1 => walk_at "hp"))
  | ((with_reducible refine set_lst (xs := ?xs) (k := ?k) ?h1 ?h2 ?_); (case h1 => walk_at "hp"); (case h2 => walk_at "at")))
local macro_rules | `(tactic| walk_at "rd1") => `(tactic| first
  | ((with_reducible refine rVar (v := ?v) ?h ?_); (case h => exact rfl))
  | (with_reducible refine rC ?_)
  | (with_reducible refine rCons ?_)
  | (with_reducible refine rNil ?_)
  | (with_reducible refine rOp ?_)
  | (with_reducible refine rSeq ?_)
  | (with_reducible refine rAsgN ?_)
  | (with_reducible refine rAsgT ?_)
  | (with_reducible refine rAsgS ?_)
  | (with_reducible refine rTest ?_)
  | (with_reducible refine rBl ?_)
  | (with_reducible refine rBl' ?_)
  | (with_reducible refine rInt ?_)
  | (with_reducible refine rInt' ?_)
  | (with_reducible refine rCall ?_)
  | (with_reducible refine rCB ?_)
  | (with_reducible refine rRet ?_)
  | (with_reducible refine rDrop ?_)
  | (with_reducible refine rIfS ?_)
  | (with_reducible refine rTup ?_)
  | (with_reducible refine rLst ?_)
  | (with_reducible refine ⟨Nat.le_of_ble_eq_true rfl, ?_⟩)
  | (with_reducible refine rSl ?_)
  | (with_reducible refine rPart ?_)
  | (with_reducible refine rNoPart ?_)
  | (with_reducible refine rBM ?_)
  | (with_reducible refine rBM0 ?_)
  | ((with_reducible refine tyL (xs := ?xs) ?h1 ?_); (case h1 => walk_at "hp"))
  | (with_reducible refine rM1 ?_)
  | (with_reducible refine rM0 ?_)
  | (with_reducible refine rStr ?_)
  | (with_reducible refine rTru ?_)
  | (with_reducible refine tru_bl ?_)
  | (with_reducible refine tru_int ?_)
  | ((with_reducible refine tru_lst (xs := ?xs) ?h1 ?_); (case h1 => walk_at "hp"))
  | ((with_reducible refine tru_tup (xs := ?xs) ?h1 ?_); (case h1 => walk_at "hp"))
  | ((with_reducible refine tru_str ?hc ?_); (case hc => walk_at "sz"))
  | (with_reducible refine rAnd ?_)
  | (with_reducible refine rOr ?_)
  | (with_reducible refine rNot ?_)
  | (with_reducible refine rAndV ?_)
  | (with_reducible refine rOrV ?_)
  | (with_reducible refine rNotV ?_)
  | (with_reducible refine rIfE ?_)
  | (with_reducible refine rChain ?_)
  | (with_reducible refine rChain3 ?_)
  | (with_reducible refine ifT ?_)
  | (with_reducible refine ifF ?_)
  | (with_reducible refine ifNF ?_)
  | (with_reducible refine ifNT ?_)
  | (with_reducible refine rNext ?_)
  | (with_reducible refine rBrk ?_)
  | (with_reducible refine rCnt ?_)
  | (with_reducible refine rRetN ?_)
  | (with_reducible refine rForR1 ?_)
  | (with_reducible refine rForR2 ?_)
  | (with_reducible refine rForL ?_)
  | ((with_reducible refine rRg1 ?hb ?_); (case hb => walk_at "nn"))
  | ((with_reducible refine rRg2 ?hb ?_); (case hb => walk_at "nn"))
  | ((with_reducible refine rRf (xs := ?xs) ?h1 ?_); (case h1 => walk_at "hp"))
  | (with_reducible refine rLcR1 ?_)
  | (with_reducible refine rLcR2 ?_)
  | (with_reducible refine rLcL ?_)
  | (with_reducible refine gN ?_)
  | (with_reducible refine gNl ?_)
  | (with_reducible refine gC ?_)
  | ((with_reducible refine gT (xs := ?xs) ?h1 ?h2 ?_); (case h1 => walk_at "hp"); (case h2 => exact rfl))
  | (with_reducible refine rUn ?_)
  | walk_at "rdv"
  | walk_at "rdc")
local macro_rules | `(tactic| walk_at "rd") => `(tactic| repeat walk_at "rd1")

def sp_law_number : Sp := fun vs H Q _ => ∃ i : Int, vs = [.int i] ∧ Q (.bl true) H
theorem use_number {i : Int} {H : Hp} {Q : VK} {E : XK} (h : Q (.bl true) H) : sp_law_number [.int i] H Q E := ⟨i, rfl, h⟩
def sp_law_unfit : Sp := fun vs H Q _ => ∃ (r : Addr) (n : Int), vs = [.ref r, .int n] ∧ Reel H r ∧ 0 ≤ n ∧
  ∀ (p : Addr) (a b : Int) (x : Str) (H' : Hp), ¬ fit1 n ⟨a, b, x⟩ → x.length ≤ 2 → Ok x → SL r H H' → Reel H' r → H' p = some (.tup [.int a, .int b, .str x]) → Q (.ref p) H'
theorem use_unfit {r : Addr} {n : Int} {H : Hp} {Q : VK} {E : XK} (hR : Reel H r) (hn : 0 ≤ n)
    (h : ∀ (p : Addr) (a b : Int) (x : Str) (H' : Hp), ¬ fit1 n ⟨a, b, x⟩ → x.length ≤ 2 → Ok x → SL r H H' → Reel H' r → H' p = some (.tup [.int a, .int b, .str x]) → Q (.ref p) H') : sp_law_unfit [.ref r, .int n] H Q E := ⟨r, n, rfl, hR, hn, h⟩
def sp_law_planted : Sp := fun vs H Q _ => ∃ (r p : Addr) (t : Str) (us : List V) (es : List Ed) (m : Int), vs = [.ref r, .str t, .ref p, .int m] ∧ Reel H r ∧ p ≠ r ∧ t.length ≤ 5000 ∧ H p = some (.lst us) ∧ Edits H us es ∧ fits t.length es ∧ es.length ≤ 300 ∧ (∀ x ∈ es, Nm x) ∧ 0 ≤ m ∧ m ≤ 10 ∧
  ∀ (q : Addr) (us' : List V) (es' : List Ed) (H' : Hp), SL r H H' → Reel H' r → Frs H q → H' q = some (.lst us') → Edits H' us' es' → Small es' → (0 < m → ¬ fits t.length es') → (∀ k, fits t.length (es'.take k) → es'.take k = es.take k) → Q (.ref q) H'
section
variable {P : Program} {w : World} {K : PySem.W.Frag} {mg : Str → Option Value} {base : Heap}
end
end Z
namespace Z
open PySem PySem.Spec L2
/-! ## edits as data -/
def edD (x : Ed) : PyData := .tuple [.int x.s, .int x.e, .str x.n]
theorem edD_shaped {x : Ed} (h : Ok x.n) : SeqAt.shaped (edD x) = true := by
  unfold edD SeqAt.shaped
  simp [PyData.canLay0, PyData.canLayAll0, PyData.depth, PyData.depthAll, h.strOk]
theorem edD_eqv (x y : Ed) : PyData.eqv (edD x) (edD y) = decide (x = y) := by
  obtain ⟨a, b, c⟩ := x
  obtain ⟨a', b', c'⟩ := y
  show (a == a' && (b == b' && (c == c' && true))) = decide ((⟨a, b, c⟩ : Ed) = ⟨a', b', c'⟩)
  by_cases h : (⟨a, b, c⟩ : Ed) = ⟨a', b', c'⟩
  · rw [decide_eq_true h]
    injection h with h1 h2 h3
    subst h1 h2 h3
    simp
  · rw [decide_eq_false h]
    cases hb : (a == a' && (b == b' && (c == c' && true))) with
    | false => rfl
    | true =>
      simp only [Bool.and_eq_true, beq_iff_eq, and_true] at hb
      obtain ⟨h1, h2, h3⟩ := hb
      subst h1 h2 h3
      exact absurd rfl h
theorem ed_dp {K : PySem.W.Frag} {H : Hp} {v : V} {x : Ed} (h : EdAt H v x) : Dp K H v (edD x) := by
  obtain ⟨p, rfl, e⟩ := h
  exact .tup (SqT.of e) (.cons (.int _) (.cons (.int _) (.cons (.str _) .nil)))
/-! ## inverse lists -/
def inv1 (t : Str) (x : Ed) : Ed := ⟨x.s, x.s + x.n.length, cutS t (some x.s) (some x.e)⟩
def bks : Str → List Ed → List Ed
  | _, [] => []
  | t, x :: es => bks (ap t x) es ++ [inv1 t x]
theorem bks_snoc : ∀ (es : List Ed) (t : Str) (x : Ed), bks t (es ++ [x]) = inv1 (aps t es) x :: bks t es
  | [], t, x => rfl
  | y :: es, t, x => by
    show bks (ap t y) (es ++ [x]) ++ [inv1 t y] = inv1 (aps (ap t y) es) x :: (bks (ap t y) es ++ [inv1 t y])
    rw [bks_snoc es (ap t y) x]
    rfl
theorem bks_len : ∀ (es : List Ed) (t : Str), (bks t es).length = es.length
  | [], _ => rfl
  | y :: es, t => by
    show (bks (ap t y) es ++ [inv1 t y]).length = _
    rw [List.length_append, bks_len es]
    rfl
theorem tl_inv1 {t : Str} {x : Ed} (h : fit1 t.length x) : TL.tl (inv1 t x).n = ((TL.tl t).take x.e.toNat).drop x.s.toNat := by
  unfold inv1
  show TL.tl (cutS t (some x.s) (some x.e)) = _
  rw [tl_cutS, cut_mid h.1 (by omega)]
theorem len_inv1 {t : Str} {x : Ed} (h : fit1 t.length x) : ((inv1 t x).n.length : Int) = x.e - x.s := by
  have hl := TL.len_tl t
  rw [TL.len_tl, tl_inv1 h, List.length_drop, List.length_take, ← hl]
  omega
/-- the inverse fits, and leads back -/
theorem inv1_fit {t : Str} {x : Ed} (h : fit1 t.length x) : fit1 (ap t x).length (inv1 t x) := by
  have e := len_ap h
  show 0 ≤ x.s ∧ x.s ≤ x.s + x.n.length ∧ x.s + x.n.length ≤ (ap t x).length
  rw [e]
  unfold nsz
  omega
theorem split3 (l : List Nat) {a b : Nat} (h : a ≤ b) (h2 : b ≤ l.length) : l.take a ++ (l.take b).drop a ++ l.drop b = l := by
  have e : l.take a = (l.take b).take a := by rw [List.take_take, Nat.min_eq_left h]
  rw [e, List.take_append_drop, List.take_append_drop]
theorem ap_inv1 {t : Str} {x : Ed} (h : fit1 t.length x) : ap (ap t x) (inv1 t x) = t := by
  have hl := TL.len_tl t
  have hn := TL.len_tl x.n
  refine TL.ext_tl ?_
  rw [tl_ap (inv1_fit h), tl_inv1 h, tl_ap h]
  show ((TL.tl t).take x.s.toNat ++ TL.tl x.n ++ (TL.tl t).drop x.e.toNat).take x.s.toNat ++ ((TL.tl t).take x.e.toNat).drop x.s.toNat ++ ((TL.tl t).take x.s.toNat ++ TL.tl x.n ++ (TL.tl t).drop x.e.toNat).drop (x.s + x.n.length).toNat = TL.tl t
  have h1 : ((TL.tl t).take x.s.toNat).length = x.s.toNat := by rw [List.length_take]; omega
  have e1 : ((TL.tl t).take x.s.toNat ++ TL.tl x.n ++ (TL.tl t).drop x.e.toNat).take x.s.toNat = (TL.tl t).take x.s.toNat := by
    rw [List.append_assoc]
    exact List.take_left' h1
  have e2 : ((TL.tl t).take x.s.toNat ++ TL.tl x.n ++ (TL.tl t).drop x.e.toNat).drop (x.s + x.n.length).toNat = (TL.tl t).drop x.e.toNat :=
    List.drop_left' (by rw [List.length_append, h1, ← hn]; omega)
  rw [e1, e2]
  exact split3 _ (by omega) (by omega)
theorem inv1_inv1 {t : Str} {x : Ed} (h : fit1 t.length x) : inv1 (ap t x) (inv1 t x) = x := by
  have hl := TL.len_tl t
  have hn := TL.len_tl x.n
  have e1 : x.s + ((inv1 t x).n.length : Int) = x.e := by rw [len_inv1 h]; omega
  have h1 : ((TL.tl t).take x.s.toNat).length = x.s.toNat := by rw [List.length_take]; omega
  have e2 : cutS (ap t x) (some x.s) (some (x.s + x.n.length)) = x.n := by
    refine TL.ext_tl ?_
    rw [tl_cutS, cut_mid h.1 (by omega), tl_ap h]
    have e3 : ((TL.tl t).take x.s.toNat ++ TL.tl x.n ++ (TL.tl t).drop x.e.toNat).take (x.s + x.n.length).toNat = (TL.tl t).take x.s.toNat ++ TL.tl x.n :=
      List.take_left' (by rw [List.length_append, h1, ← hn]; omega)
    rw [e3]
    exact List.drop_left' h1
  show (⟨x.s, x.s + ((inv1 t x).n.length : Int), cutS (ap t x) (some x.s) (some (x.s + x.n.length))⟩ : Ed) = x
  rw [e1, e2]
theorem bks_fits : ∀ (es : List Ed) (t : Str), fits t.length es → fits (aps t es).length (bks t es) ∧ aps (aps t es) (bks t es) = t
  | [], _, _ => ⟨trivial, rfl⟩
  | x :: es, t, h => by
    have hx : fits (ap t x).length es := by rw [len_ap h.1]; exact h.2
    obtain ⟨f1, f2⟩ := bks_fits es (ap t x) hx
    have hs : sza (aps (ap t x) es).length (bks (ap t x) es) = (ap t x).length := by rw [← len_aps f1, f2]
    refine ⟨fits_snoc f1 ?_, ?_⟩
    · show fit1 (sza (aps (ap t x) es).length (bks (ap t x) es)) (inv1 t x)
      rw [hs]
      exact inv1_fit h.1
    · show aps (aps (ap t x) es) (bks (ap t x) es ++ [inv1 t x]) = t
      rw [aps_snoc, f2, ap_inv1 h.1]
theorem bks_app : ∀ (fs gs : List Ed) (t : Str), bks t (fs ++ gs) = bks (aps t fs) gs ++ bks t fs
  | [], gs, t => by show bks t gs = bks t gs ++ []; rw [List.append_nil]
  | x :: fs, gs, t => by
    show bks (ap t x) (fs ++ gs) ++ [inv1 t x] = bks (aps (ap t x) fs) gs ++ (bks (ap t x) fs ++ [inv1 t x])
    rw [bks_app fs gs (ap t x), List.append_assoc]
theorem aps_app (t : Str) (fs gs : List Ed) : aps t (fs ++ gs) = aps (aps t fs) gs := by
  unfold aps
  rw [List.foldl_append]
/-- the first k of the inverse list lead back over the last k -/
theorem bks_take {t : Str} {es : List Ed} (h : fits t.length es) {k : Nat} (hk : k ≤ es.length) : aps (aps t es) ((bks t es).take k) = aps t (es.take (es.length - k)) := by
  have e := List.take_append_drop (es.length - k) es
  have hf : fits t.length (es.take (es.length - k) ++ es.drop (es.length - k)) := by rw [e]; exact h
  obtain ⟨h1, h2⟩ := fits_app.mp hf
  have h3 : fits (aps t (es.take (es.length - k))).length (es.drop (es.length - k)) := by rw [len_aps h1]; exact h2
  have hl : (bks (aps t (es.take (es.length - k))) (es.drop (es.length - k))).length = k := by rw [bks_len, List.length_drop]; omega
  have e1 : (bks t es).take k = bks (aps t (es.take (es.length - k))) (es.drop (es.length - k)) := by
    have := bks_app (es.take (es.length - k)) (es.drop (es.length - k)) t
    rw [e] at this
    rw [this]
    exact List.take_left' hl
  have e2 : aps t es = aps (aps t (es.take (es.length - k))) (es.drop (es.length - k)) := by rw [← aps_app, e]
  rw [e1, e2]
  exact (bks_fits _ _ h3).2
/-- the inverse of the inverse is the list -/
theorem bks_bks : ∀ {es : List Ed} {t : Str}, fits t.length es → bks (aps t es) (bks t es) = es
  | [], _, _ => rfl
  | x :: es, t, h => by
    have hx : fits (ap t x).length es := by rw [len_ap h.1]; exact h.2
    obtain ⟨f1, f2⟩ := bks_fits es (ap t x) hx
    show bks (aps (ap t x) es) (bks (ap t x) es ++ [inv1 t x]) = x :: es
    rw [bks_snoc, f2, bks_bks hx, inv1_inv1 h.1]
theorem bks_small {es : List Ed} {t : Str} (h : fits t.length es) {B : Nat} (hn : ∀ fs x gs, es = fs ++ x :: gs → (aps t fs).length ≤ B) : ∀ y ∈ bks t es, y.n.length ≤ B := by
  intro y hy
  obtain ⟨i, hi⟩ := List.getElem?_of_mem hy
  have hil : i < (bks t es).length := (List.getElem?_eq_some_iff.mp hi).1
  rw [bks_len] at hil
  have key : ∀ (es : List Ed) (t : Str) (y : Ed), y ∈ bks t es → ∃ fs x gs, es = fs ++ x :: gs ∧ y = inv1 (aps t fs) x := by
    intro es
    induction es with
    | nil => intro t y h; exact nomatch h
    | cons x es ih =>
      intro t y h
      rcases List.mem_append.mp h with h | h
      · obtain ⟨fs, z, gs, e, q⟩ := ih (ap t x) y h
        exact ⟨x :: fs, z, gs, by rw [e]; rfl, q⟩
      · exact ⟨[], x, es, rfl, List.mem_singleton.mp h⟩
  obtain ⟨fs, x, gs, e, q⟩ := key es t y hy
  rw [q]
  exact Nat.le_trans (cutS_length _ _ _) (hn fs x gs e)
/-- what is asked of a list of edits that is applied -/
structure Mild (es : List Ed) : Prop where
  len : es.length ≤ 400
  new : ∀ x ∈ es, x.n.length ≤ 2000000 ∧ Ok x.n
/-- no text on the way is long -/
def Mid (t : Str) (es : List Ed) : Prop := ∀ k, (aps t (es.take k)).length ≤ 2000000
theorem Small.mild {es : List Ed} (h : Small es) : Mild es := ⟨h.len, fun x hx => ⟨by have := (h.new x hx).1; omega, (h.new x hx).2⟩⟩
theorem Small.mid {es : List Ed} {t : Str} (h : Small es) (ht : t.length ≤ 900000) (hf : fits t.length es) : Mid t es := fun k => by
  have f := fits_take hf k
  have hl := len_aps f
  have hb := sza_le f fun y hy => (h.new y (List.mem_of_mem_take hy)).1
  have hsl := h.len
  rw [List.length_take] at hb
  omega
theorem Mild.take {es : List Ed} (h : Mild es) (k : Nat) : Mild (es.take k) := ⟨by rw [List.length_take]; have := h.len; omega, fun x hx => h.new x (List.mem_of_mem_take hx)⟩
theorem Mid.take {es : List Ed} {t : Str} (h : Mid t es) (k : Nat) : Mid t (es.take k) := fun i => by
  rw [List.take_take]
  exact h _
theorem Ok.bks : ∀ {es : List Ed} {t : Str}, Ok t → (∀ x ∈ es, Ok x.n) → ∀ y ∈ bks t es, Ok y.n
  | [], _, _, _, y, hy => nomatch hy
  | x :: es, t, h, hn, y, hy => by
    rcases List.mem_append.mp hy with hy | hy
    · exact Ok.bks (es := es) (h.ap (hn x (List.mem_cons_self ..))) (fun z hz => hn z (List.mem_cons_of_mem _ hz)) y hy
    · rw [List.mem_singleton.mp hy]
      exact h.cut _ _
theorem bks_mild {es : List Ed} {t : Str} (h : Mild es) (hm : Mid t es) (ht : Ok t) : Mild (bks t es) := by
  refine ⟨by rw [bks_len]; exact h.len, fun y hy => ⟨?_, Ok.bks ht (fun x hx => (h.new x hx).2) y hy⟩⟩
  have key : ∀ (es : List Ed) (t : Str) (y : Ed), y ∈ bks t es → ∃ fs x gs, es = fs ++ x :: gs ∧ y = inv1 (aps t fs) x := by
    intro es
    induction es with
    | nil => intro t y h; exact nomatch h
    | cons x es ih =>
      intro t y h
      rcases List.mem_append.mp h with h | h
      · obtain ⟨fs, z, gs, e, q⟩ := ih (ap t x) y h
        exact ⟨x :: fs, z, gs, by rw [e]; rfl, q⟩
      · exact ⟨[], x, es, rfl, List.mem_singleton.mp h⟩
  obtain ⟨fs, x, gs, e, q⟩ := key es t y hy
  rw [q]
  have := hm fs.length
  rw [e, List.take_left' rfl] at this
  exact Nat.le_trans (cutS_length _ _ _) this
theorem bks_mid {es : List Ed} {t : Str} (hf : fits t.length es) (hm : Mid t es) : Mid (aps t es) (bks t es) := fun k => by
  by_cases hk : k ≤ es.length
  · rw [bks_take hf hk]
    exact hm _
  · have e : (bks t es).take k = (bks t es).take es.length := by
      rw [List.take_of_length_le (by rw [bks_len]; omega), List.take_of_length_le (by rw [bks_len]; omega)]
    rw [e, bks_take hf (Nat.le_refl _)]
    exact hm _
theorem fits_of_take {sz : Int} {es : List Ed} {k : Nat} (h : fits sz es) : fits sz (es.take k) := fits_take h k
theorem aps_all {es : List Ed} {t : Str} (hm : Mid t es) : (aps t es).length ≤ 2000000 := by
  have := hm es.length
  rw [List.take_length] at this
  exact this
end Z
namespace Z
open PySem PySem.Spec L2
local macro_rules | `(tactic| walk_at "ne") => `(tactic| first
  | with_reducible assumption
  | with_reducible exact Ne.symm (by assumption)
  | exact Frs.ne (by with_reducible assumption) (by walk_at "hp")
  | exact Frs.ne' (by with_reducible assumption) (by walk_at "hp"))
local macro_rules | `(tactic| walk_at "hp") => `(tactic| first
  | with_reducible assumption
  | (with_reducible refine Same.at (by assumption) ?_; walk_at "hp")
  | (with_reducible refine SL.tup (by assumption) ?_; walk_at "hp")
  | (with_reducible refine SL.at (by assumption) (by walk_at "ne") ?_; walk_at "hp"))
local macro_rules | `(tactic| walk_at "sz") => `(tactic| first
  | with_reducible assumption
  | exact Nat.le_of_ble_eq_true rfl
  | (refine sz_le ?_; omega)
  | (refine sz_lt ?_; omega)
  | decide +kernel)
local macro_rules | `(tactic| walk_at "at") => `(tactic| first
  | with_reducible assumption
  | with_reducible exact at0
  | with_reducible exact at1
  | with_reducible exact at2
  | with_reducible exact ixN0)
local macro_rules | `(tactic| walk_at "nn") => `(tactic| first
  | omega
  | decide
  | exact ⟨by decide, by decide⟩
  | exact ⟨by omega, by omega⟩
  | exact ⟨by omega, by omega, by omega, by omega⟩)
local macro_rules | `(tactic| walk_at "rdv") => `(tactic| first
  | (with_reducible refine add_int ?_)
  | (with_reducible refine sub_int ?_)
  | (with_reducible refine neg_int ?_)
  | ((with_reducible refine ix_tpl (xs := ?xs) (v := ?v) ?h1 ?h2 ?_); (case h1 => walk_at "hp"); (case h2 => walk_at "at"))
  | ((with_reducible refine ix_lst (xs := ?xs) (v := ?v) ?h1 ?h2 ?_); (case h1 => walk_at "hp"); (case h2 => walk_at "at"))
  | (with_reducible refine eq_int ?_)
  | (with_reducible refine ne_int ?_)
  | (with_reducible refine lt_int ?_)
  | (with_reducible refine le_int ?_)
  | (with_reducible refine gt_int ?_)
  | (with_reducible refine ge_int ?_)
  | (with_reducible refine eq_str ?_)
  | (with_reducible refine ne_str ?_)
  | (with_reducible refine eq_bl ?_)
  | (with_reducible refine ne_bl ?_)
  | ((with_reducible refine mod_int ?hc ?_); (case hc => walk_at "nn"))
  | ((with_reducible refine div_int ?hc ?_); (case hc => walk_at "nn"))
  | ((with_reducible refine mul_intR ?hc ?_); (case hc => exact ⟨by decide, by decide⟩))
  | ((with_reducible refine mul_intR ?hc ?_); (case hc => exact ⟨by omega, by omega⟩))
  | ((with_reducible refine mul_intL ?hc ?_); (case hc => exact ⟨by omega, by omega⟩))
  | ((with_reducible refine pow_int ?hc ?_); (case hc => exact ⟨by decide, by decide, by decide⟩))
  | ((with_reducible refine add_str ?hc ?_); (case hc => walk_at "sz"))
  | ((with_reducible refine add_lst (xs := ?xs) (ys := ?ys) ?h1 ?h2 ?hc ?_); (case h1 => walk_at "hp"); (case h2 => walk_at "hp"); (case hc => walk_at "sz"))
  | ((with_reducible refine sl_strU ?hc ?_); (case hc => walk_at "sz"))
  | ((with_reducible refine sl_lst (xs := ?xs) ?h1 ?_); (case h1 => walk_at "hp"))
  | (with_reducible refine is_bl ?_)
  | (with_reducible refine isnt_bl ?_)
  | (with_reducible refine is_non ?_)
  | (with_reducible refine isnt_non ?_))
local macro_rules | `(tactic| walk_at "rdc") => `(tactic| first
  | ((with_reducible refine len_lst (xs := ?xs) ?h1 ?_); (case h1 => walk_at "hp"))
  | ((with_reducible refine len_tup (xs := ?xs) ?h1 ?_); (case h1 => walk_at "hp"))
  | ((with_reducible refine len_str ?hc ?_); (case hc => walk_at "sz"))
  | (with_reducible refine int_int ?_)
  | (with_reducible refine max_int ?_)
  | (with_reducible refine min_int ?_)
  | (with_reducible refine abs_int ?_)
  | (with_reducible refine isi_ii ?_)
  | (with_reducible refine isi_ib ?_)
  | (with_reducible refine isi_ss ?_)
  | (with_reducible refine isi_bb ?_)
  | ((with_reducible refine isi_tt (xs := ?xs) ?h1 ?_); (case h1 => walk_at "hp"))
  | ((with_reducible refine isi_ll (xs := ?xs) ?h1 ?_); (case h1 => walk_at "hp"))
  | ((with_reducible refine list_lst (xs := ?xs) ?h1 ?_); (case h1 => walk_at "hp"))
  | ((with_reducible refine list_tup (xs := ?xs) ?h1 ?_); (case h1 => walk_at "hp"))
  | ((with_reducible refine tuple_lst (xs := ?xs) ?h1 ?_); (case h1 => walk_at "hp"))
  | ((with_reducible refine tuple_tup (xs := ?xs) ?h1 ?_); (case h1 => walk_at "hp"))
  | ((with_reducible refine append_lst (xs := ?xs) ?h1 ?hc ?_); (case h1 => walk_at "hp"); (case hc => walk_at "sz"))
  | ((with_reducible refine clear_lst (xs := ?xs) ?h1 ?_); (case h1 => walk_at "hp"))
  | ((with_reducible refine set_lst (xs := ?xs) (k := ?k) ?h1 ?h2 ?_); (case h1 => walk_at "hp"); (case h2 => walk_at "at")))
local macro_rules | `(tactic| walk_at "rd1") => `(tactic| first
  | ((with_reducible refine rVar (v := ?v) ?h ?_); (case h => exact rfl))
  | (with_reducible refine rC ?_)
  | (with_reducible refine rCons ?_)
  | (with_reducible refine rNil ?_)
  | (with_reducible refine rOp ?_)
  | (with_reducible refine rSeq ?_)
  | (with_reducible refine rAsgN ?_)
  | (with_reducible refine rAsgT ?_)
  | (with_reducible refine rAsgS ?_)
  | (with_reducible refine rTest ?_)
  | (with_reducible refine rBl ?_)
  | (with_reducible refine rBl' ?_)
  | (with_reducible refine rInt ?_)
  | (with_reducible refine rInt' ?_)
  | (with_reducible refine rCall ?_)
  | (with_reducible refine rCB ?_)
  | (with_reducible refine rRet ?_)
  | (with_reducible refine rDrop ?_)
  | (with_reducible refine rIfS ?_)
  | (with_reducible refine rTup ?_)
  | (with_reducible refine rLst ?_)
  | (with_reducible refine ⟨Nat.le_of_ble_eq_true rfl, ?_⟩)
  | (with_reducible refine rSl ?_)
  | (with_reducible refine rPart ?_)
  | (with_reducible refine rNoPart ?_)
  | (with_reducible refine rBM ?_)
  | (with_reducible refine rBM0 ?_)
  | ((with_reducible refine tyL (xs := ?xs) ?h1 ?_); (case h1 => walk_at "hp"))
  | (with_reducible refine rM1 ?_)
  | (with_reducible refine rM0 ?_)
  | (with_reducible refine rStr ?_)
  | (with_reducible refine rTru ?_)
  | (with_reducible refine tru_bl ?_)
  | (with_reducible refine tru_int ?_)
  | ((with_reducible refine tru_lst (xs := ?xs) ?h1 ?_); (case h1 => walk_at "hp"))
  | ((with_reducible refine tru_tup (xs := ?xs) ?h1 ?_); (case h1 => walk_at "hp"))
  | ((with_reducible refine tru_str ?hc ?_); (case hc => walk_at "sz"))
  | (with_reducible refine rAnd ?_)
  | (with_reducible refine rOr ?_)
  | (with_reducible refine rNot ?_)
  | (with_reducible refine rAndV ?_)
  | (with_reducible refine rOrV ?_)
  | (with_reducible refine rNotV ?_)
  | (with_reducible refine rIfE ?_)
  | (with_reducible refine rChain ?_)
  | (with_reducible refine rChain3 ?_)
  | (with_reducible refine ifT ?_)
  | (with_reducible refine ifF ?_)
  | (with_reducible refine ifNF ?_)
  | (with_reducible refine ifNT ?_)
  | (with_reducible refine rNext ?_)
  | (with_reducible refine rBrk ?_)
  | (with_reducible refine rCnt ?_)
  | (with_reducible refine rRetN ?_)
  | (with_reducible refine rForR1 ?_)
  | (with_reducible refine rForR2 ?_)
  | (with_reducible refine rForL ?_)
  | ((with_reducible refine rRg1 ?hb ?_); (case hb => walk_at "nn"))
  | ((with_reducible refine rRg2 ?hb ?_); (case hb => walk_at "nn"))
  | ((with_reducible refine rRf (xs := ?xs) ?h1 ?_); (case h1 => walk_at "hp"))
  | (with_reducible refine rLcR1 ?_)
  | (with_reducible refine rLcR2 ?_)
  | (with_reducible refine rLcL ?_)
  | (with_reducible refine gN ?_)
  | (with_reducible refine gNl ?_)
  | (with_reducible refine gC ?_)
  | ((with_reducible refine gT (xs := ?xs) ?h1 ?h2 ?_); (case h1 => walk_at "hp"); (case h2 => exact rfl))
  | (with_reducible refine rUn ?_)
  | walk_at "rdv"
  | walk_at "rdc")
local macro_rules | `(tactic| walk_at "rd") => `(tactic| repeat walk_at "rd1")

/-- the first that does not fit -/
def spFu : Sp := fun vs H Q _ => ∃ (L : Int) (p : Addr) (us : List V) (es : List Ed), vs = [.int L, .ref p] ∧ H p = some (.lst us) ∧ Edits H us es ∧ Mild es ∧ Q (.int (fu L es)) H
abbrev sp_first_unfit : Sp := spFu
abbrev sp_law_first_unfit : Sp := spFu
theorem use_fu {L : Int} {p : Addr} {us : List V} {es : List Ed} {H : Hp} {Q : VK} {E : XK} (hp : H p = some (.lst us)) (he : Edits H us es) (hs : Mild es) (h : Q (.int (fu L es)) H) : spFu [.int L, .ref p] H Q E := ⟨L, p, us, es, rfl, hp, he, hs, h⟩
def sp_law_splice : Sp := fun vs H Q _ => ∃ (t : Str) (p : Addr) (us : List V) (es : List Ed), vs = [.str t, .ref p] ∧ H p = some (.lst us) ∧ Edits H us es ∧ Mild es ∧ fits t.length es ∧ t.length ≤ 2000000 ∧ Mid t es ∧ Q (.str (aps t es)) H
theorem use_splice {t : Str} {p : Addr} {us : List V} {es : List Ed} {H : Hp} {Q : VK} {E : XK} (hp : H p = some (.lst us)) (he : Edits H us es) (hs : Mild es) (hf : fits t.length es) (hl : t.length ≤ 2000000) (hm : Mid t es) (h : Q (.str (aps t es)) H) : sp_law_splice [.str t, .ref p] H Q E := ⟨t, p, us, es, rfl, hp, he, hs, hf, hl, hm, h⟩
def sp_law_same_edit : Sp := fun vs H Q _ => ∃ (v u : V) (x y : Ed), vs = [v, u] ∧ EdAt H v x ∧ EdAt H u y ∧ Ok x.n ∧ Ok y.n ∧ Q (.bl (decide (x = y))) H
theorem use_same_edit {v u : V} {x y : Ed} {H : Hp} {Q : VK} {E : XK} (h1 : EdAt H v x) (h2 : EdAt H u y) (k1 : Ok x.n) (k2 : Ok y.n) (h : Q (.bl (decide (x = y))) H) : sp_law_same_edit [v, u] H Q E := ⟨v, u, x, y, rfl, h1, h2, k1, k2, h⟩
def sp_law_same_edits : Sp := fun vs H Q _ => ∃ (p q : Addr) (us ws : List V) (xs ys : List Ed), vs = [.ref p, .ref q] ∧ H p = some (.lst us) ∧ H q = some (.lst ws) ∧ Edits H us xs ∧ Edits H ws ys ∧ xs.length ≤ 1000 ∧ (∀ x ∈ xs, Ok x.n) ∧ (∀ y ∈ ys, Ok y.n) ∧ Q (.bl (decide (xs = ys))) H
theorem use_same_edits {p q : Addr} {us ws : List V} {xs ys : List Ed} {H : Hp} {Q : VK} {E : XK} (hp : H p = some (.lst us)) (hq : H q = some (.lst ws)) (h1 : Edits H us xs) (h2 : Edits H ws ys) (hl : xs.length ≤ 1000) (k1 : ∀ x ∈ xs, Ok x.n) (k2 : ∀ y ∈ ys, Ok y.n) (h : Q (.bl (decide (xs = ys))) H) :
    sp_law_same_edits [.ref p, .ref q] H Q E := ⟨p, q, us, ws, xs, ys, rfl, hp, hq, h1, h2, hl, k1, k2, h⟩
section
variable {P : Program} {w : World} {K : PySem.W.Frag} {mg : Str → Option Value} {base : Heap}
end
end Z
namespace Z
open PySem PySem.Spec PyProof.Rows PySem.W
/-! ## super().__init__(text) in an own exception's __init__ -/
section
variable {prog : Program} {w : World} {A : Around} {E : Value → Shared → Prop} {h : Heap} {g : Array GenState} {d : Drawn} {t : Nat} {os : OsState}
variable {nm q : Str} {C N : Addr} {bs bm : List Value} {hdct : Bool} {sn : List Str} {sub : List Value} {ab : Bool} {col : Option Bool} {dd : Option Addr} {k0 k1 k2 k3 k5 : Option Value}
theorem call_bwV {u e t0 : Addr} {rest : List Value} {Q : Value → Shared → Prop}
    (hC : h.get? C = some (excClassObj nm q C N bs bm hdct sn sub ab col dd k0 k1 k2 k3 k5 "ValueError.__new__")) (he : h.get? e = some (PySem.HandSPX.excO C t0)) (hu : h.get? u = some (kxs_mw "ValueError.__init__" e)) (hrest : rest.length ≤ sizeLine)
    (hq : ∀ h' t1, (∀ b o, b ≠ e → h.get? b = some o → h'.get? b = some o) → h'.get? e = some (PySem.HandSPX.excO C t1) → Q .none ⟨h', g, d, t, os⟩) :
    wpAny (model prog w) A (call (.ref u) rest) Q E ⟨h, g, d, t, os⟩ := by
  refine wpAny_call (codeAny_of_tree ?_)
  show wpAny _ A.in1 (callAny (.ref u) ⟨rest, []⟩) _ _ _
  simp only [callAny]
  refine wpAny_bind (wpAny_load hu ?_)
  simp only [kxs_mw, show (Value.type "method-wrapper" == Value.type "method" || Value.type "method-wrapper" == Value.type "builtin_function_or_method" || Value.type "method-wrapper" == Value.type "method-wrapper") = true by decide, if_true]
  refine KFB.if_so (by decide) ?_
  refine wpAny_bind (check_bound_init F.excBase_ValueError.toExcCallFacts hC he rfl ?_)
  refine wpAny_bind (wpAny_pure (wpAny_pure ?_))
  refine ⟨plainId_quiet F.excBase_ValueError.init.plain _, codeAny_builtin F.excBase_ValueError.initEntry ?_⟩
  refine exc_init_tree (cls := .ref C) (t0 := t0) (dv := none) (c2 := .none) (c3 := .none) (b4 := .bool false) he hrest fun h' k e' _ => ?_
  exact hq h' _ k e'
end

open L2 in
/-- the context of such a body -/
def cxS (CX : CXT) (P : Program) (w : World) (K : Frag) (mg : Str → Option Value) (base : Heap) (N : List Str) (qual : Str) (scope : Scope) (f cda cc : Addr) (A : Around) (outer : List Env) (s : Shared) (H : Hp) (E : XK) : Cx where
  prog := P
  w := w
  K := K
  mg := mg
  base := base
  A := A.deeper (ksEnv qual scope s.heap.objs.size f (.ref cda) cc)
  N := N
  s_0 := s
  H_0 := H
  env := ksEnv qual scope s.heap.objs.size f (.ref cda) cc
  outer := outer
  stack := ksEnv qual scope s.heap.objs.size f (.ref cda) cc :: outer
  ex := []
  calm := true
  fn := fun _ => false
  pn := []
  xe := fun e s' => wpAny (model P w) (A.deeper (ksEnv qual scope s.heap.objs.size f (.ref cda) cc)) (leaving (ksEnv qual scope s.heap.objs.size f (.ref cda) cc) e) (fun _ s'' => CX outer H s E e s'') (fun e' s'' => CX outer H s E e' s'') s'
/-- the scope of such a body -/
structure SupScope (N ps : List Str) (sc : Scope) : Prop where
  kind : sc.kind = .function
  co : sc.isCoroutine = false
  gen : sc.isGenerator = false
  nd : N.Nodup
  pre : N.take ps.length = ps
  par : ∀ x ∈ ps, sc.names.lookup x = some .local
  cell : ∀ x ∈ sc.names, x.2 ≠ .cell
  free : ∀ x ∈ sc.names, x.2 = .free → x.1 = "__class__"
  sup : sc.names.lookup ("super" : Str) = some .globalImplicit
  cls : sc.names.lookup ("__class__" : Str) = some .free
/-- what the written part says of the class at C and of its own __init__ -/
structure SupC (P : Program) (K : Frag) (mg : Str → Option Value) (C cda cc : Addr) : Prop where
  oex : L2.OexC K C
  code : ∃ ccl cdd vs ccs file tf, K.lookup cda = some ⟨ccl, cdd, .fields vs, ccs⟩ ∧ vs[2]? = some (.str file tf) ∧ ((P.main.file : Str) == file) = true
  cell : ∃ cl cld csl, K.lookup cc = some ⟨cl, cld, .cell (some (.ref C)), csl⟩
  sub : mroIn K C (.ref C) = some true
  sup : mg "super" = none
  any : nsIn K cStatics "thirdparty.any" = some none
  along : ks_superIn K C C "__init__" = some (some (.builtin "ValueError.__init__"))
  subV : subIn K (.ref C) (.type "ValueError") = some true
  top : (P.main.scope.names.lookup ("super" : Str)).isSome = false
section
open L2
variable {CX : CXT} {P : Program} {w : World} {K : Frag} {mg : Str → Option Value} {base : Heap} {N ps : List Str} {qual : Str} {scope : Scope} {f cda cc C : Addr} {A : Around} {outer : List Env} {s s1 : Shared} {H : Hp} {E : XK} {us : List Value} {vs : List V}
theorem binds_get {x : Str} {v : Value} : ∀ {P : List Str} {vs : List Value} {i : Nat}, P.Nodup → P[i]? = some x → vs[i]? = some v → vs.length = P.length → (P.zip vs).reverse.lookup x = some v := by
  intro P vs i nd h1 h2 hl
  have key : ∀ {l : List (Str × Value)}, (l.map (·.1)).Nodup → (x, v) ∈ l → l.lookup x = some v := by
    intro l
    induction l with
    | nil => intro _ h; exact nomatch h
    | cons p l ih =>
      obtain ⟨y, z⟩ := p
      intro nd h
      rw [List.map_cons, List.nodup_cons] at nd
      by_cases e : x = y
      · subst e
        rcases List.mem_cons.mp h with h | h
        · cases h
          simp [List.lookup]
        · exact absurd (List.mem_map_of_mem (f := (·.1)) h) nd.1
      · have e2 : (x == y) = false := by simpa using e
        show (match x == y with | true => some z | false => l.lookup x) = some v
        rw [e2]
        refine ih nd.2 ?_
        rcases List.mem_cons.mp h with h | h
        · cases h; exact absurd rfl e
        · exact h
  refine key ?_ ?_
  · rw [List.map_reverse, List.map_fst_zip (by omega)]
    unfold List.Nodup
    rw [List.pairwise_reverse]
    exact List.Pairwise.imp (fun h => Ne.symm h) nd
  · rw [List.mem_reverse]
    refine List.mem_of_getElem? (i := i) ?_
    rw [List.getElem?_zip_eq_some]
    exact ⟨h1, h2⟩
theorem inv_sup (S : SupScope N ps scope) (T : SupC P K mg C cda cc) (hd : A.handled = none) (e0 : Env0 P w K mg base A outer s H) (hl : vs.length = ps.length) (r : Vals vs us) {h₀ : Heap} {tk : Nat}
    (hns : h₀.Ns s.heap.objs.size (fun x => (ps.zip us).reverse.lookup x)) (hk : ∀ b o, s.heap.get? b = some o → h₀.get? b = some o) :
    Inv (cxS CX P w K mg base N qual scope f cda cc A outer s H E) [] (L2.start N vs) H { s with heap := h₀, toks := tk } := by
  have hpl : ps.length ≤ N.length := by have := congrArg List.length S.pre; rw [List.length_take] at this; omega
  have noA : ∀ b : Addr, b ∉ (cxS CX P w K mg base N qual scope f cda cc A outer s H E).ex := fun b z => absurd (show b ∈ ([] : List Addr) from z) (by simp)
  have cells : ∀ {y : Str} {c : Addr}, (cxS CX P w K mg base N qual scope f cda cc A outer s H E).env.cells.lookup y = some c → y = "__class__" ∧ c = cc := fun {y c} h => by
    have h' : List.lookup y [(("__class__" : Str), cc)] = some c := h
    by_cases e : y = "__class__"
    · subst e
      simp [List.lookup] at h'
      exact ⟨rfl, h'.symm⟩
    · have e2 : (y == ("__class__" : Str)) = false := by simpa using e
      simp [List.lookup, e2] at h'
  obtain ⟨cl, cld, csl, hcell⟩ := T.cell
  have hb := e0.mod.kin _ _ hcell
  refine ⟨⟨e0.mod, S.kind, rfl, rfl, Nat.le_refl _, fun y z c h1 h2 => (cells h1).1.trans (cells h2).1.symm, fun y hy => ?_, fun y c hf _ => (Bool.false_ne_true hf).elim, fun _ => hd, Around.frames_deeper e0.frames, .inr ⟨rfl, rfl⟩, fun b z => absurd z (noA b), e0.bs, e0.bsz, fun b _ _ => noA b, fun b z => absurd z (noA b), e0.funs, e0.frf⟩,
    rfl, e0.bare, Un.kept hk, ⟨_, hns, fun i y v h1 h2 h3 => ?_⟩, fun y c h => ?_, e0.hok.fresh (Nat.le_refl _), fun y c h => ?_, fun p hp => absurd (show p ∈ ([] : List (Addr × Obj)) from hp) (by simp), e0.hok.kept hk, ?_⟩
  · have hy : scope.names.lookup y = some .cell ∨ scope.names.lookup y = some .free := hy
    rcases hy with hy | hy
    · exact absurd rfl (S.cell _ (PySem.mem_of_lookup hy))
    · have e : y = "__class__" := S.free _ (PySem.mem_of_lookup hy) rfl
      subst e
      exact ⟨cc, by show List.lookup _ [(("__class__" : Str), cc)] = some cc; simp [List.lookup]⟩
  · have hi : i < vs.length := by
      unfold L2.start at h2
      by_cases hi : i < vs.length
      · exact hi
      · rw [List.getElem?_append_right (by simpa using hi)] at h2
        rw [List.getElem?_replicate] at h2
        split at h2 <;> cases h2
    have ha : vs[i]? = some v := by
      unfold L2.start at h2
      rw [List.getElem?_append_left (by simpa using hi), List.getElem?_map] at h2
      cases e : vs[i]? with
      | none => rw [e] at h2; cases h2
      | some a => rw [e] at h2; cases h2; rfl
    obtain ⟨u, hu, rv⟩ := r.get ha
    have hp : ps[i]? = some y := by
      rw [← S.pre, List.getElem?_take_of_lt (by omega)]; exact h1
    have ndP : ps.Nodup := by rw [← S.pre]; exact S.nd.sublist (List.take_sublist _ _)
    exact ⟨u, rv, .inl ⟨S.par y (List.mem_of_getElem? hp), binds_get ndP hp hu (by have := r.length; omega)⟩⟩
  · obtain ⟨_, rfl⟩ := cells h
    exact ⟨_, _, hk _ _ (e0.bs _ _ hb).1, rfl⟩
  · obtain ⟨_, rfl⟩ := cells h
    exact (e0.bs _ _ hb).2
  · unfold L2.start
    show _ = N.length
    rw [List.length_append, List.length_map, List.length_replicate]
    omega
theorem fn_sup {fI : Addr} {name : Str} {params : Arguments} {scope : Scope} {kV doc pm ct oc : Value} {an od : Option Addr} {osl : Array (Option Value)} {sp : Sp} {k : Nat} {p0 p1 p2 p3 p4 : Pos} {msg : Expr} {rest : List Stmt} {ar : Arg} {self : Str}
    (lk : K.lookup fI = some ⟨oc, od, .func (ksFn name qual params (.Expr (.Call (.Attribute (.Call (.Name "super" p0) [] [] p1) "__init__" p2) [msg] [] p3) p4 :: rest) scope .none kV doc pm an (.ref cda) ct cc), osl⟩)
    (hcd : codeIn K (.ref cda) qual = true) (S : SupScope N ps scope) (T : SupC P K mg C cda cc) (hps : ps.head? = some self) (har : (params.posonlyargs ++ params.args).head? = some ar) (hself : ar.arg = self)
    (len : ∀ vs H Q E, sp vs H Q E → vs.length = ps.length)
    (hst : ∀ L, starEach (msg :: []) (ksEnv qual scope L fI (.ref cda) cc) = (false, eval msg (ksEnv qual scope L fI (.ref cda) cc)) :: starEach [] (ksEnv qual scope L fI (.ref cda) cc) := by intro _; rfl)
    (hev : ∀ L, ∃ pl, eval (.Call (.Attribute (.Call (.Name "super" p0) [] [] p1) "__init__" p2) [msg] [] p3) (ksEnv qual scope L fI (.ref cda) cc) = (do
      let ov ← attributeBase (.Call (.Name "super" p0) [] [] p1) "__init__" (ksEnv qual scope L fI (.ref cda) cc) (eval (.Call (.Name "super" p0) [] [] p1) (ksEnv qual scope L fI (.ref cda) cc))
      standAt p2.atName
      let (f, first) ← holding [ov] (getMethod ov "__init__" pl)
      callWith p3 f first (backTo p3 (starEach [msg] (ksEnv qual scope L fI (.ref cda) cc))) []))
    (hi : ∀ L, interactive (ksEnv qual scope L fI (.ref cda) cc) = false)
    (hsw : ∀ L, swapsWith (.Call (.Attribute (.Call (.Name "super" p0) [] [] p1) "__init__" p2) [msg] [] p3) none p4.line (ksEnv qual scope L fI (.ref cda) cc) = pure false)
    (hbody : ∀ (A : Around) (outer : List Env) (s : Shared) (H : Hp) (vs : List V) (Q : VK) (E : XK), Room k (A.deeper (ksEnv qual scope s.heap.objs.size fI (.ref cda) cc)) → sp vs H Q E →
      ∃ (x : Addr) (ta : TA) (t : TS), vs.head? = some (.ref x) ∧ H x = some (exo x C none) ∧ PA (cxS CX P w K mg base N qual scope fI cda cc A outer s H E) [msg] ta ∧ PSs (cxS CX P w K mg base N qual scope fI cda cc A outer s H E) rest t ∧
        ta (L2.start N vs) H fun ws H1 => ws.length ≤ 1000 ∧ H1 x = some (exo x C none) ∧ t { nx := fun _ H' => Q .non H', rt := Q } (L2.start N vs) H1) :
    FnOk P w K mg base CX (k + 1) fI (ksFn name qual params (.Expr (.Call (.Attribute (.Call (.Name "super" p0) [] [] p1) "__init__" p2) [msg] [] p3) p4 :: rest) scope .none kV doc pm an (.ref cda) ct cc) ps sp := by
  refine ⟨len, fun A outer s H args us vs Q E hr e0 hb r hsp => ?_⟩
  have hl := len _ _ _ _ hsp
  have KX : K.In s.heap := e0.mod.kin.keeps fun b o e => (e0.bs b o e).1
  have lim : s.heap.NoLimit := e0.mod.nolimit.keeps fun b o e => (e0.bs b o e).1
  obtain ⟨x, ta, t, hx, hHx, pa, ps', q⟩ := hbody A outer s H vs Q E (hr.deeper _) hsp
  refine ks_codeAny_call_defAt (fd := ksFn name qual params (.Expr (.Call (.Attribute (.Call (.Name "super" p0) [] [] p1) "__init__" p2) [msg] [] p3) p4 :: rest) scope .none kV doc pm an (.ref cda) ct cc) hr.depth (KX _ _ lk) rfl lim (codeRec_of KX hcd) rfl hb S.cell
    (fun y hy => S.par y.1 (List.of_mem_zip hy).1) (fun h₀ hns hk => ?_) S.co S.gen S.kind
  have I := inv_sup (CX := CX) (P := P) (w := w) (mg := mg) (N := N) (qual := qual) (f := fI) (E := E) (tk := s.toks + (ps.zip us).length) S T hr.hd e0 hl r hns hk
  have KX0 : K.In h₀ := KX.keeps hk
  obtain ⟨nm, q', N', bs, bm, sn, sub, ab, col, dd, k0, k1, k2, k3, k5, hC, hbm⟩ := T.oex.cls
  have hcl : clsIn K C = some { name := nm, bases := bs, mro := .ref C :: bm, ns := N', qualname := q', hasDict := true, slotNames := sn, subclasses := sub, abstract := ab, collection := col, hasDel := false } := by unfold clsIn; rw [hC] <;> rfl
  obtain ⟨ccl, cdd, cvs, ccs, file, tf, hcda, hvs2, hfile⟩ := T.code
  obtain ⟨cl, cld, csl, hcell⟩ := T.cell
  obtain ⟨t0, ho⟩ := exo_at I.hok hHx
  have hxC : x ≠ C := fun z => by
    have := (e0.bs _ _ (e0.mod.kin _ _ hC)).2
    rw [← z, hHx] at this
    cases this
  have hself' : ps[0]? = some self := by cases ps with | nil => cases hps | cons a l => exact hps
  have hxv : us[0]? = some (.ref x) := by
    have h0 : vs[0]? = some (.ref x) := by cases vs with | nil => cases hx | cons a l => exact hx
    obtain ⟨u, hu, ru⟩ := r.get h0
    rw [hu]
    exact congrArg some ru
  have ndP : ps.Nodup := by rw [← S.pre]; exact S.nd.sublist (List.take_sublist _ _)
  have hlook : (ps.zip us).reverse.lookup self = some (.ref x) := binds_get ndP hself' hxv (by have := r.length; omega)
  obtain ⟨hs, g, d, tk, os⟩ := s
  obtain ⟨pl, ev⟩ := hev hs.objs.size
  show _root_.PySem.wpAt (model P w) (A.deeper (ksEnv qual scope hs.objs.size fI (.ref cda) cc)) (.func (.Expr (.Call (.Attribute (.Call (.Name "super" p0) [] [] p1) "__init__" p2) [msg] [] p3) p4 :: rest) (ksEnv qual scope hs.objs.size fI (.ref cda) cc)) (execs (.Expr (.Call (.Attribute (.Call (.Name "super" p0) [] [] p1) "__init__" p2) [msg] [] p3) p4 :: rest) (ksEnv qual scope hs.objs.size fI (.ref cda) cc)) _ _ _
  refine ks_wpAt_execs_cons ?_
  refine ks_wpAt_Expr_any ?_ (hi _) (hsw _)
  refine ks_wpAt_MethodCall (pl := pl) ?_ ev
  refine ks_wpAt_super_base (env := ksEnv qual scope hs.objs.size fI (.ref cda) cc) S.sup S.cls (by decide +kernel) rfl (KX0 _ _ lk) rfl har rfl (KX0 _ _ hcda) rfl hvs2 hfile T.top ?_
  obtain ⟨mb, hmb1, hmb2⟩ := e0.mod.blt
  have bk : ∀ b o, base.get? b = some o → h₀.get? b = some o := fun b o e => hk _ _ (e0.bs b o e).1
  refine ks_loadName_global S.kind S.sup (Calls.loadGlobal_builtin (env := ksEnv qual scope hs.objs.size fI (.ref cda) cc) (e0.mod.glob.keeps bk) T.sup (hmb1.keeps bk) ((hmb2 _ (by decide +kernel)).trans (show bootBuiltins "super" = some (.type "super") by first | boot_by_name | rfl | kernel_rfl)) ⟨rfl, ?_⟩)
  refine wpAny_loadName_free S.kind S.cls (show List.lookup _ [(("__class__" : Str), cc)] = some cc by simp [List.lookup]) ⟨_, KX0 _ _ hcell, rfl⟩ ?_
  refine wpAny_loadName_local S.kind (show scope.names.lookup ar.arg = some .local by rw [hself]; exact S.par _ (List.mem_of_getElem? hself')) hns (by rw [hself]; exact hlook) ?_
  refine ks_wpAny_isType_cls (KX0 _ _ hC) rfl ⟨rfl, ?_⟩
  refine ks_wpAny_call_super (KX0 _ _ hC) rfl ho rfl (fun c e => nomatch e) (looks_mroIn KX0 T.sub) (fun h1 e1 kk1 => ?_)
  have I1 := I.kept (t' := tk + (ps.zip us).length) kk1
  have KX1 : K.In h1 := KX0.keeps kk1
  have inst1 : W.InstAt h1 x { cls := .ref C, dict := none, data := .fields #[.ref t0, .none, .none, .none, .bool false, .none] } C none := ⟨kk1 _ _ ho, rfl, rfl, trivial⟩
  have hf1 := T.along
  unfold ks_superIn at hf1
  rw [hcl] at hf1
  refine kxs_getMethod kxs_ValueError e1 (looks_opaque KX1 T.any) (l₀ := .ref C :: bm) (fun A Q E s k q => wpAny_bind ((looks_clsIn KX1 hcl) A _ E s k (wpAny_pure q))) rfl KX1 hf1 (inst1.type.andThen (looks_subIn KX1 T.subV)) hxC (by decide +kernel) ?_
  have kk2 : ∀ b o, h1.get? b = some o → (h1.push (kxs_mw "ValueError.__init__" x)).get? b = some o := fun b o e => Heap.get?_push_of_some _ e
  have I2 := I1.kept (t' := tk + (ps.zip us).length + 1) kk2
  have hu2 : (h1.push (kxs_mw "ValueError.__init__" x)).get? h1.objs.size = some (kxs_mw "ValueError.__init__" x) := Heap.get?_push_at rfl rfl
  have I2p : Inv (cxS CX P w K mg base N qual scope fI cda cc A outer ⟨hs, g, d, tk, os⟩ H E) [(h1.objs.size, kxs_mw "ValueError.__init__" x)] (L2.start N vs) H ⟨h1.push (kxs_mw "ValueError.__init__" x), g, d, tk + (ps.zip us).length + 1, os⟩ := I2.pins_of fun p hp => by
    rw [List.mem_singleton.mp hp]
    exact ⟨hu2, I1.hok.fresh (Nat.le_refl _), Nat.ne_of_gt I1.lt, I1.nofs (Nat.le_refl _), fun v z => nomatch z⟩
  have hargs := pa.run p3 _ _ _ _ _ I2p q
  show wpAny _ _ (callWith p3 (.ref h1.objs.size) [] (backTo p3 (starEach (msg :: []) (ksEnv qual scope hs.objs.size fI (.ref cda) cc))) []) _ _ _
  have he := hst hs.objs.size
  have hargs' := hargs
  change wpAny _ _ (spliced (backTo p3 (starEach (msg :: []) (ksEnv qual scope hs.objs.size fI (.ref cda) cc)))) _ _ _ at hargs'
  rw [he] at hargs' ⊢
  refine kxs_callWith (i := "ValueError.__init__") (x := x) rfl (Calls.evalArgs_plain (thn hargs' fun us3 s3 hh => ?_))
  obtain ⟨vs3, H3, I3, r3, hl3, hx3, q3⟩ := hh
  have hpin := I3.pin (h1.objs.size, kxs_mw "ValueError.__init__" x) (List.mem_append_right _ (List.mem_cons_self ..))
  refine ⟨hpin.1, ?_⟩
  show wpAny _ _ (call (.ref h1.objs.size) us3) _ _ _
  obtain ⟨t3, ho3⟩ := exo_at I3.hok hx3
  have hlen3 : us3.length ≤ sizeLine := by rw [← Paired.length r3, sizeLine_eq]; omega
  have KX3 := I3.kIn
  obtain ⟨h3, g3, d3, tk3, os3⟩ := s3
  refine call_bwV (KX3 _ _ hC) ho3 hpin.1 hlen3 fun h4 t4 k4 hx4 => ?_
  have J := I3.write (t' := tk3) (x := x) (e := x) (o := exo x C none) (by rw [hx3]; exact True.intro) (.inl rfl) k4 ⟨_, hx4⟩ (exo_ok hx4)
  have eu : upd H3 x (exo x C none) = H3 := by
    funext b
    by_cases hb : b = x
    · rw [hb, upd_same, hx3]
    · rw [upd_ne hb]
  rw [eu] at J
  refine wpAt_of_wpAny ?_
  refine wpAny_mono (ps'.run _ _ _ _ _ J q3) (fun fl s' hs' => ?_) fun e s' hs' => hs'
  have fin : ∀ {σ' : L2.St} {H' : Hp} {v : V} {u : Value} {pins : List (Addr × Obj)}, Inv (cxS CX P w K mg base N qual scope fI cda cc A outer ⟨hs, g, d, tk, os⟩ H E) pins σ' H' s' → RelV v u → Q v H' → CE outer P w H ⟨hs, g, d, tk, os⟩ Q u s' :=
    fun {σ' H' v u pins} J rv q => ⟨v, H', J.os, J.bare, J.base, J.hok, rv, q⟩
  cases fl with
  | ret u =>
    obtain ⟨v, σ', H', J, rv, q⟩ := hs'
    exact fin J rv q
  | next =>
    obtain ⟨σ', H', J, q⟩ := hs'
    exact fin (v := V.non) (u := Value.none) J rfl q
  | brk =>
    obtain ⟨_, _, _, q⟩ := hs'
    exact False.elim q
  | cont =>
    obtain ⟨_, _, _, q⟩ := hs'
    exact False.elim q
end
end Z
namespace Z
open PySem PySem.Spec PyProof.Rows L2
/-! ## defs that may raise -/
/-- a def that may be called by its name, and may let an exception out -/
structure CalX (P : Program) (w : World) (K : PySem.W.Frag) (mg : Str → Option Value) (base : Heap) (k : Nat) (x : Str) (sp : Sp) : Prop where
  ex : ∃ (f : Addr) (fd : FuncData) (ps : List Str), FnOk P w K mg base (L2.CX P w) k f fd ps sp ∧ mg x = some (.ref f) ∧ PySem.W.keepIn K (.ref f) = true ∧ Binds K fd ps []
/-- an own exception that may be made by its name; sp: its __init__ -/
structure OexI (P : Program) (w : World) (K : PySem.W.Frag) (mg : Str → Option Value) (base : Heap) (k : Nat) (x : Str) (C : Addr) (sp : Sp) : Prop where
  ex : ∃ (f : Addr) (fd : FuncData) (ps : List Str), OexC K C ∧ PySem.W.findIn K (.ref C) "__init__" = some (some (.ref f)) ∧ PySem.W.typeIn K (.ref f) = some (.type "function") ∧ FnOk P w K mg base (L2.CX P w) k f fd ps sp ∧ Binds K fd ps [] ∧ mg x = some (.ref C)
section
variable {P : Program} {w : World} {K : PySem.W.Frag} {mg : Str → Option Value} {base : Heap}
theorem calX {x : Str} {st : Stmt} {f : Addr} {fd : FuncData} {N ps : List Str} {k : Nat} {sp : Sp} (F : C8.Def K mg x st f fd) (b : Binds K fd ps []) (S : FnScope N ps (C8.fnScope st)) (len : ∀ vs H Q E, sp vs H Q E → vs.length = ps.length)
    (hbody : ∀ (cdv : Value) (A : Around) (outer : List Env) (s : Shared) (H : Hp) (vs : List V) (Q : VK) (E : XK), Room k (A.deeper (envOfC x (C8.fnScope st) s.heap.objs.size f cdv)) → sp vs H Q E →
      ∃ t, PSs (cxOf (L2.CX P w) P w K mg base N x (C8.fnScope st) f cdv A outer s H E) (C8.fnBody st) t ∧ t { nx := fun _ H' => Q .non H', rt := Q } (start N vs) H) : CalX P w K mg base (k + 1) x sp := by
  refine ⟨f, fd, ps, ?_, F.mgf, F.kp, b⟩
  obtain ⟨oc, od, dV, kV, doc, pm, an, cdv, ct, osl, rfl, lk, hcd⟩ := F.fn.ex
  exact fn_of lk hcd S len fun A outer s H vs Q E hr hsp => hbody cdv A outer s H vs Q E hr hsp
end
section
variable {X : Cx} {k j : Nat} {x : Str} {sp : Sp} {p pos : Pos} {e : Expr} {es : List Expr} {t : TA} {E : XK} {W : WX} {C : Addr}
/-- a class by its name -/
theorem pe_cls (hg : Gl X x) (hm : X.mg x = some (.ref C)) (hd : (x == ("__debug__" : Str)) = false := by decide) : PE X (.Name x p) (tC (.ref C)) := pe_glob hg hm rfl hd
/-- called where no exception leaves -/
theorem pe_cn (c : CalX X.prog X.w X.K X.mg X.base k x sp) (hr : Room j X.A) (hk : k ≤ j) (hg : Gl X x) (ha : PA X (e :: es) t)
    (hdb : (x == ("__debug__" : Str)) = false := by decide) (he : starEach (e :: es) X.env = (false, eval e X.env) :: starEach es X.env := by rfl) (hpl : (backTo pos (starEach es X.env)).any (·.1) = false := by rfl) :
    PE X (.Call (.Name x p) (e :: es) [] pos) (tCall sp [] L2.E0 t) := by
  obtain ⟨f, fd, ps, F, hm, kp, b⟩ := c.ex
  exact pe_call F (hr.mono hk) hg hm kp b .nil passL ha hdb he hpl
/-- called in a def that hands the exception on -/
theorem pe_cx (c : CalX X.prog X.w X.K X.mg X.base k x sp) (tk : Takes X fun cls d _ H => E cls d H) (hr : Room j X.A) (hk : k ≤ j) (hg : Gl X x) (ha : PA X (e :: es) t)
    (hdb : (x == ("__debug__" : Str)) = false := by decide) (he : starEach (e :: es) X.env = (false, eval e X.env) :: starEach es X.env := by rfl) (hpl : (backTo pos (starEach es X.env)).any (·.1) = false := by rfl) :
    PE X (.Call (.Name x p) (e :: es) [] pos) (tCall sp [] E t) := by
  obtain ⟨f, fd, ps, F, hm, kp, b⟩ := c.ex
  exact pe_call F (hr.mono hk) hg hm kp b .nil (passes_call tk fun _ _ _ _ h => h) ha hdb he hpl
/-- called in the body of a try -/
theorem pe_ct (c : CalX X.prog X.w X.K X.mg X.base k x sp) (tk : Takes X W) (hr : Room j X.A) (hk : k ≤ j) (hg : Gl X x) (ha : PA X (e :: es) t)
    (hdb : (x == ("__debug__" : Str)) = false := by decide) (he : starEach (e :: es) X.env = (false, eval e X.env) :: starEach es X.env := by rfl) (hpl : (backTo pos (starEach es X.env)).any (·.1) = false := by rfl) :
    PE X (.Call (.Name x p) (e :: es) [] pos) (tCallS sp (WE W) t) := by
  obtain ⟨f, fd, ps, F, hm, kp, b⟩ := c.ex
  exact pe_callS F (hr.mono hk) hg hm kp b (fun σ => passAt tk σ) ha hdb he hpl
theorem pm_x (c : OexI X.prog X.w X.K X.mg X.base k x C sp) (hr : Room j X.A) (hk : k + 1 ≤ j) (hg : Gl X x) (ha : PA X (e :: es) t)
    (hdb : (x == ("__debug__" : Str)) = false := by decide) (he : starEach (e :: es) X.env = (false, eval e X.env) :: starEach es X.env := by rfl) (hpl : (backTo pos (starEach es X.env)).any (·.1) = false := by rfl) :
    PMk X (.Call (.Name x p) (e :: es) [] pos) (tMkO C sp [] t) := by
  obtain ⟨f, fd, ps, T, iC, tI, F, b, hm⟩ := c.ex
  exact pmk_oex T iC tI F (hr.mono hk) b .nil passL hg hm ha hdb he hpl
end
/-- the heap behind an exception of the class at C with the fields fs: what a wish must bear -/
def WantX (C : Addr) (fs : List (Str × V)) (H : Hp) (E : XK) : Prop := ∀ (d : Addr) (H' : Hp), H d = none → Same H H' → H' d = some (.xd fs) → E (.ref C) (some d) H'
theorem mkO1 {C : Addr} {sp : Sp} {H1 : Hp} {E : XK} {vs : List V} (fs : List (Str × V)) (hw : WantX C fs H1 E)
    (hs : ∀ (a : Addr) (Q : VK), H1 a = none → (∀ d, H1 d = none → d ≠ a → Q .non (upd (upd (upd H1 a (exo a C none)) d (exd d fs)) a (exo a C (some d)))) → sp (.ref a :: vs) (upd H1 a (exo a C none)) Q (fun _ _ _ => False)) :
    ∀ a, H1 a = none → sp (.ref a :: (vs ++ [])) (upd H1 a (exo a C none))
      (fun v H2 => v = .non ∧ ∃ (d : Addr) (fs : List (Str × V)), H2 a = some (exo a C (some d)) ∧ H2 d = some (exd d fs) ∧ H1 d = none ∧ E (.ref C) (some d) (upd (del H2 a) d (.xd fs))) (fun _ _ _ => False) := by
  intro a ha
  rw [List.append_nil]
  refine hs a _ ha fun d hd hda => ?_
  refine ⟨rfl, d, fs, upd_same, ?_, hd, ?_⟩
  · rw [upd_ne hda, upd_same]
  · refine hw d _ hd (fun b o hb => ?_) upd_same
    have hba : b ≠ a := ne_of_none hb ha
    have hbd : b ≠ d := ne_of_none hb hd
    rw [upd_ne hbd, del_ne hba, upd_ne hba, upd_ne hbd, upd_ne hba]
    exact hb
/-! ## isinstance of a caught exception -/
/-- what the written part says of the class -/
structure ExcK (K : PySem.W.Frag) (C : Addr) : Prop where
  k0 : (PySem.W.clsIn K C).isSome = true
  k4 : PySem.W.findIn K (.ref C) "__getattribute__" = some (some (.builtin "BaseException.__getattribute__"))
  k5 : PySem.W.findIn K (.ref C) "__getattr__" = some none
  k6 : PySem.W.subIn K (.ref C) (.type "BaseException") = some true
  k7 : PySem.W.findIn K (.ref C) "__class__" = some (some (.builtin "object.__class__"))
  k8 : PySem.W.specialIn K (.builtin "object.__class__") "__get__" = some (some (.builtin "getset_descriptor.__get__"))
  k9 : PySem.W.takesIn K (.builtin "object.__class__") = some true
  k10 : PySem.W.mroIn K C (.type "object") = some true
/-- isinstance(e, c): a the caught exception, of the class at C; c a class, or a tuple of classes -/
def tXi (K : PySem.W.Frag) (a : Addr) (cls : Value) (d : Option Addr) (C : Addr) (ta : TA) : TE := fun σ H Q => ta σ H fun vs H1 => cls = .ref C ∧ (∃ (dd : Addr) (fs : List (Str × V)), d = some dd ∧ H1 dd = some (.xd fs)) ∧
  ∃ b : Bool, Q (.bl b) H1 ∧ ((∃ (c : V) (u : Value), vs = [.ref a, c] ∧ ClsV c u ∧ PySem.W.kitOne K (.ref C) u = some b) ∨
    ∃ (tp : Addr) (cs : List V) (us : List Value), vs = [.ref a, .ref tp] ∧ H1 tp = some (.tup cs) ∧ Paired ClsV cs us ∧ PySem.W.kitAny K (.ref C) us = some b)
theorem pe_xi {X : Cx} {a C : Addr} {oe : Obj} {cls : Value} {d : Option Addr} {pn : List (Addr × Obj)} {e : Expr} {es : List Expr} {ta : TA} {p pos : Pos} (T : ExcK X.K C)
    (hz : Zc cls d oe) (hf : ∃ vs, oe.data = .fields vs) (hg : Gl (X.suite a ((a, oe) :: pn)) "isinstance") (hm : X.mg "isinstance" = none) (ha : PA (X.suite a ((a, oe) :: pn)) (e :: es) ta)
    (hv : bootBuiltins ("isinstance" : Str) = some (.builtin "isinstance") := by decide +kernel)
    (he : starEach (e :: es) X.env = (false, eval e X.env) :: starEach es X.env := by rfl) (hpl : (backTo pos (starEach es X.env)).any (·.1) = false := by rfl) :
    PE (X.suite a ((a, oe) :: pn)) (.Call (.Name "isinstance" p) (e :: es) [] pos) (tXi X.K a cls d C ta) := by
  refine ⟨fun pins s σ H Q I h => ?_⟩
  refine wpAny_Call_Name_kw (ld_blt I hg hm hv ?_ (by decide) (by decide))
  refine PyProof.Rows.callWith_builtin1 (thn (ha.run pos pins s σ H _ I h) fun us s1 hh => ?_) he hpl
  obtain ⟨vs, H1, I1, r1, ec, ⟨dd, fs, ed, ea⟩, b, q, hb⟩ := hh
  subst ec
  subst ed
  obtain ⟨ho, _⟩ := I1.pin (a, oe) (List.mem_append_left _ List.mem_cons_self)
  obtain ⟨fv, hd⟩ := hf
  have hx : ObjOk X.prog X.w H1 s1.heap dd (.xd fs) := I1.hok dd _ ea
  obtain ⟨mA, hns, hr⟩ := hx
  obtain ⟨od, hod, hl⟩ := lookIn_ns hns
  have J : PySem.W.InstAt s1.heap a oe C (some od) := ⟨ho, hz.1, by unfold PySem.W.notCls; rw [hd] <;> rfl, by rw [hz.2]; exact hod⟩
  have Z := PySem.W.kitx_exc (x := a) (ox := oe) (od := some od) T.k0 T.k4 T.k5 T.k6 T.k7 T.k8 T.k9 T.k10
  rcases hb with ⟨c, u, rfl, k, e1⟩ | ⟨tp, cs, ws, rfl, hT, k, e1⟩
  · obtain ⟨u1, u2, rfl, x1, x2⟩ := vals2 r1
    have e2 := k.eq x2
    subst e2
    cases (show u1 = Value.ref a from x1)
    exact PySem.W.kia_one Z I1.kIn J e1 (fun z => nomatch z) fun tk => ⟨.bl b, H1, I1.tok tk, rfl, q⟩
  · obtain ⟨u1, u2, rfl, x1, x2⟩ := vals2 r1
    cases (show u1 = Value.ref a from x1)
    cases (show u2 = Value.ref tp from x2)
    obtain ⟨_, its, rv, o, h1, h2, n, h3⟩ := (show ObjOk X.prog X.w H1 s1.heap tp (.tup cs) from I1.hok tp _ hT)
    have e3 := ClsV.all k rv
    subst e3
    obtain ⟨oc, od', dt, sl⟩ := o
    simp only at h2 h3
    subst h2 h3
    exact PySem.W.kia_tup Z I1.kIn J h1 e1 (fun z => nomatch z) fun tk => ⟨.bl b, H1, I1.tok tk, rfl, q⟩
/-! ## readings -/
section
variable {t ta : TA} {te : TE} {σ : L2.St} {H : Hp} {Q : VK} {sp : Sp} {E : L2.St → XK} {C a dd : Addr} {E' : XK} {D : Ends} {K : PySem.W.Frag} {fs : List (Str × V)} {f : Str} {v c : V} {u : Value} {b : Bool}
theorem rCallS (h : t σ H fun vs H1 => sp vs H1 Q (E σ)) : tCallS sp E t σ H Q := h
theorem rRaise (h : ta σ H fun vs H1 => vs.length ≤ 1000 ∧ ∀ a, H1 a = none → sp (.ref a :: (vs ++ [])) (upd H1 a (exo a C none))
      (fun v H2 => v = .non ∧ ∃ (d : Addr) (fs : List (Str × V)), H2 a = some (exo a C (some d)) ∧ H2 d = some (exd d fs) ∧ H1 d = none ∧ E' (.ref C) (some d) (upd (del H2 a) d (.xd fs))) (fun _ _ _ => False)) :
    tMkO C sp [] ta σ H E' := h
theorem rXf (h : te σ H fun x H1 => x = .ref a ∧ (Value.ref C) = .ref C ∧ ∃ (d' : Addr) (fs : List (Str × V)) (v : V), some dd = some d' ∧ H1 d' = some (.xd fs) ∧ fs.lookup f = some v ∧ Q v H1) : tXf a (.ref C) (some dd) C f te σ H Q := h
theorem xf_end {R : V → Prop} (hd : H dd = some (.xd fs)) (e : fs.lookup f = some v) (h : R v) : (V.ref a : V) = .ref a ∧ (Value.ref C) = .ref C ∧ ∃ (d' : Addr) (fs : List (Str × V)) (v : V), some dd = some d' ∧ H d' = some (.xd fs) ∧ fs.lookup f = some v ∧ R v := ⟨rfl, rfl, dd, fs, v, rfl, hd, e, h⟩
theorem rXi (h : ta σ H fun vs H1 => (Value.ref C) = .ref C ∧ (∃ (d' : Addr) (fs : List (Str × V)), some dd = some d' ∧ H1 d' = some (.xd fs)) ∧
  ∃ b : Bool, Q (.bl b) H1 ∧ ((∃ (c : V) (u : Value), vs = [.ref a, c] ∧ ClsV c u ∧ PySem.W.kitOne K (.ref C) u = some b) ∨
    ∃ (tp : Addr) (cs : List V) (us : List Value), vs = [.ref a, .ref tp] ∧ H1 tp = some (.tup cs) ∧ Paired ClsV cs us ∧ PySem.W.kitAny K (.ref C) us = some b)) : tXi K a (.ref C) (some dd) C ta σ H Q := h
theorem xi_own {R : Bool → Prop} {c : Addr} (hd : H dd = some (.xd fs)) (e : PySem.W.kitOne K (.ref C) (.ref c) = some b) (h : R b) : (Value.ref C) = .ref C ∧ (∃ (d' : Addr) (fs : List (Str × V)), some dd = some d' ∧ H d' = some (.xd fs)) ∧
  ∃ b : Bool, R b ∧ ((∃ (c' : V) (u : Value), [V.ref a, .ref c] = [.ref a, c'] ∧ ClsV c' u ∧ PySem.W.kitOne K (.ref C) u = some b) ∨
    ∃ (tp : Addr) (cs : List V) (us : List Value), [V.ref a, .ref c] = [.ref a, .ref tp] ∧ H tp = some (.tup cs) ∧ Paired ClsV cs us ∧ PySem.W.kitAny K (.ref C) us = some b) := ⟨rfl, ⟨dd, fs, rfl, hd⟩, b, h, .inl ⟨_, _, rfl, .own c, e⟩⟩
theorem xi_ty {R : Bool → Prop} {n : String} (hd : H dd = some (.xd fs)) (e : PySem.W.kitOne K (.ref C) (.type n) = some b) (h : R b) : (Value.ref C) = .ref C ∧ (∃ (d' : Addr) (fs : List (Str × V)), some dd = some d' ∧ H d' = some (.xd fs)) ∧
  ∃ b : Bool, R b ∧ ((∃ (c' : V) (u : Value), [V.ref a, .ty n] = [.ref a, c'] ∧ ClsV c' u ∧ PySem.W.kitOne K (.ref C) u = some b) ∨
    ∃ (tp : Addr) (cs : List V) (us : List Value), [V.ref a, .ty n] = [.ref a, .ref tp] ∧ H tp = some (.tup cs) ∧ Paired ClsV cs us ∧ PySem.W.kitAny K (.ref C) us = some b) := ⟨rfl, ⟨dd, fs, rfl, hd⟩, b, h, .inl ⟨_, _, rfl, .ty n, e⟩⟩
theorem rOst {to te : TE} {nx : L2.St → Hp → Prop} {rt : VK} {bk ct : L2.St → Hp → Prop} (h : te σ H fun y H1 => to σ H1 fun x H2 => ∃ a C : Addr, x = .ref a ∧ OexC K C ∧ PySem.W.findIn K (.ref C) f = some none ∧
  ((H2 a = some (exo a C none) ∧ ∀ dx, H2 dx = none → dx ≠ a → nx σ (upd (upd H2 dx (exd dx [(f, y)])) a (exo a C (some dx)))) ∨
    ∃ (dx : Addr) (fs : List (Str × V)), H2 a = some (exo a C (some dx)) ∧ H2 dx = some (exd dx fs) ∧ fs.length ≤ 900 ∧ nx σ (upd H2 dx (exd dx ((f, y) :: fs))))) : tOst K f to te ⟨nx, rt, bk, ct⟩ σ H := h
theorem rRevL (h : te σ H fun x H1 => ∃ a xs, x = .ref a ∧ SqL K H1 a xs ∧ newO (.lst xs.reverse) H1 Q) : tRevL K te σ H Q := h
theorem revL_end {xs : List V} {p : Addr} (hp : H p = some (.lst xs)) (h : newO (.lst xs.reverse) H Q) : ∃ a ys, (V.ref p : V) = .ref a ∧ SqL K H a ys ∧ newO (.lst ys.reverse) H Q := ⟨p, xs, rfl, SqL.of hp, h⟩
end
/-- a whole number's text is short -/
theorem num_len {n : Nat} (h : n ≤ 3000) : (Str.ofString (toString ((n : Nat) : Int))).length ≤ 4 := by
  have e := TL.tl_num n
  have k : ∀ m, m < 3001 → (TL.numL m).length ≤ 4 := by decide +kernel
  rw [TL.len_tl, e]
  exact k n (by omega)
theorem str_int {i : Int} {H : Hp} {Q : VK} (h : i.natAbs.log2 < 1920) (k : Q (.str (toString i)) H) : rStrI [.int i] H Q := ⟨i, rfl, h, k⟩
theorem log_small {i : Int} (h : i.natAbs ≤ 3000) : i.natAbs.log2 < 1920 := by
  by_cases h0 : i.natAbs = 0
  · rw [h0]
    decide
  · have : i.natAbs.log2 < 12 := (Nat.log2_lt h0).mpr (by show i.natAbs < 4096; omega)
    omega
/-! ## classes of exceptions: what is asked of the written part -/
section
variable {K : PySem.W.Frag} {S C : Addr} {b : Bool}
theorem exm_self (h1 : PySem.W.subIn K (.ref S) (.type "BaseException") = some true) (h2 : PySem.W.isClsIn K S = true) (h3 : PySem.W.typeIn K (.ref S) = some (.type "type")) (h4 : PySem.W.subIn K (.ref S) (.ref S) = some true) :
    PySem.W.exmOne K (.ref S) (.ref S) = some true := by
  have e1 : (PySem.W.subIn K (.ref S) (.type "BaseException") == some true) = true := by rw [h1] <;> rfl
  have e2 : ((PySem.W.clsIn K S).isSome && PySem.W.typeIn K (.ref S) == some (.type "type")) = true := by
    have h2' : (PySem.W.clsIn K S).isSome = true := h2
    rw [h2', h3] <;> rfl
  show (if (PySem.W.subIn K (.ref S) (.type "BaseException") == some true) = true then (if ((PySem.W.clsIn K S).isSome && PySem.W.typeIn K (.ref S) == some (.type "type")) = true then PySem.W.subIn K (.ref S) (.ref S) else none) else none) = some true
  rw [if_pos e1, if_pos e2]
  exact h4
theorem kit_ref (h2 : PySem.W.isClsIn K S = true) (h3 : PySem.W.typeIn K (.ref S) = some (.type "type")) (h4 : PySem.W.subIn K (.ref C) (.ref S) = some b) (h5 : PySem.W.subIn K (.ref C) (.ref C) = some true) : PySem.W.kitOne K (.ref C) (.ref S) = some b := by
  have e2 : ((PySem.W.clsIn K S).isSome && PySem.W.typeIn K (.ref S) == some (.type "type")) = true := by
    have h2' : (PySem.W.clsIn K S).isSome = true := h2
    rw [h2', h3] <;> rfl
  show (if (Value.ref C == Value.ref S) = true then some true else if ((PySem.W.clsIn K S).isSome && PySem.W.typeIn K (.ref S) == some (.type "type")) = true then PySem.W.subIn K (.ref C) (.ref S) else none) = some b
  by_cases q : (Value.ref C == Value.ref S) = true
  · rw [if_pos q]
    have e : C = S := Value.ref.inj (beq_iff_eq.mp q)
    subst e
    rw [h5] at h4
    exact h4
  · rw [if_neg q, if_pos e2]
    exact h4
theorem kit_tyV (h : PySem.W.subIn K (.ref C) (.type "ValueError") = some b) : PySem.W.kitOne K (.ref C) (.type "ValueError") = some b := by
  show (if (Value.ref C == Value.type "ValueError") = true then some true else if PySem.W.kitMeta "ValueError" = true then PySem.W.subIn K (.ref C) (.type "ValueError") else none) = some b
  rw [if_neg (fun z => nomatch (beq_iff_eq.mp z : Value.ref C = Value.type "ValueError")), if_pos (by decide +kernel)]
  exact h
end
end Z
namespace Z
open PySem PySem.Spec PyProof.Rows L2
/-! ## str of an edit -/
theorem tl_neg (s t : String) : TL.tl (Str.ofString (s ++ t)) = TL.tl (Str.ofString s) ++ TL.tl (Str.ofString t) := by
  rw [Str.ofString_eq_toList, Str.ofString_eq_toList, Str.ofString_eq_toList]
  show ((s ++ t).toList.map Char.toNat).toArray.toList = (s.toList.map Char.toNat).toArray.toList ++ (t.toList.map Char.toNat).toArray.toList
  simp
theorem num_len' {i : Int} (h : i.natAbs < 1000000000) : (Str.ofString (toString i)).length ≤ 10 := by
  match i, h with
  | .ofNat n, h =>
    rw [TL.len_tl]
    show (TL.tl (Str.ofString (toString ((n : Nat) : Int)))).length ≤ 10
    rw [TL.tl_num]
    have := TL.numL_len (n := n) (k := 9) (by omega) h
    omega
  | .negSucc n, h =>
    rw [TL.len_tl]
    show (TL.tl (Str.ofString ("-" ++ toString (((n + 1 : Nat) : Int))))).length ≤ 10
    rw [tl_neg, TL.tl_num, List.length_append]
    have := TL.numL_len (n := n + 1) (k := 9) (by omega) h
    have e : (TL.tl (Str.ofString "-")).length = 1 := by decide +kernel
    omega
/-- str(t), t a tuple of ints and texts: some bounded text -/
theorem str_tup {prog : Program} {w : World} {A : Around} {E : Value → Shared → Prop} {s : Shared} {a : Addr} {o : Obj} {items : Array Value} {n : Nat} {ts : List Str} {Q : Value → Shared → Prop} (hu : A.units + 4 < cLine) (ha : s.heap.get? a = some o) (hc : o.cls = .type "tuple") (hd : o.data = .seq items n)
    (hT : ∀ (prog : Program) (w : World), ReprAll prog w items.toList ts) (hsz : (tupleText ts).length ≤ sizeLine)
    (h : ∀ (m : Str) (u tk : Tok), m.length ≤ (tupleText ts).length + 5 → Q (.str m u) { s with toks := tk }) : wpAny (model prog w) A (call (.type "str") [.ref a]) Q E s :=
  callType_new F.called_str (by decide) (F.typeCall_str_1 _) (F.newCall_str_1 _) (fun obj => F.args_object_init_2 obj _) F.entry_str_new
    (meets_str_new (S := fun A' R s' => A'.units + 3 < cLine ∧ s'.heap.get? a = some o ∧
        ∀ m u tk, m.length ≤ (tupleText ts).length + 5 → R (.ok (.ret (.str m u))) { s' with toks := tk })
      fun prog' w' A' R s' h => wpAny_strOf_slot rfl (by show A'.units + 1 + 1 < cLine; have := h.1; omega) ⟨o, h.2.1, hc⟩ F.slot_tuple_str F.slot_tuple_repr
        (fmt_tuple_repr h.2.1 hc hd (hT prog' w') hsz fun m u tk hm => ⟨m, u, rfl, h.2.2 m u tk hm⟩))
    ⟨by show A.units + 1 + 3 < cLine; omega, ha, fun m u tk hm => ⟨typeIs_str _ _ _, h m u tk hm⟩⟩
theorem ok_small {x : Str} (h : Ok x) : ∀ c ∈ x.cps.toList, c < 16 ^ 8 := fun c hc => by
  have h1 : c < 1114112 := h c hc
  exact Nat.lt_trans h1 (by decide)
theorem int_small {i : Int} (h : i.natAbs < 1000000000) : i.natAbs.log2 < 1920 := by
  by_cases h0 : i.natAbs = 0
  · rw [h0]
    decide
  · have : i.natAbs.log2 < 30 := (Nat.log2_lt h0).mpr (by show i.natAbs < 1073741824; omega)
    omega
/-- str of an edit: some text, not long -/
def rStrE : List V → Hp → VK → Prop := fun vs H Q => ∃ (v : V) (x : Ed), vs = [v] ∧ EdAt H v x ∧ x.s.natAbs < 1000000000 ∧ x.e.natAbs < 1000000000 ∧ Ok x.n ∧ x.n.length ≤ 100000 ∧ ∀ m : Str, m.length ≤ 2000000 → Q (.str m) H
theorem call_strE {X : Cx} (hu : X.A.units + 64 < cLine) : CallR X (.type "str") rStrE := by
  intro pins s σ H vs us Q I r h
  obtain ⟨v, x, rfl, ⟨p, rfl, hp⟩, h1, h2, hk, hl, q⟩ := h
  obtain ⟨u, rfl, r1⟩ := vals1 r
  cases r1
  obtain ⟨its, rv, ⟨o, ho, hcl, n, hd⟩, _⟩ := I.tuple (SqT.of hp)
  have e1 := StrLaws.reprText_len x.n (ok_small hk)
  have e2 := num_len' h1
  have e3 := num_len' h2
  have hz := sizeLine_eq
  have htx := fmt_text [Str.ofString (toString x.s), Str.ofString (toString x.e), reprText x.n]
  rw [piled_cons, piled_cons, piled_cons, piled_nil] at htx
  have hT : ∀ (prog : Program) (w : World), ReprAll prog w its.toArray.toList [Str.ofString (toString x.s), Str.ofString (toString x.e), reprText x.n] := fun prog w => by
    cases rv with
    | cons a1 rv =>
      cases rv with
      | cons a2 rv =>
        cases rv with
        | cons a3 rv =>
          cases rv
          obtain ⟨t1, rfl⟩ := a1
          obtain ⟨t2, rfl⟩ := a2
          obtain ⟨t3, rfl⟩ := a3
          exact .cons (ReprIs.int t1 (int_small h1)) (.cons (ReprIs.int t2 (int_small h2)) (.cons (ReprIs.str x.n t3 (by omega)) .nil))
  exact str_tup (by omega) ho hcl hd hT (by omega) fun m u tk hm => ⟨.str m, H, I.tok _, ⟨u, rfl⟩, q m (by omega)⟩
/-- str of an int, or of an edit -/
def rStrU : List V → Hp → VK → Prop := fun vs H Q => rStrI vs H Q ∨ rStrE vs H Q
theorem call_strU {X : Cx} (hu : X.A.units + 64 < cLine) : CallR X (.type "str") rStrU := CallR.or call_strI (call_strE hu)
theorem st_int {i : Int} {H : Hp} {Q : VK} (h : i.natAbs.log2 < 1920) (k : Q (.str (toString i)) H) : rStrU [.int i] H Q := .inl ⟨i, rfl, h, k⟩
theorem st_ed {v : V} {x : Ed} {H : Hp} {Q : VK} (h : EdAt H v x) (h1 : x.s.natAbs < 1000000000 ∧ x.e.natAbs < 1000000000) (h2 : Ok x.n ∧ x.n.length ≤ 100000) (k : ∀ m : Str, m.length ≤ 2000000 → Q (.str m) H) : rStrU [v] H Q := .inr ⟨v, x, rfl, h, h1.1, h1.2, h2.1, h2.2, k⟩
end Z
namespace Z
open PySem PySem.Spec L2
local macro_rules | `(tactic| walk_at "ne") => `(tactic| first
  | with_reducible assumption
  | with_reducible exact Ne.symm (by assumption)
  | exact Frs.ne (by with_reducible assumption) (by walk_at "hp")
  | exact Frs.ne' (by with_reducible assumption) (by walk_at "hp"))
local macro_rules | `(tactic| walk_at "hp") => `(tactic| first
  | with_reducible assumption
  | (with_reducible refine Same.at (by assumption) ?_; walk_at "hp")
  | (with_reducible refine SL.tup (by assumption) ?_; walk_at "hp")
  | (with_reducible refine SL.at (by assumption) (by walk_at "ne") ?_; walk_at "hp"))
local macro_rules | `(tactic| walk_at "sz") => `(tactic| first
  | with_reducible assumption
  | exact Nat.le_of_ble_eq_true rfl
  | (refine sz_le ?_; omega)
  | (refine sz_lt ?_; omega)
  | decide +kernel)
local macro_rules | `(tactic| walk_at "at") => `(tactic| first
  | with_reducible assumption
  | with_reducible exact at0
  | with_reducible exact at1
  | with_reducible exact at2
  | with_reducible exact ixN0)
local macro_rules | `(tactic| walk_at "nn") => `(tactic| first
  | omega
  | decide
  | exact ⟨by decide, by decide⟩
  | exact ⟨by omega, by omega⟩
  | exact ⟨by omega, by omega, by omega, by omega⟩)
local macro_rules | `(tactic| walk_at "rdv") => `(tactic| first
  | (with_reducible refine add_int ?_)
  | (with_reducible refine sub_int ?_)
  | (with_reducible refine neg_int ?_)
  | ((with_reducible refine ix_tpl (xs := ?xs) (v := ?v) ?h1 ?h2 ?_); (case h1 => walk_at "hp"); (case h2 => walk_at "at"))
  | ((with_reducible refine ix_lst (xs := ?xs) (v := ?v) ?h1 ?h2 ?_); (case h1 => walk_at "hp"); (case h2 => walk_at "at"))
  | (with_reducible refine eq_int ?_)
  | (with_reducible refine ne_int ?_)
  | (with_reducible refine lt_int ?_)
  | (with_reducible refine le_int ?_)
  | (with_reducible refine gt_int ?_)
  | (with_reducible refine ge_int ?_)
  | (with_reducible refine eq_str ?_)
  | (with_reducible refine ne_str ?_)
  | (with_reducible refine eq_bl ?_)
  | (with_reducible refine ne_bl ?_)
  | ((with_reducible refine mod_int ?hc ?_); (case hc => walk_at "nn"))
  | ((with_reducible refine div_int ?hc ?_); (case hc => walk_at "nn"))
  | ((with_reducible refine mul_intR ?hc ?_); (case hc => exact ⟨by decide, by decide⟩))
  | ((with_reducible refine mul_intR ?hc ?_); (case hc => exact ⟨by omega, by omega⟩))
  | ((with_reducible refine mul_intL ?hc ?_); (case hc => exact ⟨by omega, by omega⟩))
  | ((with_reducible refine pow_int ?hc ?_); (case hc => exact ⟨by decide, by decide, by decide⟩))
  | ((with_reducible refine add_str ?hc ?_); (case hc => walk_at "sz"))
  | ((with_reducible refine add_lst (xs := ?xs) (ys := ?ys) ?h1 ?h2 ?hc ?_); (case h1 => walk_at "hp"); (case h2 => walk_at "hp"); (case hc => walk_at "sz"))
  | ((with_reducible refine sl_strU ?hc ?_); (case hc => walk_at "sz"))
  | ((with_reducible refine sl_lst (xs := ?xs) ?h1 ?_); (case h1 => walk_at "hp"))
  | (with_reducible refine is_bl ?_)
  | (with_reducible refine isnt_bl ?_)
  | (with_reducible refine is_non ?_)
  | (with_reducible refine isnt_non ?_))
local macro_rules | `(tactic| walk_at "rdc") => `(tactic| first
  | ((with_reducible refine len_lst (xs := ?xs) ?h1 ?_); (case h1 => walk_at "hp"))
  | ((with_reducible refine len_tup (xs := ?xs) ?h1 ?_); (case h1 => walk_at "hp"))
  | ((with_reducible refine len_str ?hc ?_); (case hc => walk_at "sz"))
  | (with_reducible refine int_int ?_)
  | (with_reducible refine max_int ?_)
  | (with_reducible refine min_int ?_)
  | (with_reducible refine abs_int ?_)
  | (with_reducible refine isi_ii ?_)
  | (with_reducible refine isi_ib ?_)
  | (with_reducible refine isi_ss ?_)
  | (with_reducible refine isi_bb ?_)
  | ((with_reducible refine isi_tt (xs := ?xs) ?h1 ?_); (case h1 => walk_at "hp"))
  | ((with_reducible refine isi_ll (xs := ?xs) ?h1 ?_); (case h1 => walk_at "hp"))
  | ((with_reducible refine list_lst (xs := ?xs) ?h1 ?_); (case h1 => walk_at "hp"))
  | ((with_reducible refine list_tup (xs := ?xs) ?h1 ?_); (case h1 => walk_at "hp"))
  | ((with_reducible refine tuple_lst (xs := ?xs) ?h1 ?_); (case h1 => walk_at "hp"))
  | ((with_reducible refine tuple_tup (xs := ?xs) ?h1 ?_); (case h1 => walk_at "hp"))
  | ((with_reducible refine append_lst (xs := ?xs) ?h1 ?hc ?_); (case h1 => walk_at "hp"); (case hc => walk_at "sz"))
  | ((with_reducible refine clear_lst (xs := ?xs) ?h1 ?_); (case h1 => walk_at "hp"))
  | ((with_reducible refine set_lst (xs := ?xs) (k := ?k) ?h1 ?h2 ?_); (case h1 => walk_at "hp"); (case h2 => walk_at "at")))
local macro_rules | `(tactic| walk_at "rd1") => `(tactic| first
  | ((with_reducible refine rVar (v := ?v) ?h ?_); (case h => exact rfl))
  | (with_reducible refine rC ?_)
  | (with_reducible refine rCons ?_)
  | (with_reducible refine rNil ?_)
  | (with_reducible refine rOp ?_)
  | (with_reducible refine rSeq ?_)
  | (with_reducible refine rAsgN ?_)
  | (with_reducible refine rAsgT ?_)
  | (with_reducible refine rAsgS ?_)
  | (with_reducible refine rTest ?_)
  | (with_reducible refine rBl ?_)
  | (with_reducible refine rBl' ?_)
  | (with_reducible refine rInt ?_)
  | (with_reducible refine rInt' ?_)
  | (with_reducible refine rCall ?_)
  | (with_reducible refine rCB ?_)
  | (with_reducible refine rRet ?_)
  | (with_reducible refine rDrop ?_)
  | (with_reducible refine rIfS ?_)
  | (with_reducible refine rTup ?_)
  | (with_reducible refine rLst ?_)
  | (with_reducible refine ⟨Nat.le_of_ble_eq_true rfl, ?_⟩)
  | (with_reducible refine rSl ?_)
  | (with_reducible refine rPart ?_)
  | (with_reducible refine rNoPart ?_)
  | (with_reducible refine rBM ?_)
  | (with_reducible refine rBM0 ?_)
  | ((with_reducible refine tyL (xs := ?xs) ?h1 ?_); (case h1 => walk_at "hp"))
  | (with_reducible refine rM1 ?_)
  | (with_reducible refine rM0 ?_)
  | (with_reducible refine rStr ?_)
  | (with_reducible refine rTru ?_)
  | (with_reducible refine tru_bl ?_)
  | (with_reducible refine tru_int ?_)
  | ((with_reducible refine tru_lst (xs := ?xs) ?h1 ?_); (case h1 => walk_at "hp"))
  | ((with_reducible refine tru_tup (xs := ?xs) ?h1 ?_); (case h1 => walk_at "hp"))
  | ((with_reducible refine tru_str ?hc ?_); (case hc => walk_at "sz"))
  | (with_reducible refine rAnd ?_)
  | (with_reducible refine rOr ?_)
  | (with_reducible refine rNot ?_)
  | (with_reducible refine rAndV ?_)
  | (with_reducible refine rOrV ?_)
  | (with_reducible refine rNotV ?_)
  | (with_reducible refine rIfE ?_)
  | (with_reducible refine rChain ?_)
  | (with_reducible refine rChain3 ?_)
  | (with_reducible refine ifT ?_)
  | (with_reducible refine ifF ?_)
  | (with_reducible refine ifNF ?_)
  | (with_reducible refine ifNT ?_)
  | (with_reducible refine rNext ?_)
  | (with_reducible refine rBrk ?_)
  | (with_reducible refine rCnt ?_)
  | (with_reducible refine rRetN ?_)
  | (with_reducible refine rForR1 ?_)
  | (with_reducible refine rForR2 ?_)
  | (with_reducible refine rForL ?_)
  | ((with_reducible refine rRg1 ?hb ?_); (case hb => walk_at "nn"))
  | ((with_reducible refine rRg2 ?hb ?_); (case hb => walk_at "nn"))
  | ((with_reducible refine rRf (xs := ?xs) ?h1 ?_); (case h1 => walk_at "hp"))
  | (with_reducible refine rLcR1 ?_)
  | (with_reducible refine rLcR2 ?_)
  | (with_reducible refine rLcL ?_)
  | (with_reducible refine gN ?_)
  | (with_reducible refine gNl ?_)
  | (with_reducible refine gC ?_)
  | ((with_reducible refine gT (xs := ?xs) ?h1 ?h2 ?_); (case h1 => walk_at "hp"); (case h2 => exact rfl))
  | (with_reducible refine rUn ?_)
  | walk_at "rdv"
  | walk_at "rdc")
local macro_rules | `(tactic| walk_at "rd") => `(tactic| repeat walk_at "rd1")

local macro_rules | `(tactic| walk_at "rd1") => `(tactic| first
  | (with_reducible refine rCallS ?_)
  | (with_reducible refine rRaise ?_)
  | (with_reducible refine rXf ?_)
  | (with_reducible refine rXi ?_)
  | (with_reducible refine rOst ?_)
  | (with_reducible refine rRevL ?_)
  | ((with_reducible refine revL_end (xs := ?xs) ?h1 ?_); (case h1 => walk_at "hp")))

def sp_EditError (C : Addr) : Sp := fun vs H Q _ => ∃ (x : Addr) (n : Nat), vs = [.ref x, .int n] ∧ n ≤ 3000 ∧ H x = some (exo x C none) ∧
  ∀ d, H d = none → d ≠ x → Q .non (upd (upd H d (exd d [("index", .int n)])) x (exo x C (some d)))
/-- how such an error comes out of a def -/
abbrev BadX (C : Addr) (n : Nat) (H : Hp) (E : XK) : Prop := WantX C [("index", .int n)] H E
def sp_check_edits (C : Addr) : Sp := fun vs H Q E => ∃ (L : Int) (p : Addr) (us : List V) (es : List Ed), vs = [.int L, .ref p] ∧ H p = some (.lst us) ∧ Edits H us es ∧ Mild es ∧
  (fits L es → Q .non H) ∧ ∀ n : Nat, fu L es = n → n ≤ 1000 → BadX C n H E
theorem use_check_edits {C : Addr} {L : Int} {p : Addr} {us : List V} {es : List Ed} {H : Hp} {Q : VK} {E : XK} (hp : H p = some (.lst us)) (he : Edits H us es) (hs : Mild es) (h1 : fits L es → Q .non H) (h2 : ∀ n : Nat, fu L es = n → n ≤ 1000 → BadX C n H E) :
    sp_check_edits C [.int L, .ref p] H Q E := ⟨L, p, us, es, rfl, hp, he, hs, h1, h2⟩
def sp_apply (C : Addr) : Sp := fun vs H Q E => ∃ (t : Str) (p : Addr) (us : List V) (es : List Ed), vs = [.str t, .ref p] ∧ H p = some (.lst us) ∧ Edits H us es ∧ Mild es ∧ t.length ≤ 2000000 ∧ (fits t.length es → Mid t es) ∧
  (fits t.length es → Q (.str (aps t es)) H) ∧ ∀ n : Nat, fu t.length es = n → n ≤ 1000 → BadX C n H E
theorem use_apply {C : Addr} {t : Str} {p : Addr} {us : List V} {es : List Ed} {H : Hp} {Q : VK} {E : XK} (hp : H p = some (.lst us)) (he : Edits H us es) (hs : Mild es) (hl : t.length ≤ 2000000) (hm : fits t.length es → Mid t es) (h1 : fits t.length es → Q (.str (aps t es)) H)
    (h2 : ∀ n : Nat, fu t.length es = n → n ≤ 1000 → BadX C n H E) : sp_apply C [.str t, .ref p] H Q E := ⟨t, p, us, es, rfl, hp, he, hs, hl, hm, h1, h2⟩
def sp_inverse (C : Addr) : Sp := fun vs H Q E => ∃ (t : Str) (p : Addr) (us : List V) (es : List Ed), vs = [.str t, .ref p] ∧ H p = some (.lst us) ∧ Edits H us es ∧ Mild es ∧ t.length ≤ 2000000 ∧ (fits t.length es → Mid t es) ∧
  (fits t.length es → ∀ (q : Addr) (ws : List V) (H' : Hp), Frs H q → Same H H' → H' q = some (.lst ws) → Edits H' ws (bks t es) → Q (.ref q) H') ∧ ∀ n : Nat, fu t.length es = n → n ≤ 1000 → BadX C n H E
theorem use_inverse {C : Addr} {t : Str} {p : Addr} {us : List V} {es : List Ed} {H : Hp} {Q : VK} {E : XK} (hp : H p = some (.lst us)) (he : Edits H us es) (hs : Mild es) (hl : t.length ≤ 2000000) (hm : fits t.length es → Mid t es)
    (h1 : fits t.length es → ∀ (q : Addr) (ws : List V) (H' : Hp), Frs H q → Same H H' → H' q = some (.lst ws) → Edits H' ws (bks t es) → Q (.ref q) H')
    (h2 : ∀ n : Nat, fu t.length es = n → n ≤ 1000 → BadX C n H E) : sp_inverse C [.str t, .ref p] H Q E := ⟨t, p, us, es, rfl, hp, he, hs, hl, hm, h1, h2⟩
section
variable {P : Program} {w : World} {K : PySem.W.Frag} {mg : Str → Option Value} {base : Heap} {aE : Addr}
end
end Z
namespace Z
open PySem PySem.Spec L2
local macro_rules | `(tactic| walk_at "ne") => `(tactic| first
  | with_reducible assumption
  | with_reducible exact Ne.symm (by assumption)
  | exact Frs.ne (by with_reducible assumption) (by walk_at "hp")
  | exact Frs.ne' (by with_reducible assumption) (by walk_at "hp"))
local macro_rules | `(tactic| walk_at "hp") => `(tactic| first
  | with_reducible assumption
  | (with_reducible refine Same.at (by assumption) ?_; walk_at "hp")
  | (with_reducible refine SL.tup (by assumption) ?_; walk_at "hp")
  | (with_reducible refine SL.at (by assumption) (by walk_at "ne") ?_; walk_at "hp"))
local macro_rules | `(tactic| walk_at "sz") => `(tactic| first
  | with_reducible assumption
  | exact Nat.le_of_ble_eq_true rfl
  | (refine sz_le ?_; omega)
  | (refine sz_lt ?_; omega)
  | decide +kernel)
local macro_rules | `(tactic| walk_at "at") => `(tactic| first
  | with_reducible assumption
  | with_reducible exact at0
  | with_reducible exact at1
  | with_reducible exact at2
  | with_reducible exact ixN0)
local macro_rules | `(tactic| walk_at "nn") => `(tactic| first
  | omega
  | decide
  | exact ⟨by decide, by decide⟩
  | exact ⟨by omega, by omega⟩
  | exact ⟨by omega, by omega, by omega, by omega⟩)
local macro_rules | `(tactic| walk_at "rdv") => `(tactic| first
  | (with_reducible refine add_int ?_)
  | (with_reducible refine sub_int ?_)
  | (with_reducible refine neg_int ?_)
  | ((with_reducible refine ix_tpl (xs := ?xs) (v := ?v) ?h1 ?h2 ?_); (case h1 => walk_at "hp"); (case h2 => walk_at "at"))
  | ((with_reducible refine ix_lst (xs := ?xs) (v := ?v) ?h1 ?h2 ?_); (case h1 => walk_at "hp"); (case h2 => walk_at "at"))
  | (with_reducible refine eq_int ?_)
  | (with_reducible refine ne_int ?_)
  | (with_reducible refine lt_int ?_)
  | (with_reducible refine le_int ?_)
  | (with_reducible refine gt_int ?_)
  | (with_reducible refine ge_int ?_)
  | (with_reducible refine eq_str ?_)
  | (with_reducible refine ne_str ?_)
  | (with_reducible refine eq_bl ?_)
  | (with_reducible refine ne_bl ?_)
  | ((with_reducible refine mod_int ?hc ?_); (case hc => walk_at "nn"))
  | ((with_reducible refine div_int ?hc ?_); (case hc => walk_at "nn"))
  | ((with_reducible refine mul_intR ?hc ?_); (case hc => exact ⟨by decide, by decide⟩))
  | ((with_reducible refine mul_intR ?hc ?_); (case hc => exact ⟨by omega, by omega⟩))
  | ((with_reducible refine mul_intL ?hc ?_); (case hc => exact ⟨by omega, by omega⟩))
  | ((with_reducible refine pow_int ?hc ?_); (case hc => exact ⟨by decide, by decide, by decide⟩))
  | ((with_reducible refine add_str ?hc ?_); (case hc => walk_at "sz"))
  | ((with_reducible refine add_lst (xs := ?xs) (ys := ?ys) ?h1 ?h2 ?hc ?_); (case h1 => walk_at "hp"); (case h2 => walk_at "hp"); (case hc => walk_at "sz"))
  | ((with_reducible refine sl_strU ?hc ?_); (case hc => walk_at "sz"))
  | ((with_reducible refine sl_lst (xs := ?xs) ?h1 ?_); (case h1 => walk_at "hp"))
  | (with_reducible refine is_bl ?_)
  | (with_reducible refine isnt_bl ?_)
  | (with_reducible refine is_non ?_)
  | (with_reducible refine isnt_non ?_))
local macro_rules | `(tactic| walk_at "rdc") => `(tactic| first
  | ((with_reducible refine len_lst (xs := ?xs) ?h1 ?_); (case h1 => walk_at "hp"))
  | ((with_reducible refine len_tup (xs := ?xs) ?h1 ?_); (case h1 => walk_at "hp"))
  | ((with_reducible refine len_str ?hc ?_); (case hc => walk_at "sz"))
  | (with_reducible refine int_int ?_)
  | (with_reducible refine max_int ?_)
  | (with_reducible refine min_int ?_)
  | (with_reducible refine abs_int ?_)
  | (with_reducible refine isi_ii ?_)
  | (with_reducible refine isi_ib ?_)
  | (with_reducible refine isi_ss ?_)
  | (with_reducible refine isi_bb ?_)
  | ((with_reducible refine isi_tt (xs := ?xs) ?h1 ?_); (case h1 => walk_at "hp"))
  | ((with_reducible refine isi_ll (xs := ?xs) ?h1 ?_); (case h1 => walk_at "hp"))
  | ((with_reducible refine list_lst (xs := ?xs) ?h1 ?_); (case h1 => walk_at "hp"))
  | ((with_reducible refine list_tup (xs := ?xs) ?h1 ?_); (case h1 => walk_at "hp"))
  | ((with_reducible refine tuple_lst (xs := ?xs) ?h1 ?_); (case h1 => walk_at "hp"))
  | ((with_reducible refine tuple_tup (xs := ?xs) ?h1 ?_); (case h1 => walk_at "hp"))
  | ((with_reducible refine append_lst (xs := ?xs) ?h1 ?hc ?_); (case h1 => walk_at "hp"); (case hc => walk_at "sz"))
  | ((with_reducible refine clear_lst (xs := ?xs) ?h1 ?_); (case h1 => walk_at "hp"))
  | ((with_reducible refine set_lst (xs := ?xs) (k := ?k) ?h1 ?h2 ?_); (case h1 => walk_at "hp"); (case h2 => walk_at "at")))
local macro_rules | `(tactic| walk_at "rd1") => `(tactic| first
  | ((with_reducible refine rVar (v := ?v) ?h ?_); (case h => exact rfl))
  | (with_reducible refine rC ?_)
  | (with_reducible refine rCons ?_)
  | (with_reducible refine rNil ?_)
  | (with_reducible refine rOp ?_)
  | (with_reducible refine rSeq ?_)
  | (with_reducible refine rAsgN ?_)
  | (with_reducible refine rAsgT ?_)
  | (with_reducible refine rAsgS ?_)
  | (with_reducible refine rTest ?_)
  | (with_reducible refine rBl ?_)
  | (with_reducible refine rBl' ?_)
  | (with_reducible refine rInt ?_)
  | (with_reducible refine rInt' ?_)
  | (with_reducible refine rCall ?_)
  | (with_reducible refine rCB ?_)
  | (with_reducible refine rRet ?_)
  | (with_reducible refine rDrop ?_)
  | (with_reducible refine rIfS ?_)
  | (with_reducible refine rTup ?_)
  | (with_reducible refine rLst ?_)
  | (with_reducible refine ⟨Nat.le_of_ble_eq_true rfl, ?_⟩)
  | (with_reducible refine rSl ?_)
  | (with_reducible refine rPart ?_)
  | (with_reducible refine rNoPart ?_)
  | (with_reducible refine rBM ?_)
  | (with_reducible refine rBM0 ?_)
  | ((with_reducible refine tyL (xs := ?xs) ?h1 ?_); (case h1 => walk_at "hp"))
  | (with_reducible refine rM1 ?_)
  | (with_reducible refine rM0 ?_)
  | (with_reducible refine rStr ?_)
  | (with_reducible refine rTru ?_)
  | (with_reducible refine tru_bl ?_)
  | (with_reducible refine tru_int ?_)
  | ((with_reducible refine tru_lst (xs := ?xs) ?h1 ?_); (case h1 => walk_at "hp"))
  | ((with_reducible refine tru_tup (xs := ?xs) ?h1 ?_); (case h1 => walk_at "hp"))
  | ((with_reducible refine tru_str ?hc ?_); (case hc => walk_at "sz"))
  | (with_reducible refine rAnd ?_)
  | (with_reducible refine rOr ?_)
  | (with_reducible refine rNot ?_)
  | (with_reducible refine rAndV ?_)
  | (with_reducible refine rOrV ?_)
  | (with_reducible refine rNotV ?_)
  | (with_reducible refine rIfE ?_)
  | (with_reducible refine rChain ?_)
  | (with_reducible refine rChain3 ?_)
  | (with_reducible refine ifT ?_)
  | (with_reducible refine ifF ?_)
  | (with_reducible refine ifNF ?_)
  | (with_reducible refine ifNT ?_)
  | (with_reducible refine rNext ?_)
  | (with_reducible refine rBrk ?_)
  | (with_reducible refine rCnt ?_)
  | (with_reducible refine rRetN ?_)
  | (with_reducible refine rForR1 ?_)
  | (with_reducible refine rForR2 ?_)
  | (with_reducible refine rForL ?_)
  | ((with_reducible refine rRg1 ?hb ?_); (case hb => walk_at "nn"))
  | ((with_reducible refine rRg2 ?hb ?_); (case hb => walk_at "nn"))
  | ((with_reducible refine rRf (xs := ?xs) ?h1 ?_); (case h1 => walk_at "hp"))
  | (with_reducible refine rLcR1 ?_)
  | (with_reducible refine rLcR2 ?_)
  | (with_reducible refine rLcL ?_)
  | (with_reducible refine gN ?_)
  | (with_reducible refine gNl ?_)
  | (with_reducible refine gC ?_)
  | ((with_reducible refine gT (xs := ?xs) ?h1 ?h2 ?_); (case h1 => walk_at "hp"); (case h2 => exact rfl))
  | (with_reducible refine rUn ?_)
  | walk_at "rdv"
  | walk_at "rdc")
local macro_rules | `(tactic| walk_at "rd") => `(tactic| repeat walk_at "rd1")

local macro_rules | `(tactic| walk_at "rd1") => `(tactic| first
  | (with_reducible refine rCallS ?_)
  | (with_reducible refine rRaise ?_)
  | (with_reducible refine rXf ?_)
  | (with_reducible refine rXi ?_)
  | (with_reducible refine rOst ?_)
  | (with_reducible refine rRevL ?_)
  | ((with_reducible refine revL_end (xs := ?xs) ?h1 ?_); (case h1 => walk_at "hp")))

theorem use_planted {r p : Addr} {t : Str} {us : List V} {es : List Ed} {m : Int} {H : Hp} {Q : VK} {E : XK} (hR : Reel H r) (hpr : p ≠ r) (ht : t.length ≤ 5000) (hp : H p = some (.lst us)) (he : Edits H us es) (hf : fits t.length es) (hl : es.length ≤ 300) (hn : ∀ x ∈ es, Nm x) (hm : 0 ≤ m ∧ m ≤ 10)
    (h : ∀ (q : Addr) (us' : List V) (es' : List Ed) (H' : Hp), SL r H H' → Reel H' r → Frs H q → H' q = some (.lst us') → Edits H' us' es' → Small es' → (0 < m → ¬ fits t.length es') → Q (.ref q) H') : sp_law_planted [.ref r, .str t, .ref p, .int m] H Q E := ⟨r, p, t, us, es, m, rfl, hR, hpr, ht, hp, he, hf, hl, hn, hm.1, hm.2, fun q us' es' H' h1 h2 h3 h4 h5 h6 h7 _ => h q us' es' H' h1 h2 h3 h4 h5 h6 h7⟩
theorem use_plantedK {r p : Addr} {t : Str} {us : List V} {es : List Ed} {m : Int} {H : Hp} {Q : VK} {E : XK} (hR : Reel H r) (hpr : p ≠ r) (ht : t.length ≤ 5000) (hp : H p = some (.lst us)) (he : Edits H us es) (hf : fits t.length es) (hl : es.length ≤ 300) (hn : ∀ x ∈ es, Nm x) (hm : 0 ≤ m ∧ m ≤ 10)
    (h : ∀ (q : Addr) (us' : List V) (es' : List Ed) (H' : Hp), SL r H H' → Reel H' r → Frs H q → H' q = some (.lst us') → Edits H' us' es' → Small es' → (0 < m → ¬ fits t.length es') → (∀ k, fits t.length (es'.take k) → es'.take k = es.take k) → Q (.ref q) H') : sp_law_planted [.ref r, .str t, .ref p, .int m] H Q E := ⟨r, p, t, us, es, m, rfl, hR, hpr, ht, hp, he, hf, hl, hn, hm.1, hm.2, h⟩
/-- the reel that is being filled -/
def Rl (H : Hp) (p : Addr) (lo hi : Nat) : Prop := ∃ ms : List Int, H p = some (.lst (V.int 0 :: ms.map V.int)) ∧ lo ≤ ms.length ∧ ms.length ≤ hi
theorem Rl.put {H' : Hp} {p : Addr} {ms : List Int} {z : Int} {lo hi : Nat} (h : H' p = some (.lst ((V.int 0 :: ms.map V.int) ++ [V.int z]))) (h1 : lo ≤ ms.length) (h2 : ms.length ≤ hi) : Rl H' p (lo + 1) (hi + 1) :=
  ⟨ms ++ [z], by rw [h, List.map_append]; rfl, by rw [List.length_append]; show _ ≤ _ + 1; omega, by rw [List.length_append]; show _ + 1 ≤ _; omega⟩
theorem Rl.le {H : Hp} {p : Addr} {lo hi lo' hi' : Nat} (h : Rl H p lo hi) (h1 : lo' ≤ lo) (h2 : hi ≤ hi') : Rl H p lo' hi' := let ⟨ms, e, a, b⟩ := h; ⟨ms, e, by omega, by omega⟩
def sp_law_reel (K : PySem.W.Frag) : Sp := fun vs H Q _ => ∃ (a : Addr) (ns : List Int), vs = [.ref a] ∧ SqL K H a (ns.map V.int) ∧ ns.length ≤ 63 ∧ ∀ (r : Addr) (H' : Hp), Frs H r → Same H H' → Reel H' r → Q (.ref r) H'
theorem use_reel {K : PySem.W.Frag} {a : Addr} {ns : List Int} {H : Hp} {Q : VK} {E : XK} (hs : SqL K H a (ns.map V.int)) (hl : ns.length ≤ 63) (h : ∀ (r : Addr) (H' : Hp), Frs H r → Same H H' → Reel H' r → Q (.ref r) H') : sp_law_reel K [.ref a] H Q E := ⟨a, ns, rfl, hs, hl, h⟩
section
variable {P : Program} {w : World} {K : PySem.W.Frag} {mg : Str → Option Value} {base : Heap} {aE : Addr}
theorem cal_law_reel {f : Addr} {fd : FuncData} (T : Txt mg) (FD : C8.Def K mg "_law_reel" s_law_reel f fd) (b : Binds K fd ["script"] []) : C8.Cal P w K mg base 1 "_law_reel" (sp_law_reel K) [] := by
  refine C8.cal0 FD b .nil sc_law_reel (fun vs H Q E h => ?_) (fun cdv A outer s H vs Q E hr h => ?_)
  · obtain ⟨a, ns, rfl, _⟩ := h; rfl
  · obtain ⟨a, ns, rfl, hS, hl, k⟩ := h
    refine ⟨_, (pss_cons (ps_set (i := 1) sc_law_reel.nd rfl (.inl rfl) (pe_lst (pa_cons pe_int pa_nil)))
  (pss_cons (ps_for PassesOwn.never rfl (pi_range1 rfl T.n_range (pa_cons (pe_callB (call_min2U rfl) (by rfl) T.n_min (by decide +kernel) (pa_cons (pe_callB (call_lenK K) (by rfl) T.n_len PySem.boot_len (pa_cons (pv 0) pa_nil)) (pa_cons pe_int pa_nil))) pa_nil)) (pg_name (i := 2) sc_law_reel.nd rfl (.inl rfl)) (pss_cons (ps_set (i := 3) sc_law_reel.nd rfl (.inl rfl) (pe_ix (ix_K K) (pv 0) (pv 2) (fun _ _ => rfl)))
  (pss_one (ps_if (pt_cmpR op_geU (pe_callB call_absU (by rfl) T.n_abs (by decide +kernel) (pa_cons (pv 3) pa_nil)) (pe_op op_powU pe_int pe_int) (nomark _)) (pss_cons (ps_set (i := 4) sc_law_reel.nd rfl (.inl rfl) (pe_callB call_absU (by rfl) T.n_abs (by decide +kernel) (pa_cons (pv 3) pa_nil)))
  (pss_one (ps_for PassesOwn.never rfl (pi_range1 rfl T.n_range (pa_cons pe_int pa_nil)) (pg_name (i := 5) sc_law_reel.nd rfl (.inl rfl)) (pss_one (ps_if (pt_cmpR op_gtU (pv 4) pe_int (nomark _)) (pss_cons (ps_expr (pe_bm F.plainAttrs_list F.slot_list_append F.type_list_append mt_append (pv 1) (pa_cons (pe_op op_modU (pe_callTy call_intU (by rfl) T.n_int (by decide +kernel) (pa_cons (pv 4) pa_nil)) pe_int) pa_nil)))
  (pss_one (ps_set (i := 4) sc_law_reel.nd rfl (.inl rfl) (pe_op op_divU (pv 4) pe_int)))) pss_nil))))) (pss_cons (ps_set (i := 6) sc_law_reel.nd rfl (.inl rfl) (pe_op op_modU (pe_callTy call_intU (by rfl) T.n_int (by decide +kernel) (pa_cons (pe_op (op_addK K) (pe_op (op_addK K) (pe_op op_mulU (pv 3) pe_int) (pe_op op_mulU (pv 2) pe_int)) pe_int) pa_nil)) pe_int))
  (pss_one (ps_for PassesOwn.never rfl (pi_range1 rfl T.n_range (pa_cons pe_int pa_nil)) (pg_name (i := 5) sc_law_reel.nd rfl (.inl rfl)) (pss_cons (ps_set (i := 6) sc_law_reel.nd rfl (.inl rfl) (pe_op op_modU (pe_callTy call_intU (by rfl) T.n_int (by decide +kernel) (pa_cons (pe_op (op_addK K) (pe_op (op_addK K) (pe_op op_mulU (pv 6) pe_int) (pe_op op_mulU (pv 5) pe_int)) pe_int) pa_nil)) pe_int))
  (pss_one (ps_expr (pe_bm F.plainAttrs_list F.slot_list_append F.type_list_append mt_append (pv 1) (pa_cons (pe_op op_modU (pe_callTy call_intU (by rfl) T.n_int (by decide +kernel) (pa_cons (pe_op op_divU (pv 6) pe_int) pa_nil)) pe_int) pa_nil))))))))))))
  (pss_cons (ps_set (i := 6) sc_law_reel.nd rfl (.inl rfl) (pe_op op_modU (pe_callTy call_intU (by rfl) T.n_int (by decide +kernel) (pa_cons (pe_op (op_addK K) (pe_op (op_addK K) (pe_op op_mulU (pe_callB (call_sumK K rfl) (by rfl) T.n_sum (by decide +kernel) (pa_cons (pv 1) pa_nil)) pe_int) (pe_op op_mulU (pe_callB (call_lenK K) (by rfl) T.n_len PySem.boot_len (pa_cons (pv 1) pa_nil)) pe_int)) pe_int) pa_nil)) pe_int))
  (pss_cons (ps_for PassesOwn.never rfl (pi_range1 rfl T.n_range (pa_cons pe_int pa_nil)) (pg_name (i := 5) sc_law_reel.nd rfl (.inl rfl)) (pss_cons (ps_set (i := 6) sc_law_reel.nd rfl (.inl rfl) (pe_op op_modU (pe_callTy call_intU (by rfl) T.n_int (by decide +kernel) (pa_cons (pe_op (op_addK K) (pe_op (op_addK K) (pe_op op_mulU (pv 6) pe_int) (pe_op op_mulU (pv 5) pe_int)) pe_int) pa_nil)) pe_int))
  (pss_one (ps_expr (pe_bm F.plainAttrs_list F.slot_list_append F.type_list_append mt_append (pv 1) (pa_cons (pe_op op_modU (pe_callTy call_intU (by rfl) T.n_int (by decide +kernel) (pa_cons (pe_op op_divU (pv 6) pe_int) pa_nil)) pe_int) pa_nil))))))
  (pss_one (ps_ret (pv 1))))))), ?_⟩
    show (_ : TS) _ [some (.ref a), none, none, none, none, none, none] H
    walk_at "rd"
    refine newO_gen fun p H1 f1 s1 h1 => ?_
    have g1 : Rl H1 p 0 0 := ⟨[], h1, by simp, by simp⟩
    have hml : (ns.map V.int).length = ns.length := List.length_map ..
    walk_at "rd"
    refine len_sql (s1.seq hS) ?_
    walk_at "rd"
    generalize hnb : (if (63 : Int) < ((ns.map V.int).length : Int) then (63 : Int) else ((ns.map V.int).length : Int)).toNat = nb
    have hnb1 : nb ≤ 63 ∧ nb ≤ ns.length := by rw [← hnb, hml]; split <;> omega
    refine loopR_by (fun i σ' H' => ∃ (o2 o3 o4 o5 o6 : Option V), σ' = [some (.ref a), some (.ref p), o2, o3, o4, o5, o6] ∧ SL p H1 H' ∧ Rl H' p 0 (60 * i)) ?_ ?_ ?_
    · exact ⟨none, none, none, none, none, rfl, SL.refl h1, g1⟩
    · rintro i σ' H2 hi ⟨o2, o3, o4, o5, o6, rfl, s2, g2⟩
      have hat : atI (ns.map V.int) (0 + (i : Int)) = some (V.int (ns[i]'(by omega))) := at_of (j := i) (by omega) (by rw [List.getElem?_map, List.getElem?_eq_getElem (by omega)]; rfl)
      generalize ns[i]'(by omega) = cell at hat
      walk_at "rd"
      refine ix_sql ((SL.same s1 s2 f1).seq hS) hat ?_
      walk_at "rd"
      refine ifD (fun c => ?_) (fun c => ?_)
      · walk_at "rd"
        generalize (if cell < 0 then -cell else cell) = rest0
        refine loopR_by (fun j σ' H' => ∃ (rest : Int) (o5 : Option V), σ' = [some (.ref a), some (.ref p), some (.int (0 + (i : Int))), some (.int cell), some (.int rest), o5, o6] ∧ SL p H1 H' ∧ Rl H' p 0 (60 * i + j)) ?_ ?_ ?_
        · exact ⟨rest0, _, rfl, s2, g2⟩
        · rintro j σ' H3 hj ⟨rest, o5, rfl, s3, ms, h3, l3, l3'⟩
          have hml : (V.int 0 :: ms.map V.int).length ≤ 10000 := by rw [List.length_cons, List.length_map]; omega
          walk_at "rd"
          refine ifD (fun c => ?_) (fun c => ?_)
          · walk_at "rd"
            refine putO_gen h3 fun H4 s4 h4 => ?_
            walk_at "rd"
            exact ⟨_, _, rfl, s3.trans s4, (Rl.put h4 l3 l3').le (by omega) (by omega)⟩
          · walk_at "rd"
            exact ⟨_, _, rfl, s3, ms, h3, l3, by omega⟩
        · rintro σ' H3 ⟨rest, o5, rfl, s3, g3⟩
          exact ⟨_, _, _, _, _, rfl, s3, g3.le (Nat.le_refl _) (by show 60 * i + 60 ≤ _; omega)⟩
      · walk_at "rd"
        generalize (cell * 48271 + (0 + (i : Int)) * 69621 + 4099) % 2147483647 = mixed0
        refine loopR_by (fun j σ' H' => ∃ (m : Int) (o5 : Option V), σ' = [some (.ref a), some (.ref p), some (.int (0 + (i : Int))), some (.int cell), o4, o5, some (.int m)] ∧ SL p H1 H' ∧ Rl H' p 0 (60 * i + j)) ?_ ?_ ?_
        · exact ⟨mixed0, _, rfl, s2, g2⟩
        · rintro j σ' H3 hj ⟨m, o5, rfl, s3, ms, h3, l3, l3'⟩
          have hml : (V.int 0 :: ms.map V.int).length ≤ 10000 := by rw [List.length_cons, List.length_map]; omega
          walk_at "rd"
          refine putO_gen h3 fun H4 s4 h4 => ?_
          walk_at "rd"
          exact ⟨_, _, rfl, s3.trans s4, (Rl.put h4 l3 l3').le (by omega) (by omega)⟩
        · rintro σ' H3 ⟨m, o5, rfl, s3, g3⟩
          exact ⟨_, _, _, _, _, rfl, s3, g3.le (Nat.le_refl _) (by show 60 * i + 4 ≤ _; omega)⟩
    · rintro σ' H2 ⟨o2, o3, o4, o5, o6, rfl, s2, ms, h2, l2, l2'⟩
      walk_at "rd"
      refine sum_lst (ns := 0 :: ms) h2 ?_
      walk_at "rd"
      generalize ((0 :: ms).sum * 69621 + ((V.int 0 :: ms.map V.int).length : Int) * 48271 + 977) % 2147483647 = mixed0
      refine loopR_by (fun j σ' H' => ∃ (m : Int) (o5 : Option V), σ' = [some (.ref a), some (.ref p), o2, o3, o4, o5, some (.int m)] ∧ SL p H1 H' ∧ Rl H' p j (60 * nb + j)) ?_ ?_ ?_
      · exact ⟨mixed0, _, rfl, s2, ms, h2, l2, l2'⟩
      · rintro j σ' H3 hj ⟨m, o5, rfl, s3, ms, h3, l3, l3'⟩
        have hml : (V.int 0 :: ms.map V.int).length ≤ 10000 := by rw [List.length_cons, List.length_map]; omega
        walk_at "rd"
        refine putO_gen h3 fun H4 s4 h4 => ?_
        walk_at "rd"
        exact ⟨_, _, rfl, s3.trans s4, (Rl.put h4 l3 l3').le (by omega) (by omega)⟩
      · rintro σ' H3 ⟨m, o5, rfl, s3, ms, h3, l3, l3'⟩
        walk_at "rd"
        exact k p H3 f1 (SL.same s1 s3 f1) ⟨0, ms, h3, l3, by omega⟩
end
end Z
namespace Z
open PySem PySem.Spec L2
/-! ## a loop downwards, stores within a tuple's target -/
section
variable {g : TG} {tb : TS} {nx : L2.St → Hp → Prop} {rt : VK} {bk ct : L2.St → Hp → Prop} {σ : L2.St} {H : Hp} {ta tb' : TE} {tas : TA} {v : V} {R : L2.St → Hp → Prop}
theorem rForR3 (h : tas σ H fun as H1 => ∃ (i j c : Int) (n : Nat), as = [.int i, .int j, .int c] ∧ RgC i j c n ∧ loopJ (Itc i c n) g tb nx rt σ H1) : tFor (iRng3 tas) g tb ⟨nx, rt, bk, ct⟩ σ H := h
theorem rRgD {i j : Int} {R : Int → Int → Nat → Prop} (b : -(2 ^ 62) ≤ i ∧ i < 2 ^ 62 ∧ -(2 ^ 62) ≤ j ∧ j < 2 ^ 62) (h : R i (-1) (i - j).toNat) : ∃ (i' j' c : Int) (n : Nat), [V.int i, V.int j, V.int (-1)] = [.int i', .int j', .int c] ∧ RgC i' j' c n ∧ R i' c n :=
  ⟨i, j, -1, _, rfl, RgC.neg b.1 b.2.1 b.2.2.1 b.2.2.2, h⟩
theorem loopC_by {lo c : Int} {n : Nat} (Pv : Nat → L2.St → Hp → Prop) (h0 : Pv 0 σ H)
    (hs : ∀ (i : Nat) σ H, i < n → Pv i σ H → g (.int (lo + (i : Int) * c)) σ H fun σ2 H2 => tb ⟨Pv (i + 1), rt, nx, Pv (i + 1)⟩ σ2 H2) (hd : ∀ σ H, Pv n σ H → nx σ H) : loopJ (Itc lo c n) g tb nx rt σ H :=
  for_rangeC (D := ⟨nx, rt, fun _ _ => False, fun _ _ => False⟩) Pv h0 hs hd
theorem gS {r : TSet} (h : ta σ H fun o H2 => tb' σ H2 fun k H3 => r o k v H3 fun H4 => R σ H4) : gSub ta tb' r v σ H R := h
end
theorem Paired.set {α β : Type} {F : α → β → Prop} : ∀ {xs : List α} {ys : List β} {x : α} {y : β} (k : Nat), Paired F xs ys → F x y → Paired F (xs.set k x) (ys.set k y)
  | _, _, _, _, _, .nil, _ => .nil
  | _, _, _, _, 0, .cons _ t, r => .cons r t
  | _, _, _, _, k + 1, .cons h t, r => .cons h (Paired.set k t r)
/-- the item ahead of the rest is replaced -/
theorem take_set {α : Type} {xs ws : List α} {k : Nat} {x y : α} (h : xs[k]? = some x) : (xs.take (k + 1) ++ ws).set k y = xs.take k ++ y :: ws := by
  obtain ⟨h1, e⟩ := List.getElem?_eq_some_iff.mp h
  rw [take_snoc h, List.append_assoc, List.set_append_right _ _ (by rw [List.length_take]; omega)]
  have : k - (xs.take k).length = 0 := by rw [List.length_take]; omega
  rw [this]
  rfl
theorem ixN_pos {n : Nat} {i : Int} {k : Nat} (e : i = (k : Int)) (h : k < n) : ixN n i = some k := by
  subst e
  unfold ixN
  rw [if_pos (by omega), if_pos (by omega)]
  rfl
/-- a list, one of its own made before -/
theorem Same.put {H H1 H2 : Hp} {l : Addr} (s0 : Same H H1) (n : H l = none) (s : SL l H1 H2) : Same H H2 := SL.same s0 s n
end Z
namespace Z
open PySem PySem.Spec PyProof.Rows L2 ItX
/-! ## iter(t), t a tuple -/
/-- at it an iterator over the tuple at a, at its beginning -/
def TItO (a it : Addr) : HO := .ext fun h => h.IsTupleIter it a 0
theorem tit_ok {P : Program} {w : World} {H : Hp} {h : Heap} {a it : Addr} (e : h.IsTupleIter it a 0) : ObjOk P w H h it (TItO a it) := ⟨e, let ⟨o, ho, _⟩ := e; ⟨o, ho⟩, fun h1 h2 q k => let ⟨o, ho, r⟩ := q; ⟨o, k o ho, r⟩⟩
section
variable {X : Cx} {pins : List (Addr × Obj)} {σ : L2.St} {H : Hp} {s : Shared} {a it : Addr}
theorem tit_get (I : Inv X pins σ H s) (e : H it = some (TItO a it)) : s.heap.IsTupleIter it a 0 := (I.hok it _ e).1
theorem call_iter_tup {prog : Program} {w : World} {A : Around} {E : Value → Shared → Prop} {t : Addr} {items : Array Value} {Q : Value → Shared → Prop} (ht : s.heap.IsTuple t items)
    (h : Q (.ref s.heap.objs.size) { s with heap := s.heap.push { cls := .type "tuple_iterator", data := .fields #[.ref t, .int 0 0] } }) : wpAny (model prog w) A (call (.builtin "iter") [.ref t]) Q E s := by
  refine Calls.call_function_entry (by decide +kernel) (by decide +kernel) PySem.W.kdk_entry_iter (PySem.W.kdk_args_iter _) ?_
  unfold Builtin.«iter»
  refine wpAny_bind (m := someArgs "iter" 1 2 _) (wpAny_of_eq (a := [Value.ref t]) (by first | rfl | kernel_rfl!) ?_)
  show wpAny _ _ (pyIter (.ref t) >>= _) _ _ _
  refine wpAny_bind (wpAny_pyIter_tuple ht ?_)
  exact wpAny_pure ⟨_, rfl, h⟩
/-- the new iterator is younger than all that is tracked -/
def rIterT (K : PySem.W.Frag) : List V → Hp → VK → Prop := fun vs H Q => ∃ (a : Addr) (xs : List V), vs = [.ref a] ∧ SqT K H a xs ∧ ∀ it, H it = none → (∀ m o, H m = some o → m < it) → Q (.ref it) (upd H it (TItO a it))
theorem call_iterT : CallR X (.builtin "iter") (rIterT X.K) := by
  intro pins s σ H xs us Q I r h
  obtain ⟨a, zs, rfl, hq, q⟩ := h
  obtain ⟨u, rfl, ru⟩ := vals1 r
  cases ru
  obtain ⟨its, rv, pl, hz⟩ := I.tuple hq
  refine call_iter_tup (show s.heap.IsTuple a its.toArray from pl) ?_
  exact ⟨.ref s.heap.objs.size, _, I.laid (t' := s.toks) (fun b u e => Heap.get?_push_of_some _ e) (Nat.le_refl _) (tit_ok ⟨_, Heap.get?_push_size _ rfl, rfl, rfl⟩), rfl, q _ (I.hok.fresh (Nat.le_refl _)) fun m o e => (I.hok m o e).lt⟩
theorem call_iterTK {K : PySem.W.Frag} (hK : X.K = K := by rfl) : CallR X (.builtin "iter") (rIterT K) := by subst hK; exact call_iterT
end
/-! ## own instances walked: __iter__ hands out a tuple's iterator -/
/-- a class whose __iter__ keeps the promise sp, at level k -/
structure ItM (P : Program) (w : World) (K : PySem.W.Frag) (mg : Str → Option Value) (base : Heap) (k : Nat) (C : Addr) (sp : Sp) : Prop where
  ex : ∃ (f : Addr) (fd : FuncData) (ps : List Str), FnOk P w K mg base C8.CX0 k f fd ps sp ∧ Binds K fd ps [] ∧ PySem.W.findIn K (.ref C) "__iter__" = some (some (.ref f)) ∧ PySem.W.isFn K (.ref f) = true
  nolen : PySem.W.findIn K (.ref C) "__len__" = some none
  nohint : PySem.W.findIn K (.ref C) "__length_hint__" = some none
section
variable {X : Cx} {pins : List (Addr × Obj)} {σ : L2.St} {H : Hp} {s : Shared} {p C dx : Addr} {fs : List (Str × V)} {k j : Nat} {sp : Sp} {A1 : Around}
/-- the iterator comes -/
theorem own_iter (M : ItM X.prog X.w X.K X.mg X.base k C sp) (sb : Sub X k A1) {Q : Value → Shared → Prop} {R : Addr → Addr → Hp → Prop} (I : Inv X pins σ H s) (hp : H p = some (.ins C dx fs))
    (h : sp [.ref p] H (fun v H2 => ∃ it a, v = .ref it ∧ X.s_0.heap.objs.size ≤ it ∧ H2 it = some (TItO a it) ∧ R it a H2) C8.E0)
    (hq : ∀ it a H2 s2, Inv X pins σ H2 s2 → H2 it = some (TItO a it) → X.s_0.heap.objs.size ≤ it → R it a H2 → Q (.ref it) s2) :
    wpAny (model X.prog X.w) A1 (pyIter (.ref p)) Q X.xe s := by
  obtain ⟨mA, J, _⟩ := ins_get I.hok hp
  obtain ⟨od, J, _⟩ := J.look
  obtain ⟨m0, hF⟩ := I.fr
  obtain ⟨f, fd, ps, FN, b, at_, isf⟩ := M.ex
  refine PySem.W.owit_iter hF I.ok.mod.kin J at_ isf ?_
  have e0 : Env0 X.prog X.w X.K X.mg X.base A1 X.stack s H := by
    have e := I.env0
    exact ⟨by rw [sb.fr]; exact e.frames, e.mod, e.bs, e.bsz, e.funs, e.frf, e.hok, e.bare⟩
  have hl := FN.len _ _ _ _ h
  have r2 : Vals [V.ref p] [Value.ref p] := .cons rfl .nil
  refine wpAny_call (codeAny_mono (FN.run A1 X.stack s H ⟨[.ref p], []⟩ [.ref p] [.ref p] _ C8.E0 sb.room e0 (by
    have := b s [.ref p] I.kIn (by simpa using hl)
    simpa using this) r2 h) fun r s' hq' => ?_)
  cases r with
  | error e => exact False.elim hq'
  | ok fl =>
    cases fl with
    | next => exact False.elim hq'
    | brk => exact False.elim hq'
    | cont => exact False.elim hq'
    | ret u =>
      obtain ⟨v, H2, I2, rv, it, a, ev, young, hit, hR⟩ := I.after hq'
      subst ev
      cases rv
      have st := tit_get I2 hit
      unfold PySem.W.OwitIt
      exact wpAny_specialOf (name := Str.ofString "__next__") st.typeIs PySem.F.slot_tuple_iterator_next.lookup (hq it a H2 s' I2 hit young hR)
/-- for x in o -/
def iOwn (n : Nat) (K : PySem.W.Frag) (C : Addr) (sp : Sp) (tl : TE) : TI := fun σ H R => tl σ H fun x H1 => ∃ p dx fs, x = .ref p ∧ H1 p = some (.ins C dx fs) ∧
  sp [.ref p] H1 (fun v H2 => ∃ it a, v = .ref it ∧ n ≤ it ∧ H2 it = some (TItO a it) ∧ R (Itt K a) (dropH H2 it)) C8.E0
theorem pi_own {tg l : Expr} {tl : TE} {n : Nat} (M : ItM X.prog X.w X.K X.mg X.base k C sp) (hr : Room j X.A) (hk : k ≤ j) (hl : PE X l tl) (hn : X.s_0.heap.objs.size = n := by rfl) : PI X tg l (iOwn n X.K C sp tl) := by
  subst hn
  refine ⟨fun pins s σ H R I h => ?_⟩
  refine thn (hl.run pins s σ H _ I h) fun v s1 ⟨x, H1, I1, r1, q1⟩ => ?_
  obtain ⟨p, dx, fs, e, hp, q⟩ := q1
  subst e
  cases r1
  refine own_iter M (⟨hr.mono hk, rfl⟩ : Sub X k X.A) I1 hp q fun it a H2 s2 I2 hit young hR => ?_
  have hi' := hit
  unfold TItO at hi'
  refine ⟨it, [it], _, _, dropH H2 it, rfl, inv_drop I2 hi', turn_tuple a it, tit_get I2 hit, fun b hb => ?_, hR⟩
  have e : b = it := by simpa using hb
  rw [e]
  exact inv_fp I2 hit young
theorem pi_ownK {tg l : Expr} {tl : TE} {n : Nat} {K : PySem.W.Frag} (M : ItM X.prog X.w X.K X.mg X.base k C sp) (hr : Room j X.A) (hk : k ≤ j) (hl : PE X l tl) (hn : X.s_0.heap.objs.size = n := by rfl) (hK : X.K = K := by rfl) : PI X tg l (iOwn n K C sp tl) := by subst hK; exact pi_own M hr hk hl hn
/-! ### list(o) -/
/-- the list at q takes the items from the i-th on -/
theorem own_fill {xs : List V} {q it a : Addr} {H0 : Hp} {Rs : Result → Shared → Prop} (hh : A1.in1.handled = none) (ha : H0 a = some (.tup xs)) (hl : xs.length ≤ sizeLine) (hqa : q ≠ a) (hqi : q ≠ it) (hf : FpOk X pins H0 it)
    (hd : ∀ s, Inv X pins σ (upd H0 q (.lst xs)) s → Rs (.ok (.ret .none)) s) :
    ∀ (n i : Nat) (s : Shared), n + i = xs.length → Inv X pins σ (upd H0 q (.lst (xs.take i))) s → s.heap.IsTupleIter it a i → codeAny (model X.prog X.w) A1 (.builtin "list.extend.loop" ⟨[.ref q, .ref it, .none], []⟩) Rs s := by
  intro n
  induction n with
  | zero =>
    intro i s e I st
    have hta : upd H0 q (.lst (xs.take i)) a = some (.tup xs) := (upd_ne hqa.symm).trans ha
    obtain ⟨its, rv, pl, hz⟩ := I.tuple (SqT.of hta)
    have hlen := rv.length
    apply codeAny_builtin PySem.F.entry_extend_loop
    rw [Around.under_plainId PySem.F.plain_extend_loop _]
    show wpAny _ _ (pyNext (.ref it) >>= _) _ _ _
    apply wpAny_bind
    refine wpAny_pyNext_tuple_end hh st (show s.heap.IsTuple a its.toArray from pl) (by simp; omega) fun h' eb => ?_
    have hn : upd H0 q (.lst (xs.take i)) it = none := (upd_ne hqi.symm).trans hf.1
    have I2 : Inv X pins σ (upd H0 q (.lst (xs.take i))) { s with heap := h' } := I.turned (t' := s.toks) (fun b o hb e => eb b o hb e) hn hf.2.1 hf.2.2.2.1 hf.2.2.2.2.1 hf.2.2.2.2.2
    rw [show i = xs.length by omega, List.take_length] at I2
    exact wpAny_pure (hd _ I2)
  | succ n ih =>
    intro i s e I st
    have hta : upd H0 q (.lst (xs.take i)) a = some (.tup xs) := (upd_ne hqa.symm).trans ha
    obtain ⟨its, rv, pl, hz⟩ := I.tuple (SqT.of hta)
    have hx : xs[i]? = some (xs[i]'(by omega)) := List.getElem?_eq_getElem (by omega)
    obtain ⟨u, hu, ru⟩ := rv.get hx
    have hn : upd H0 q (.lst (xs.take i)) it = none := (upd_ne hqi.symm).trans hf.1
    apply codeAny_builtin PySem.F.entry_extend_loop
    rw [Around.under_plainId PySem.F.plain_extend_loop _]
    show wpAny _ _ (pyNext (.ref it) >>= _) _ _ _
    apply wpAny_bind
    refine wpAny_pyNext_tuple_item st (show s.heap.IsTuple a its.toArray from pl) (x := u) (by simpa using hu) fun h' st' sb => ?_
    have I2 : Inv X pins σ (upd H0 q (.lst (xs.take i))) { s with heap := h' } := I.turned (t' := s.toks) (fun b o hb e => (sb.2 b hb).trans e) hn hf.2.1 hf.2.2.2.1 hf.2.2.2.2.1 hf.2.2.2.2.2
    obtain ⟨z, ws, k, r2, hl2, e2⟩ := I2.lstM upd_same
    have hw := r2.length
    rw [List.length_take] at hw
    show wpAny _ _ (updateSeq q (·.push u) >>= _) _ _ _
    apply wpAny_bind
    refine wpAny_updateSeq e2 rfl ?_ (by rw [List.size_toArray]; omega) (by rw [Array.size_push, List.size_toArray]; omega)
    refine wpAny_pure ⟨plainId_quiet PySem.F.plain_extend_loop _, ih (i + 1) _ (by omega) ?_ ?_⟩
    · have I3 := I2.lset (its' := ws ++ [u]) (f := (·.push u)) (ys := xs.take i ++ [xs[i]'(by omega)]) (t' := s.toks) upd_same e2 (by simp) (r2.append (.cons ru .nil)) (by rw [List.length_append, List.length_take]; show _ + 1 ≤ _; omega)
      rw [upd_upd, ← take_snoc hx] at I3
      exact I3
    · obtain ⟨o, ho, hc, hd'⟩ := st'
      refine ⟨o, ?_, hc, hd'⟩
      exact (Heap.SameBut.update ..).2 it (fun z => hqi z.symm) |>.trans ho
def rListOwn (n : Nat) (C : Addr) (sp : Sp) : List V → Hp → VK → Prop := fun vs H Q => ∃ p dx fs, vs = [.ref p] ∧ H p = some (.ins C dx fs) ∧ ∀ q, H q = none → n ≤ q →
  sp [.ref p] (upd H q (.lst [])) (fun v H2 => ∃ it a, v = .ref it ∧ n ≤ it ∧ H2 it = some (TItO a it) ∧ ∃ xs dx' fs', H2 p = some (.ins C dx' fs') ∧ H2 a = some (.tup xs) ∧ H2 q = some (.lst []) ∧ Q (.ref q) (upd (dropH H2 it) q (.lst xs))) C8.E0
theorem call_listOwn {n : Nat} (M : ItM X.prog X.w X.K X.mg X.base k C sp) (hr : Room j X.A) (hk : k + 2 ≤ j) (hc : X.calm = true) (hn : X.s_0.heap.objs.size = n := by rfl) : CallR X (.type "list") (rListOwn n C sp) := by
  subst hn
  intro pins s σ H xs us Q I rv h
  obtain ⟨p, dx, fs, rfl, hp, hq⟩ := h
  obtain ⟨u, rfl, ru⟩ := rv.one
  cases ru
  have sb : Sub X k X.A.in1.in1 := Sub.in1 (Sub.in1 (⟨hr.mono hk, rfl⟩ : Sub X (k + 2) X.A))
  refine callType_codes (Q₁ := fun obj s1 => obj = .ref s.heap.objs.size ∧ s1 = { s with heap := s.heap.push { cls := .type "list", data := .seq #[] } }) PySem.F.called_list (PySem.F.typeCall_list_1 _) PySem.F.entry_list_init
    (code_list_new _ ⟨rfl, rfl⟩) ?_
  rintro obj s1 ⟨rfl, rfl⟩
  have hS : (s.heap.push { cls := .type "list", data := .seq #[] }).get? s.heap.objs.size = some { cls := .type "list", data := .seq #[] } := Heap.get?_push_size _ rfl
  refine ⟨⟨_, hS, rfl⟩, PySem.F.args_list_init_2 _ _, ?_⟩
  have fr : H s.heap.objs.size = none := I.hok.fresh (Nat.le_refl _)
  have I1 : Inv X pins σ (upd H s.heap.objs.size (.lst [])) { s with heap := s.heap.push { cls := .type "list", data := .seq #[] } } := I.lnew (its := []) (t' := s.toks) .nil (Nat.zero_le _)
  have hsp := hq _ fr I.sz
  generalize hqq : s.heap.objs.size = q at hS fr I1 hsp ⊢
  show wpAny _ _ (do let old ← Builtin.List.listItems (.ref q); Builtin.List.listUpdate (.ref q) (fun _ => #[]); letGo old.toList.reverse; Builtin.List.listExtendWith (.ref q) (.ref p) .none) _ _ _
  apply wpAny_bind
  unfold Builtin.List.listItems
  apply wpAny_bind
  refine wpAny_seqItems hS rfl (wpAny_pure ?_)
  show wpAny _ _ (updateSeq q (fun _ => #[]) >>= fun _ => letGo (#[] : Array Value).toList.reverse >>= fun _ => Builtin.List.listExtendWith (.ref q) (.ref p) .none) _ _ _
  apply wpAny_bind
  refine wpAny_updateSeq hS rfl ?_
  have I2 := I1.lset (f := fun _ => #[]) (its := []) (its' := []) (ys := []) (t' := s.toks) upd_same hS rfl .nil (Nat.zero_le _)
  rw [upd_upd] at I2
  apply wpAny_bind
  apply wpAny_letGo
  have hqp : q ≠ p := (ne_of_none hp fr).symm
  have hp2 : upd H q (.lst []) p = some (.ins C dx fs) := by rw [upd_ne hqp.symm]; exact hp
  obtain ⟨mA, J, _⟩ := ins_get I2.hok hp2
  obtain ⟨od, J, _⟩ := J.look
  unfold Builtin.List.listExtendWith
  apply wpAny_bind
  apply J.type.here
  have h1 : Builtin.List.listSameRef (.ref q) (.ref p) = false := by simp [Builtin.List.listSameRef, hqp]
  have h2 : (Value.ref C == Value.type "list") = false := rfl
  have h3 : (Value.ref C == Value.type "tuple") = false := rfl
  simp only [h1, h2, h3, Bool.or_false, Bool.false_eq_true, if_false]
  apply wpAny_bind
  refine wpAny_mono (own_iter M sb I2 hp2 hsp (Q := fun v s2 => ∃ it a H2, v = .ref it ∧ Inv X pins σ H2 s2 ∧ H2 it = some (TItO a it) ∧ X.s_0.heap.objs.size ≤ it ∧ ∃ xs dx' fs', H2 p = some (.ins C dx' fs') ∧ H2 a = some (.tup xs) ∧ H2 q = some (.lst []) ∧ Q (.ref q) (upd (dropH H2 it) q (.lst xs))) fun it a H2 s2 I3 hit young hR => ⟨it, a, H2, rfl, I3, hit, young, hR⟩) ?_ fun _ _ z => z
  rintro v s2 ⟨it, a, H2, rfl, I3, hit, young, xs, dx', fs', hp3, hxs, hq3, hQ⟩
  have hi' := hit
  unfold TItO at hi'
  have hqi : q ≠ it := fun z => by rw [z, hit] at hq3; cases hq3
  have hai : a ≠ it := fun z => by rw [z, hit] at hxs; cases hxs
  have hpi : p ≠ it := fun z => by rw [z, hit] at hp3; cases hp3
  have hqa : q ≠ a := fun z => by rw [z, hxs] at hq3; cases hq3
  have st := tit_get I3 hit
  have ff := inv_fp I3 hit young
  have I4 := inv_drop I3 hi'
  have hq4 : dropH H2 it q = some (.lst []) := (dropH_ne hqi).trans hq3
  have ha4 : dropH H2 it a = some (.tup xs) := (dropH_ne hai).trans hxs
  have hp4 : dropH H2 it p = some (.ins C dx' fs') := (dropH_ne hpi).trans hp3
  generalize dropH H2 it = H4 at ff I4 hq4 ha4 hp4 hQ
  obtain ⟨mA4, J4, _⟩ := ins_get I4.hok hp4
  obtain ⟨od4, J4, _⟩ := J4.look
  have hH : upd H4 q (.lst []) = H4 := by
    funext b
    by_cases hb : b = q
    · rw [hb, upd_same, hq4]
    · rw [upd_ne hb]
  obtain ⟨its0, rv0, pl0, hz0⟩ := I4.tuple (SqT.of ha4)
  have hl0 := rv0.length
  have fin : ∀ s3 : Shared, Inv X pins σ H4 s3 → s3.heap.IsTupleIter it a 0 → codeAny (model X.prog X.w) X.A.in1 (.builtin "list.extend.loop" ⟨[.ref q, .ref it, .none], []⟩) (wants (fun r s4 => r = .none ∧ EP X pins σ Q (.ref q) s4) X.xe) s3 := fun s3 I5 st5 => by
    refine own_fill (A1 := X.A.in1) (xs := xs) (H0 := H4) (by exact I5.ok.hd hc) ha4 hz0 hqa hqi ff (fun s4 I6 => ⟨rfl, .ref q, _, I6, rfl, hQ⟩) xs.length 0 s3 (by omega) ?_ st5
    rw [List.take_zero, hH]
    exact I5
  apply wpAny_bind
  refine wpAny_holding ?_
  unfold Builtin.List.listLengthHint
  refine wpAny_bind (wpAny_bind (J4.type.here ((PySem.W.looks_findIn I4.kIn M.nolen).here ?_)))
  refine PySem.W.KFB.if_not rfl (PySem.W.KFB.if_not rfl ?_)
  refine wpAny_bind (wpAny_bind (J4.type.here ((PySem.W.looks_findIn I4.kIn M.nohint).here (wpAny_pure ?_))))
  obtain ⟨z, its, kk, r3, hl3, e3⟩ := I4.lstM hq4
  cases r3
  refine wpAny_ite_split (fun _ => ?_) (fun _ => wpAny_pure ⟨plainId_quiet PySem.F.plain_extend_loop _, fin s2 I4 st⟩)
  apply wpAny_bind
  apply wpAny_rule
  apply wpAny_bind
  show wpAny _ _ (updateSeq q (·.push .none) >>= fun _ => updateSeq q (·.pop)) _ _ _
  apply wpAny_bind
  refine wpAny_updateSeq e3 rfl ?_
  have I5 := I4.lset (f := (·.push Value.none)) (its' := [Value.none]) (ys := [.non]) (t' := s2.toks) hq4 e3 (by simp) (.cons rfl .nil) (by show 1 ≤ _; rw [sizeLine_eq]; decide)
  obtain ⟨z4, its4, k4, r4, hl4, e4⟩ := I5.lstM upd_same
  obtain ⟨u4, rfl, ru4⟩ := r4.one
  refine wpAny_updateSeq e4 rfl ?_ (by show 1 ≤ sizeLine; rw [sizeLine_eq]; decide) (Nat.zero_le _)
  refine wpAny_pure ⟨plainId_quiet PySem.F.plain_extend_loop _, fin _ ?_ ?_⟩
  · have I6 := I5.lset (f := (·.pop)) (its := [u4]) (its' := []) (ys := []) (t' := s2.toks) upd_same e4 (by rfl) .nil (Nat.zero_le _)
    rw [upd_upd, hH] at I6
    exact I6
  · obtain ⟨o, ho, hcl, hd'⟩ := st
    refine ⟨o, ?_, hcl, hd'⟩
    have g1 := (Heap.SameBut.update (h := s2.heap) (a := q) (f := Obj.mapSeq (·.push Value.none))).2 it (fun z => hqi z.symm)
    have g2 := (Heap.SameBut.update (h := s2.heap.update q (Obj.mapSeq (·.push Value.none))) (a := q) (f := Obj.mapSeq (·.pop))).2 it (fun z => hqi z.symm)
    exact g2.trans (g1.trans ho)
end
end Z
namespace Z
open PySem PySem.Spec PyProof.Rows L2 ItX
/-! ## readings of own instances -/
/-- all but lists stay -/
def KpS (H H' : Hp) : Prop := ∀ a o, H a = some o → (∀ xs, o ≠ .lst xs) → H' a = some o
theorem KpS.same {H H' : Hp} (s : Same H H') : KpS H H' := fun a o e _ => s a o e
theorem KpS.sl {l : Addr} {H H' : Hp} (s : SL l H H') : KpS H H' := fun a o e n => by
  obtain ⟨xs, e1⟩ := s.was
  refine s.keep a o (fun z => ?_) e
  rw [z, e1] at e
  exact n xs (Option.some.inj e).symm
theorem KpS.trans {H H1 H2 : Hp} (a : KpS H H1) (b : KpS H1 H2) : KpS H H2 := fun x o e n => b x o (a x o e n) n
theorem KpS.tp {H H' : Hp} (s : KpS H H') : TpS H H' := fun p xs e => s p _ e fun _ z => nomatch z
theorem KpS.ins {H H' : Hp} {p C dx : Addr} {fs : List (Str × V)} (s : KpS H H') (e : H p = some (.ins C dx fs)) : H' p = some (.ins C dx fs) := s p _ e fun _ z => nomatch z
/-- what is asked of the written part for an own class -/
structure ClsF (K : PySem.W.Frag) (mg : Str → Option Value) (C : Addr) (x : Str) : Prop where
  cl : Cls K C
  mgC : mg x = some (.ref C)
  ha : PySem.W.findIn K (.ref C) "__class__" = some (some (.builtin "object.__class__"))
  hn : PySem.W.specialIn K (.builtin "object.__class__") "__get__" = some (some (.builtin "getset_descriptor.__get__"))
  htk : PySem.W.takesIn K (.builtin "object.__class__") = some true
  hm : PySem.W.mroIn K C (.type "object") = some true
section
variable {K : PySem.W.Frag} {mg : Str → Option Value} {H : Hp} {Q : VK} {p C dx : Addr} {fs : List (Str × V)} {f x : Str} {v : V} {ta te : TE} {tas : TA} {σ : L2.St}
theorem rFld (h : ta σ H fun x H1 => ∃ a C dx fs v, x = .ref a ∧ H1 a = some (.ins C dx fs) ∧ Cls K C ∧ NoAttr K C f ∧ fs.lookup f = some v ∧ Q v H1) : tFld K ta f σ H Q := h
theorem fld_end {R : V → Prop} (hp : H p = some (.ins C dx fs)) (U : ClsF K mg C x) (n : NoAttr K C f) (l : fs.lookup f = some v) (h : R v) :
    ∃ a C dx fs v, V.ref p = .ref a ∧ H a = some (.ins C dx fs) ∧ Cls K C ∧ NoAttr K C f ∧ fs.lookup f = some v ∧ R v := ⟨p, C, dx, fs, v, rfl, hp, U.cl, n, l, h⟩
theorem rSFld {tv : TE} {nx : L2.St → Hp → Prop} {rt : VK} {bk ct : L2.St → Hp → Prop} (h : tv σ H fun y H1 => ta σ H1 fun x H2 => ∃ a C dx fs, x = .ref a ∧ H2 a = some (.ins C dx fs) ∧ Cls K C ∧ NoAttr K C f ∧ fs.length < 1000 ∧ nx σ (upd H2 a (.ins C dx (putF f y fs)))) :
    sFld K ta tv f ⟨nx, rt, bk, ct⟩ σ H := h
theorem rMake {sp : Sp} {E : XK} (h : tas σ H fun vs H1 => ∀ x dx, H1 x = none → H1 dx = none → dx ≠ x → sp (.ref x :: (vs ++ [])) (upd (upd H1 dx (.own x)) x (.ins C dx [])) (fun v H2 => v = .non ∧ Q (.ref x) H2) E) : tMake C sp [] E tas σ H Q := h
theorem rMeth {sp : Sp} {E : XK} {m : Str} (h : ta σ H fun x H1 => ∃ a dx fs, x = .ref a ∧ H1 a = some (.ins C dx fs) ∧ fs.lookup m = none ∧ tas σ H1 fun vs H2 => sp (x :: (vs ++ [])) H2 Q E) : tMeth C m sp [] E ta tas σ H Q := h
theorem meth_end {m : Str} {R : Prop} (hp : H p = some (.ins C dx fs)) (l : fs.lookup m = none) (h : R) : ∃ a dx fs, V.ref p = .ref a ∧ H a = some (.ins C dx fs) ∧ fs.lookup m = none ∧ R := ⟨p, dx, fs, rfl, hp, l, h⟩
theorem nil_app {sp : Sp} {vs : List V} {E : XK} (h : sp vs H Q E) : sp (vs ++ []) H Q E := by rw [List.append_nil]; exact h
theorem isi_own {y : Str} {c : Addr} {b : Bool} (hp : H p = some (.ins C dx fs)) (U : ClsF K mg C y) (e : PySem.W.kitOne K (.ref C) (.ref c) = some b) (h : Q (.bl b) H) : rIsiU K [.ref p, .ref c] H Q :=
  .inl ⟨.ref p, .ref c, _, _, b, rfl, .own c, .base (.ins hp U.cl U.ha U.hn U.htk U.hm), e, h⟩
theorem kit_self : PySem.W.kitOne K (.ref C) (.ref C) = some true := by
  show (if (Value.ref C == Value.ref C) = true then some true else _) = some true
  rw [if_pos (beq_iff_eq.mpr rfl)]
/-- a new instance, written by its __init__ -/
theorem same_ins {x dx : Addr} {o1 o2 o3 : HO} (hx : H x = none) (hd : H dx = none) (hdx : dx ≠ x) : Same H (upd (upd (upd H dx o1) x o2) x o3) := fun b o e => by
  rw [upd_ne (ne_of_none e hx), upd_ne (ne_of_none e hx), upd_ne (ne_of_none e hd)]
  exact e
end
theorem pe_fldK {X : Cx} {e : Expr} {ta : TE} {f : Str} {pos : Pos} {K : PySem.W.Frag} (he : PE X e ta) (hb : attributeBase e f X.env (eval e X.env) = eval e X.env) (hK : X.K = K := by rfl) : PE X (.Attribute e f pos) (tFld K ta f) := by subst hK; exact pe_fld he hb
theorem ps_fldK {X : Cx} {o value : Expr} {ta tv : TE} {f : Str} {pos pos' : Pos} {K : PySem.W.Frag} (ha : PE X o ta) (hv : PE X value tv) (hs : swapsWith value (some (.Attribute o f pos')) pos.line X.env = pure false) (hK : X.K = K := by rfl) : PS X (.Assign [.Attribute o f pos'] value pos) (sFld K ta tv f) := by subst hK; exact ps_fld ha hv hs
/-! ### an object made, what is asked in a def's own words -/
def tU (t : TA) : TA := fun σ H QA => ∃ QB : List V → Hp → Prop, (∀ vs H1, QB vs H1 → QA vs H1) ∧ t σ H QB
theorem PA.up {X : Cx} {es : List Expr} {t : TA} (ha : PA X es t) : PA X es (tU t) := ⟨fun pos pins s σ H Q I ⟨QB, hq, h⟩ => thn (ha.run pos pins s σ H QB I h) fun us s1 ⟨vs, H1, I1, r, q⟩ => ⟨vs, H1, I1, r, hq _ _ q⟩⟩
theorem PE.imp {X : Cx} {e : Expr} {T T' : TE} (h : PE X e T) (k : ∀ σ H Q, T' σ H Q → T σ H Q) : PE X e T' := ⟨fun pins s σ H Q I q => h.run pins s σ H Q I (k σ H Q q)⟩
def tMkW (W : List V → Hp → VK → Prop) (t : TA) : TE := fun σ H Q => t σ H fun vs H1 => W vs H1 Q
theorem rMkW {W : List V → Hp → VK → Prop} {t : TA} {σ : L2.St} {H : Hp} {Q : VK} (h : t σ H fun vs H1 => W vs H1 Q) : tMkW W t σ H Q := h
theorem pe_mkI {X : Cx} {k j : Nat} {x : Str} {C : Addr} {sp : Sp} {W : List V → Hp → VK → Prop} {p pos : Pos} {e : Expr} {es : List Expr} {t : TA} (c : C8.Mak X.prog X.w X.K X.mg X.base k x C sp []) (hr : Room j X.A) (hk : k + 1 ≤ j) (hg : Gl X x) (ha : PA X (e :: es) t)
    (hw : ∀ vs H1 Q, W vs H1 Q → ∀ x dx, H1 x = none → H1 dx = none → dx ≠ x → sp (.ref x :: (vs ++ [])) (upd (upd H1 dx (.own x)) x (.ins C dx [])) (fun v H2 => v = .non ∧ Q (.ref x) H2) C8.E0)
    (hdb : (x == ("__debug__" : Str)) = false := by decide) (he : starEach (e :: es) X.env = (false, eval e X.env) :: starEach es X.env := by rfl) (hpl : (backTo pos (starEach es X.env)).any (·.1) = false := by rfl) :
    PE X (.Call (.Name x p) (e :: es) [] pos) (tMkW W t) :=
  PE.imp (C8.pe_mk c hr hk hg (PA.up ha) hdb he hpl) fun σ H Q h => ⟨_, fun vs H1 q => hw vs H1 Q q, h⟩
/-- a new instance -/
def newI (C : Addr) (fs : List (Str × V)) (H : Hp) (Q : VK) : Prop := ∀ (p dx : Addr) (H' : Hp), Frs H p → Same H H' → H' p = some (.ins C dx fs) → Q (.ref p) H'
theorem newI_gen {C : Addr} {fs : List (Str × V)} {H : Hp} {Q : VK} (h : ∀ (p dx : Addr) (H' : Hp), Frs H p → Same H H' → H' p = some (.ins C dx fs) → Q (.ref p) H') : newI C fs H Q := h
/-! ## tuples walked -/
section
variable {g : TG} {tb : TS} {nx : L2.St → Hp → Prop} {rt : VK} {bk ct : L2.St → Hp → Prop} {σ : L2.St} {H : Hp} {te tl : TE} {tt : TT} {K : PySem.W.Frag} {Q : VK} {n i : Nat} {vs : List Nat} {C p a : Addr} {sp : Sp} {dx : Addr} {fs : List (Str × V)}
theorem rForT (h : tl σ H fun x H1 => ∃ a, x = .ref a ∧ (∃ xs, SqT K H1 a xs) ∧ loopJ (Itt K a) g tb nx rt σ H1) : tFor (iTup K tl) g tb ⟨nx, rt, bk, ct⟩ σ H := h
theorem rRt {xs : List V} {R : Addr → Prop} (h1 : H p = some (.tup xs)) (h : R p) : ∃ a, V.ref p = V.ref a ∧ (∃ xs, SqT K H a xs) ∧ R a := ⟨p, rfl, ⟨xs, SqT.of h1⟩, h⟩
theorem rLcT (h : tl σ H fun x H1 => ∃ a, x = .ref a ∧ (∃ xs, SqT K H1 a xs) ∧ compJ (Itt K a) g tt te vs σ H1 Q) : tLc (iTup K tl) g tt te vs σ H Q := h
theorem loopT_by {xs : List V} (Pv : Nat → L2.St → Hp → Prop) (h0 : Pv 0 σ H) (hl : ∀ i σ H, i ≤ xs.length → Pv i σ H → H a = some (.tup xs))
    (hs : ∀ i x σ H, xs[i]? = some x → Pv i σ H → g x σ H fun σ2 H2 => tb ⟨Pv (i + 1), rt, nx, Pv (i + 1)⟩ σ2 H2) (hd : ∀ σ H, Pv xs.length σ H → nx σ H) : loopJ (Itt K a) g tb nx rt σ H :=
  for_tup (K := K) (D := ⟨nx, rt, fun _ _ => False, fun _ _ => False⟩) Pv h0 (fun i σ H hi p => SqT.of (hl i σ H hi p)) hs hd
theorem compT_pure {xs : List V} (ha : H a = some (.tup xs)) (Pa : List V → Hp → Prop) (h0 : ∀ H2, Same H H2 → Pa [] H2)
    (hs : ∀ acc x H2 D, pIn H D xs.length acc H2 → xs[acc.length]? = some x → Pa acc H2 → te ((σ.set i none).set i (some x)) H2 (fun y H3 => pD H D Pa acc.length y H3))
    (hd : ∀ acc H2 D, acc.length = xs.length → Pa acc H2 → Same H H2 → H2 D = some (.lst acc) → Frs H D → Q (.ref D) H2) : compJ (Itt K a) (gName i) tYes te [i] σ H Q := by
  intro D hD
  refine lc_tup (K := K) (a := a) (xs := xs) (Qd := fun H' => Q (.ref D) H') (fun k H' => ∃ acc, acc.length = k ∧ Pa acc H' ∧ Same H H' ∧ H' D = some (.lst acc)) ⟨[], rfl, h0 _ (Same.upd_new (Same.refl H) hD), Same.upd_new (Same.refl H) hD, upd_same⟩ (fun i H' _ ⟨_, _, _, s, _⟩ => SqT.of (s _ _ ha)) ?_ ?_
  · rintro k x H' hx ⟨acc, rfl, pa, s, hDl⟩
    exact ⟨wipe1 σ i _, (hs acc x H' D ⟨hDl, hD, s, (List.getElem?_eq_some_iff.mp hx).1⟩ hx pa)⟩
  · rintro H' ⟨acc, e, pa, s, hDl⟩
    exact hd acc H' D e pa s hDl hD
/-- an own instance is walked: its iterator comes, and is forgotten -/
def ownW (n : Nat) (C : Addr) (sp : Sp) (x : V) (H1 : Hp) (R : Addr → Hp → Prop) : Prop := ∃ p dx fs, x = .ref p ∧ H1 p = some (.ins C dx fs) ∧ sp [.ref p] H1 (fun v H2 => ∃ it a, v = .ref it ∧ n ≤ it ∧ H2 it = some (TItO a it) ∧ R a (dropH H2 it)) C8.E0
theorem rLcO (h : tl σ H fun x H1 => ownW n C sp x H1 fun a H' => compJ (Itt K a) g tt te vs σ H' Q) : tLc (iOwn n K C sp tl) g tt te vs σ H Q := h
theorem rForO (h : tl σ H fun x H1 => ownW n C sp x H1 fun a H' => loopJ (Itt K a) g tb nx rt σ H') : tFor (iOwn n K C sp tl) g tb ⟨nx, rt, bk, ct⟩ σ H := h
end
/-! ## new objects that are known to be young -/
section
variable {X : Cx} {pins : List (Addr × Obj)} {σ : L2.St} {H : Hp} {s : Shared} {n : Nat} {Q : VK} {p : Addr} {xs : List V} {K : PySem.W.Frag} {C : Addr} {sp : Sp}
def newY (n : Nat) (o : HO) (H : Hp) (Q : VK) : Prop := ∀ p, H p = none → n ≤ p → Q (.ref p) (upd H p o)
theorem newY_gen {o : HO} (h : ∀ (p : Addr) (H' : Hp), Frs H p → Same H H' → H' p = some o → n ≤ p → Q (.ref p) H') : newY n o H Q := fun p hp hy =>
  h p _ hp (fun b u e => by rw [upd_ne (ne_of_none e hp)]; exact e) upd_same hy
def tLstY (n : Nat) (t : TA) : TE := fun σ H Q => t σ H fun xs H1 => xs.length ≤ sizeLine ∧ newY n (.lst xs) H1 Q
theorem pe_lstY {es : List Expr} {pos : Pos} {t : TA} (h : PA X es t) (hn : X.s_0.heap.objs.size = n := by rfl) : PE X (.List es pos) (tLstY n t) := by
  subst hn
  refine ⟨fun pins s σ H Q I hq => wpAny_List_spliced (thn (h.run pos pins s σ H _ I hq) ?_)⟩
  rintro us s1 ⟨xs, H1, I1, r, z, q⟩
  refine ⟨by rw [← r.length]; exact z, .ref s1.heap.objs.size, _, I1.laid (o := .lst xs) (t' := s1.toks) (fun b u e => Heap.get?_push_of_some _ e) (Nat.le_refl _) ⟨z, us, 0, r, Heap.get?_push_size _ rfl⟩, rfl, q _ (I1.hok.fresh (Nat.le_refl _)) I1.sz⟩
theorem rLstY {t : TA} (h : t σ H fun xs H1 => xs.length ≤ sizeLine ∧ newY n (.lst xs) H1 Q) : tLstY n t σ H Q := h
/-- list(..) of a list, a tuple, an own instance -/
def rListY (n : Nat) (K : PySem.W.Frag) (C : Addr) (sp : Sp) : List V → Hp → VK → Prop := fun vs H Q => (∃ p ys, vs = [.ref p] ∧ (SqL K H p ys ∨ SqT K H p ys) ∧ newY n (.lst ys) H Q) ∨ rListOwn n C sp vs H Q
theorem call_listN (hn : X.s_0.heap.objs.size = n := by rfl) : CallR X (.type "list") (fun vs H Q => ∃ p ys, vs = [.ref p] ∧ (SqL X.K H p ys ∨ SqT X.K H p ys) ∧ newY n (.lst ys) H Q) := by
  subst hn
  intro pins s σ H xs us Q I r h
  obtain ⟨p, ys, rfl, hq, q⟩ := h
  obtain ⟨u, rfl, rx⟩ := vals1 r
  cases rx
  have go : ∀ (T : String) (o : Obj) (its : List Value) (c : Nat), (T = "list" ∨ T = "tuple") → s.heap.get? p = some o → o.cls = .type T → o.data = .seq its.toArray c → Vals ys its → ys.length ≤ sizeLine → wpAny (model X.prog X.w) X.A (call (.type "list") [.ref p]) (EP X pins σ Q) X.xe s := fun T o its c hT ho hc hd r' hz => by
    have hlen := r'.length
    refine call_list_seq p hT ho hc hd (fun h' c' kp e => ?_) (by simp only [List.size_toArray]; omega)
    exact ⟨.ref s.heap.objs.size, _, I.laid (o := .lst ys) (t' := s.toks) kp (Nat.le_refl _) ⟨hz, its, c', r', e⟩, rfl, q _ (I.hok.fresh (Nat.le_refl _)) I.sz⟩
  rcases hq with hq | hq
  · obtain ⟨its, r', pl, hz⟩ := I.list hq
    obtain ⟨o, ho, hc, c, hd⟩ := pl.isList
    exact go "list" o its c (.inl rfl) ho hc hd r' hz
  · obtain ⟨its, r', ⟨o, ho, hc, c, hd⟩, hz⟩ := I.tuple hq
    exact go "tuple" o its c (.inr rfl) ho hc hd r' hz
theorem call_listY {k j : Nat} (M : ItM X.prog X.w X.K X.mg X.base k C sp) (hr : Room j X.A) (hk : k + 2 ≤ j) (hc : X.calm = true) (hn : X.s_0.heap.objs.size = n := by rfl) (hK : X.K = K := by rfl) : CallR X (.type "list") (rListY n K C sp) := by
  subst hK
  exact CallR.or (call_listN hn) (call_listOwn M hr hk hc hn)
theorem listY_lst (h1 : H p = some (.lst xs)) (h : newY n (.lst xs) H Q) : rListY n K C sp [.ref p] H Q := .inl ⟨p, xs, rfl, .inl (SqL.of h1), h⟩
theorem listY_tup (h1 : H p = some (.tup xs)) (h : newY n (.lst xs) H Q) : rListY n K C sp [.ref p] H Q := .inl ⟨p, xs, rfl, .inr (SqT.of h1), h⟩
theorem iter_tup {R : Addr → Hp → Prop} (h1 : H p = some (.tup xs)) (h : ∀ it, H it = none → (∀ m o, H m = some o → m < it) → Q (.ref it) (upd H it (TItO p it))) : rIterT K [.ref p] H Q := ⟨p, xs, rfl, SqT.of h1, h⟩
end
end Z
namespace Z
open PySem PySem.Spec PyProof.Rows L2 ItX
/-! ## x in o, o an own instance -/
section
variable {X : Cx} {k j n : Nat} {C : Addr} {m key : Str} {sp : Sp} {K : PySem.W.Frag}
def rInOwn (C : Addr) (sp : Sp) : R2 := fun x y H Q => ∃ p dx fs, y = .ref p ∧ H p = some (.ins C dx fs) ∧ sp [.ref p, x] H (fun v H2 => ∃ b, v = .bl b ∧ Q (.bl b) H2) C8.E0
theorem op_inOwn (c : C8.Met X.prog X.w X.K X.mg X.base k C "__contains__" sp []) (hr : Room j X.A) (hk : k ≤ j) : OpR X (compareOp .In) (rInOwn C sp) := by
  intro pins s σ H x y v u Q I rx ry h
  obtain ⟨p, dx, fs, rfl, hp, hsp⟩ := h
  cases ry
  obtain ⟨f, fd, ps, ds, hc, hm, FN, b, d⟩ := c.ex
  cases d
  obtain ⟨mA, J, _⟩ := ins_get I.hok hp
  obtain ⟨od, J, _⟩ := J.look
  obtain ⟨m0, hF⟩ := I.fr
  refine PySem.W.in_K hF I.ok.mod.kin J hm.at_ hm.fn ?_
  have hl := FN.len _ _ _ _ hsp
  have r2 : Vals [V.ref p, x] [Value.ref p, v] := .cons rfl (.cons rx .nil)
  refine wpAny_call (codeAny_mono (FN.run X.A X.stack s H ⟨[.ref p, v], []⟩ [.ref p, v] [.ref p, x] _ C8.E0 (hr.mono hk) I.env0 (by
    have := b s [.ref p, v] I.kIn (by simpa using hl)
    simpa using this) r2 hsp) fun r s' hq' => ?_)
  cases r with
  | error e => exact False.elim hq'
  | ok fl =>
    cases fl with
    | next => exact False.elim hq'
    | brk => exact False.elim hq'
    | cont => exact False.elim hq'
    | ret u =>
      obtain ⟨z, H2, I2, rv, b, ez, hQ⟩ := I.after hq'
      subst ez
      cases rv
      exact wpAny_truthy_bool ⟨.bl b, H2, I2, rfl, hQ⟩
/-! ## o.m(e, .., key = e') -/
/-- a method that takes n things by place and one by its name -/
structure MetK (P : Program) (w : World) (K : PySem.W.Frag) (mg : Str → Option Value) (base : Heap) (k n : Nat) (C : Addr) (m key : Str) (sp : Sp) : Prop where
  ex : ∃ (f : Addr) (fd : FuncData) (ps : List Str), Cls K C ∧ Meth K C m f ∧ FnOk P w K mg base C8.CX0 k f fd ps sp ∧ ∀ (s : Shared) (us : List Value) (w : Value), us.length = n → BindsTo s fd ⟨us, [(key, w)]⟩ (ps.zip (us ++ [w]))
def tMethK (C : Addr) (m : Str) (n : Nat) (sp : Sp) (ta : TE) (t : TA) (tk : TE) : TE := fun σ H Q => ta σ H fun x H1 => ∃ a dx fs, x = .ref a ∧ H1 a = some (.ins C dx fs) ∧ fs.lookup m = none ∧
  t σ H1 fun vs H2 => tk σ H2 fun z H3 => ([z] : List V).length = 1 ∧ vs.length + 1 = n ∧ sp (x :: (vs ++ [z])) H3 Q C8.E0
theorem pe_mtK {pl : Sem Bool} {o e e' : Expr} {es : List Expr} {apos pos kpos : Pos} {ta tk : TE} {t : TA} (c : MetK X.prog X.w X.K X.mg X.base k n C m key sp) (hr : Room j X.A) (hk : k ≤ j) (he : PE X o ta) (ha : PA X (e :: es) t) (hkw : PE X e' tk)
    (hall : (backToKw pos (keywordEach [⟨some key, e', kpos⟩] X.env)).all (·.1.isSome) = true := by rfl) (hks : (backToKw pos (keywordEach [⟨some key, e', kpos⟩] X.env)).filterMap (·.1) = [key] := by rfl)
    (hst : starEach (e :: es) X.env = (false, eval e X.env) :: starEach es X.env := by rfl) (hpl : ((backTo pos (starEach (e :: es) X.env)).any (·.1) || (backToKw pos (keywordEach [⟨some key, e', kpos⟩] X.env)).any (·.1.isNone)) = false := by rfl)
    (ht : eval (.Call (.Attribute o m apos) (e :: es) [⟨some key, e', kpos⟩] pos) X.env = (do
      let ov ← eval o X.env
      standAt apos.atName
      let (f, first) ← holding [ov] (getMethod ov m pl)
      callWith pos f first (backTo pos (starEach (e :: es) X.env)) (backToKw pos (keywordEach [⟨some key, e', kpos⟩] X.env))) := by rfl) :
    PE X (.Call (.Attribute o m apos) (e :: es) [⟨some key, e', kpos⟩] pos) (tMethK C m n sp ta t tk) := by
  obtain ⟨f, fd, ps, hc, hm, FN, hb⟩ := c.ex
  refine ⟨fun pins s σ H Q I h => ?_⟩
  refine PySem.W.methodCall_KW (pl := pl) (thn (he.run pins s σ H _ I h) ?_) ht
  rintro u s1 ⟨x, H1, I1, rx, a, dx, fs, rfl, ea, l, q⟩
  obtain rfl : u = Value.ref a := rx
  refine getmeth_ok I1 ea hc hm l ?_
  refine PySem.W.callWith_KW (first := [.ref a]) (h₀ := X.base) I.ok.mod.kin hm.kp hall (thn (ha.run pos pins s1 σ H1 _ I1 q) ?_) hpl hst
  rintro us s2 ⟨vs, H2, I2, r, q2⟩
  have hkw2 : PK X [⟨some key, e', kpos⟩] (tCons tk tNil) := pk_cons hkw pk_nil
  refine thn (hkw2.run pos pins s2 σ H2 (fun zs H3 => zs.length = 1 ∧ vs.length + 1 = n ∧ sp (V.ref a :: (vs ++ zs)) H3 Q C8.E0) I2 q2) ?_
  rintro ws s3 ⟨zs, H3, I3, rz, l1, l2, hsp⟩
  refine ⟨I3.kIn, ?_⟩
  rw [hks]
  obtain ⟨z, rfl⟩ := List.length_eq_one_iff.mp l1
  obtain ⟨w', rfl, rw1⟩ := rz.one
  have hl2 := r.length
  have r3 : Vals (V.ref a :: (vs ++ [z])) (Value.ref a :: (us ++ [w'])) := .cons rfl (r.append rz)
  have hbb := hb s3 (Value.ref a :: us) w' (by rw [List.length_cons]; omega)
  have run := FN.run X.A X.stack s3 H3 ⟨Value.ref a :: us, [(key, w')]⟩ (Value.ref a :: (us ++ [w'])) (V.ref a :: (vs ++ [z])) Q C8.E0 (hr.mono hk) I3.env0 hbb r3 hsp
  show wpAny (model X.prog X.w) X.A (call (.ref f) (Value.ref a :: us) [(key, w')]) _ _ s3
  refine wpAny_call (codeAny_mono run fun rr s' hq' => ?_)
  cases rr with
  | error e => exact False.elim hq'
  | ok fl =>
    cases fl with
    | next => exact False.elim hq'
    | brk => exact False.elim hq'
    | cont => exact False.elim hq'
    | ret u => exact I3.after hq'
end
section
variable {C p dx : Addr} {fs : List (Str × V)} {H : Hp} {Q : VK} {sp : Sp} {x y : V} {m : Str} {n : Nat} {ta tk : TE} {t : TA} {σ : L2.St} {K : PySem.W.Frag}
theorem rMethK (h : ta σ H fun x H1 => ∃ a dx fs, x = .ref a ∧ H1 a = some (.ins C dx fs) ∧ fs.lookup m = none ∧ t σ H1 fun vs H2 => tk σ H2 fun z H3 => ([z] : List V).length = 1 ∧ vs.length + 1 = n ∧ sp (x :: (vs ++ [z])) H3 Q C8.E0) : tMethK C m n sp ta t tk σ H Q := h
theorem in_own (hp : H p = some (.ins C dx fs)) (h : sp [.ref p, x] H (fun v H2 => ∃ b, v = .bl b ∧ Q (.bl b) H2) C8.E0) : rInOwn C sp x (.ref p) H Q := ⟨p, dx, fs, rfl, hp, h⟩
end
/-! ## a while whose test compares two names -/
theorem mono_lt {i j : Nat} : ∀ (σ : L2.St) (H : Hp) (Q Q' : Bool → Hp → Prop), (∀ b H1, Q b H1 → Q' b H1) → tTest (tOp rLtU (tVar i) (tVar j)) σ H Q → tTest (tOp rLtU (tVar i) (tVar j)) σ H Q' := by
  rintro σ H Q Q' h ⟨v, hv, w, hw, q⟩
  refine ⟨v, hv, w, hw, ?_⟩
  rcases q with ⟨a, b, e1, e2, k, ek, q⟩ | ⟨a, b, e1, e2, k, ek, q⟩
  · exact .inl ⟨a, b, e1, e2, k, ek, h _ _ q⟩
  · exact .inr ⟨a, b, e1, e2, k, ek, h _ _ q⟩
theorem whileLt {i j : Nat} {tb : TS} {nx : L2.St → Hp → Prop} {rt : VK} {bk ct : L2.St → Hp → Prop} {σ : L2.St} {H : Hp} (Pv : L2.St → Hp → Prop) (μ : L2.St → Hp → Nat) (h0 : Pv σ H)
    (hs : ∀ σ H, Pv σ H → tTest (tOp rLtU (tVar i) (tVar j)) σ H fun b H1 => if b = true then tb ⟨fun σ' H' => Pv σ' H' ∧ μ σ' H' < μ σ H, rt, nx, fun σ' H' => Pv σ' H' ∧ μ σ' H' < μ σ H⟩ σ H1 else nx σ H1) :
    tWhile (tTest (tOp rLtU (tVar i) (tVar j))) tb ⟨nx, rt, bk, ct⟩ σ H := while_by (D := ⟨nx, rt, bk, ct⟩) Pv μ h0 hs mono_lt
end Z
namespace Z
open PySem PySem.Spec PyProof.Rows L2 ItX
/-! ## a + b, -a of own instances -/
structure AddM (P : Program) (w : World) (K : PySem.W.Frag) (mg : Str → Option Value) (base : Heap) (k : Nat) (C : Addr) (sp : Sp) : Prop where
  met : C8.Met P w K mg base k C "__add__" sp []
  first : PySem.W.selfFirst K C = true
section
variable {X : Cx} {k j n : Nat} {C : Addr} {sp : Sp} {K : PySem.W.Frag}
def rAddOwn (C : Addr) (sp : Sp) : R2 := fun x y H Q => ∃ p dx fs q dy gs, x = .ref p ∧ y = .ref q ∧ H p = some (.ins C dx fs) ∧ H q = some (.ins C dy gs) ∧ sp [.ref p, .ref q] H (fun v H2 => ∃ z, v = .ref z ∧ Q (.ref z) H2) C8.E0
theorem op_addOwn (c : AddM X.prog X.w X.K X.mg X.base k C sp) (hr : Room j X.A) (hk : k ≤ j) : OpR X (binaryOp .Add) (rAddOwn C sp) := by
  intro pins s σ H x y v u Q I rx ry h
  obtain ⟨p, dx, fs, q, dy, gs, rfl, rfl, hp, hq, hsp⟩ := h
  cases rx
  cases ry
  obtain ⟨f, fd, ps, ds, hc, hm, FN, b, d⟩ := c.met.ex
  cases d
  obtain ⟨mA, J, _⟩ := ins_get I.hok hp
  obtain ⟨od, J, _⟩ := J.look
  obtain ⟨mB, J2, _⟩ := ins_get I.hok hq
  obtain ⟨od2, J2, _⟩ := J2.look
  obtain ⟨m0, hF⟩ := I.fr
  refine PySem.W.binop_K hF I.ok.mod.kin J J2.type c.first hm.at_ hm.fn ?_
  have hl := FN.len _ _ _ _ hsp
  have r2 : Vals [V.ref p, V.ref q] [Value.ref p, Value.ref q] := .cons rfl (.cons rfl .nil)
  refine wpAny_call (codeAny_mono (FN.run X.A X.stack s H ⟨[.ref p, .ref q], []⟩ [.ref p, .ref q] [.ref p, .ref q] _ C8.E0 (hr.mono hk) I.env0 (by
    have := b s [.ref p, .ref q] I.kIn (by simpa using hl)
    simpa using this) r2 hsp) fun r s' hq' => ?_)
  cases r with
  | error e => exact False.elim hq'
  | ok fl =>
    cases fl with
    | next => exact False.elim hq'
    | brk => exact False.elim hq'
    | cont => exact False.elim hq'
    | ret u =>
      obtain ⟨z, H2, I2, rv, b, ez, hQ⟩ := I.after hq'
      subst ez
      cases rv
      exact ⟨.ref b, H2, I2, rfl, hQ⟩
def rNegOwn (C : Addr) (sp : Sp) : V → Hp → VK → Prop := fun x H Q => ∃ p dx fs, x = .ref p ∧ H p = some (.ins C dx fs) ∧ sp [.ref p] H Q C8.E0
theorem un_negOwn (c : C8.Met X.prog X.w X.K X.mg X.base k C "__neg__" sp []) (hr : Room j X.A) (hk : k ≤ j) : UnR X (unaryOp .USub) (rNegOwn C sp) := by
  intro pins s σ H x v Q I rx h
  obtain ⟨p, dx, fs, rfl, hp, hsp⟩ := h
  cases rx
  obtain ⟨f, fd, ps, ds, hc, hm, FN, b, d⟩ := c.ex
  cases d
  obtain ⟨mA, J, _⟩ := ins_get I.hok hp
  obtain ⟨od, J, _⟩ := J.look
  obtain ⟨m0, hF⟩ := I.fr
  refine PySem.W.ksp_neg hF I.ok.mod.kin J hm.at_ hm.fn ?_
  have hl := FN.len _ _ _ _ hsp
  have r2 : Vals [V.ref p] [Value.ref p] := .cons rfl .nil
  refine wpAny_call (codeAny_mono (FN.run X.A X.stack s H ⟨[.ref p], []⟩ [.ref p] [.ref p] _ C8.E0 (hr.mono hk) I.env0 (by
    have := b s [.ref p] I.kIn (by simpa using hl)
    simpa using this) r2 hsp) fun r s' hq' => ?_)
  cases r with
  | error e => exact False.elim hq'
  | ok fl =>
    cases fl with
    | next => exact False.elim hq'
    | brk => exact False.elim hq'
    | cont => exact False.elim hq'
    | ret u => exact I.after hq'
end
section
variable {C p q dx dy : Addr} {fs gs : List (Str × V)} {H : Hp} {Q : VK} {sp : Sp}
theorem add_own (hp : H p = some (.ins C dx fs)) (hq : H q = some (.ins C dy gs)) (h : sp [.ref p, .ref q] H (fun v H2 => ∃ z, v = .ref z ∧ Q (.ref z) H2) C8.E0) : rAddOwn C sp (.ref p) (.ref q) H Q := ⟨p, dx, fs, q, dy, gs, rfl, rfl, hp, hq, h⟩
theorem neg_own (hp : H p = some (.ins C dx fs)) (h : sp [.ref p] H Q C8.E0) : rNegOwn C sp (.ref p) H Q := ⟨p, dx, fs, rfl, hp, h⟩
end
/-! ## a while: the test is walked with its two ends at once -/
theorem whileG {c : TT} {tb : TS} {nx : L2.St → Hp → Prop} {rt : VK} {bk ct : L2.St → Hp → Prop} {σ : L2.St} {H : Hp} (Pv : L2.St → Hp → Prop) (μ : L2.St → Hp → Nat) (h0 : Pv σ H)
    (hs : ∀ σ H, Pv σ H → c σ H fun b H1 => if b = true then ∃ N : L2.St → Hp → Prop, (∀ σ' H', N σ' H' → ∃ m', m' < μ σ H ∧ m' = μ σ' H' ∧ Pv σ' H') ∧ tb ⟨N, rt, nx, N⟩ σ H1 else nx σ H1) : tWhile c tb ⟨nx, rt, bk, ct⟩ σ H := by
  refine ⟨fun m σ H => m = μ σ H ∧ Pv σ H, ⟨_, rfl, h0⟩, ?_⟩
  rintro m σ H ⟨rfl, p⟩
  exact hs σ H p
theorem wYes {Pv : L2.St → Hp → Prop} {μ : L2.St → Hp → Nat} {m : Nat} {tb : TS} {rt : VK} {nx : L2.St → Hp → Prop} {σ : L2.St} {H : Hp} (h : tb ⟨fun σ' H' => Pv σ' H' ∧ μ σ' H' < m, rt, nx, fun σ' H' => Pv σ' H' ∧ μ σ' H' < m⟩ σ H) :
    ∃ N : L2.St → Hp → Prop, (∀ σ' H', N σ' H' → ∃ m', m' < m ∧ m' = μ σ' H' ∧ Pv σ' H') ∧ tb ⟨N, rt, nx, N⟩ σ H := ⟨_, fun _ _ q => ⟨_, q.2, rfl, q.1⟩, h⟩
end Z
namespace Z
open PySem PySem.Spec PyProof.Rows L2 ItX
/-! ## C.m(e, ..), m a staticmethod -/
structure Stat (P : Program) (w : World) (K : PySem.W.Frag) (mg : Str → Option Value) (base : Heap) (k : Nat) (x m : Str) (sp : Sp) : Prop where
  ex : ∃ (C p g : Addr) (mc : Value) (fd : FuncData) (ps : List Str), mg x = some (.ref C) ∧ ClX.CRead K C mc ∧ PySem.W.findCls K (.ref C) mc m = some (.get (.builtin "staticmethod.__get__") (.ref p) .none (.ref C)) ∧
    (∃ rest, PySem.W.recIn K p "staticmethod" = some (.ref g :: rest)) ∧ PySem.W.keepIn K (.ref g) = true ∧ FnOk P w K mg base C8.CX0 k g fd ps sp ∧ Binds K fd ps []
section
variable {X : Cx} {k j : Nat} {x m : Str} {sp : Sp} {p0 pos apos : Pos} {e o : Expr} {es : List Expr} {t : TA} {ta : TE} {C : Addr}
theorem pe_st {pl : Sem Bool} (c : Stat X.prog X.w X.K X.mg X.base k x m sp) (hr : Room j X.A) (hk : k ≤ j) (hg : Gl X x) (ha : PA X (e :: es) t) (hd : (x == ("__debug__" : Str)) = false := by decide)
    (hst : starEach (e :: es) X.env = (false, eval e X.env) :: starEach es X.env := by rfl) (hpl : (backTo pos (starEach es X.env)).any (·.1) = false := by rfl)
    (ht : eval (.Call (.Attribute (.Name x p0) m apos) (e :: es) [] pos) X.env = (do
      let ov ← eval (.Name x p0) X.env
      standAt apos.atName
      let (f, first) ← holding [ov] (getMethod ov m pl)
      callWith pos f first (backTo pos (starEach (e :: es) X.env)) (backToKw pos (keywordEach [] X.env))) := by rfl) :
    PE X (.Call (.Attribute (.Name x p0) m apos) (e :: es) [] pos) (tCall sp [] C8.E0 t) := by
  obtain ⟨C, p, g, mc, fd, ps, hm, r, at_, ⟨rest, hp⟩, kp, F, b⟩ := c.ex
  refine ⟨fun pins s σ H Q I h => ?_⟩
  refine PySem.W.methodCall_KW (pl := pl) (thn ((pe_cls (p := p0) hg hm hd).run pins s σ H (fun y H1 => y = .ref C ∧ t σ H1 fun vs H2 => sp (vs ++ []) H2 Q C8.E0) I ⟨rfl, h⟩) fun u s1 ⟨y, H1, I1, rx, ex, q⟩ => ?_) ht
  subst ex
  obtain rfl : u = Value.ref C := rx
  refine PySem.W.method_cls I1.kIn r.ga ?_
  refine PySem.W.cls_bind I1.kIn r.rd at_ ?_
  refine wpAny_call (PySem.W.sm_get (s := { s1 with toks := s1.toks + 1 }) I1.kIn hp (PySem.W.handed_on rfl ?_))
  have I2 : Inv X pins σ H1 { s1 with toks := s1.toks + 1 } := I1.tok _
  refine PySem.W.callWith_K (first := []) (h₀ := X.base) I2.ok.mod.kin kp (thn (ha.run pos pins _ σ H1 _ I2 q) fun us s3 ⟨vs, H2, I3, rv, q2⟩ => ⟨I3.kIn, ?_⟩) hst hpl
  exact run_fn F (hr.mono hk) b .nil pass0 I3 rv q2
end
/-! ## a method that may raise -/
structure MetX (P : Program) (w : World) (K : PySem.W.Frag) (mg : Str → Option Value) (base : Heap) (k : Nat) (C : Addr) (m : Str) (sp : Sp) : Prop where
  ex : ∃ (f : Addr) (fd : FuncData) (ps : List Str), Cls K C ∧ Meth K C m f ∧ FnOk P w K mg base (L2.CX P w) k f fd ps sp ∧ Binds K fd ps []
theorem metX {P : Program} {w : World} {K : PySem.W.Frag} {mg : Str → Option Value} {base : Heap} {m qual : Str} {C : Addr} {st : Stmt} {f : Addr} {fd : FuncData} {N ps : List Str} {k : Nat} {sp : Sp} (c : Cls K C) (me : Meth K C m f) (F : C8.Fun K m qual st f fd) (b : Binds K fd ps []) (S : FnScope N ps (C8.fnScope st))
    (len : ∀ vs H Q E, sp vs H Q E → vs.length = ps.length)
    (hbody : ∀ (cdv : Value) (A : Around) (outer : List Env) (s : Shared) (H : Hp) (vs : List V) (Q : VK) (E : XK), Room k (A.deeper (envOfC qual (C8.fnScope st) s.heap.objs.size f cdv)) → sp vs H Q E →
      ∃ t, PSs (cxOf (L2.CX P w) P w K mg base N qual (C8.fnScope st) f cdv A outer s H E) (C8.fnBody st) t ∧ t { nx := fun _ H' => Q .non H', rt := Q } (start N vs) H) : MetX P w K mg base (k + 1) C m sp := by
  refine ⟨f, fd, ps, c, me, ?_, b⟩
  obtain ⟨oc, od, dV, kV, doc, pm, an, cdv, ct, osl, rfl, lk, hcd⟩ := F.ex
  exact fn_of lk hcd S len fun A outer s H vs Q E hr hsp => hbody cdv A outer s H vs Q E hr hsp
def tMethT (C : Addr) (m : Str) (sp : Sp) (E : L2.St → XK) (ta : TE) (t : TA) : TE := fun σ H Q => ta σ H fun x H1 => ∃ a dx fs, x = .ref a ∧ H1 a = some (.ins C dx fs) ∧ fs.lookup m = none ∧ t σ H1 fun vs H2 => sp (x :: vs) H2 Q (E σ)
section
variable {X : Cx} {k j : Nat} {x m : Str} {sp : Sp} {pos apos : Pos} {e o : Expr} {es : List Expr} {t : TA} {ta : TE} {C : Addr} {W : WX}
/-- called where no exception leaves -/
theorem pe_mtn {pl : Sem Bool} (c : MetX X.prog X.w X.K X.mg X.base k C m sp) (hr : Room j X.A) (hk : k ≤ j) (he : PE X o ta) (ha : PA X (e :: es) t)
    (hst : starEach (e :: es) X.env = (false, eval e X.env) :: starEach es X.env := by rfl) (hpl : (backTo pos (starEach es X.env)).any (·.1) = false := by rfl)
    (ht : eval (.Call (.Attribute o m apos) (e :: es) [] pos) X.env = (do
      let ov ← eval o X.env
      standAt apos.atName
      let (f, first) ← holding [ov] (getMethod ov m pl)
      callWith pos f first (backTo pos (starEach (e :: es) X.env)) (backToKw pos (keywordEach [] X.env))) := by rfl) :
    PE X (.Call (.Attribute o m apos) (e :: es) [] pos) (tMeth C m sp [] L2.E0 ta t) := by
  obtain ⟨f, fd, ps, hc, hm, F, b⟩ := c.ex
  exact pe_meth (pl := pl) he hc hm F (hr.mono hk) b .nil passL ha hst hpl ht
/-- called in the body of a try -/
theorem pe_mtt {pl : Sem Bool} (c : MetX X.prog X.w X.K X.mg X.base k C m sp) (tk : Takes X W) (hr : Room j X.A) (hk : k ≤ j) (he : PE X o ta) (ha : PA X (e :: es) t)
    (hst : starEach (e :: es) X.env = (false, eval e X.env) :: starEach es X.env := by rfl) (hpl : (backTo pos (starEach es X.env)).any (·.1) = false := by rfl)
    (ht : eval (.Call (.Attribute o m apos) (e :: es) [] pos) X.env = (do
      let ov ← eval o X.env
      standAt apos.atName
      let (f, first) ← holding [ov] (getMethod ov m pl)
      callWith pos f first (backTo pos (starEach (e :: es) X.env)) (backToKw pos (keywordEach [] X.env))) := by rfl) :
    PE X (.Call (.Attribute o m apos) (e :: es) [] pos) (tMethT C m sp (WE W) ta t) := by
  obtain ⟨f, fd, ps, hc, hm, F, b⟩ := c.ex
  refine ⟨fun pins s σ H Q I h => ?_⟩
  refine PySem.W.methodCall_KW (pl := pl) (thn (he.run pins s σ H _ I h) fun u s1 ⟨x, H1, I1, rx, a, dx, fs, ex, ea, l, q⟩ => ?_) ht
  subst ex
  obtain rfl : u = Value.ref a := rx
  refine getmeth_ok I1 ea hc hm l ?_
  refine PySem.W.callWith_K (first := [.ref a]) (h₀ := X.base) I.ok.mod.kin hm.kp (thn (ha.run pos pins s1 σ H1 _ I1 q) fun us s2 ⟨vs, H2, I2, r, q2⟩ => ⟨I2.kIn, ?_⟩) hst hpl
  exact run_fnS (us := .ref a :: us) (vs := .ref a :: vs) F (hr.mono hk) b (passAt tk σ) I2 (.cons rfl r) q2
end
section
variable {σ : L2.St} {H : Hp} {Q : VK} {ta : TE} {t : TA} {C p q dx : Addr} {m : Str} {sp : Sp} {fs : List (Str × V)} {E : L2.St → XK} {xs : List V} {K : PySem.W.Frag}
theorem rMethT (h : ta σ H fun x H1 => ∃ a dx fs, x = .ref a ∧ H1 a = some (.ins C dx fs) ∧ fs.lookup m = none ∧ t σ H1 fun vs H2 => sp (x :: vs) H2 Q (E σ)) : tMethT C m sp E ta t σ H Q := h
end
/-! ## two tuples of the same things -/
def noFB : V → Bool
  | .byt _ => false
  | .flt _ => false
  | _ => true
def rNeT (K : PySem.W.Frag) : R2 := fun x y H Q => rNeU K x y H Q ∨ ∃ p q xs, x = .ref p ∧ y = .ref q ∧ H p = some (.tup xs) ∧ H q = some (.tup xs) ∧ xs.all noFB = true ∧ Q (.bl false) H
theorem same_eqAt {A : Around} {s : Shared} : ∀ {x : V} {u v : Value}, RelV x u → RelV x v → noFB x = true → SeqAt.EqAt A s u v true
  | .non, _, _, h1, h2, _ => by cases h1; cases h2; exact .same _
  | .bl _, _, _, h1, h2, _ => by cases h1; cases h2; exact .same _
  | .int i, _, _, h1, h2, _ => by
    obtain ⟨t, rfl⟩ := h1
    obtain ⟨t', rfl⟩ := h2
    have := SeqAt.EqAt.int_int (A := A) (s := s) i t i t'
    rwa [beq_self_eq_true] at this
  | .str i, _, _, h1, h2, _ => by
    obtain ⟨t, rfl⟩ := h1
    obtain ⟨t', rfl⟩ := h2
    have := SeqAt.EqAt.str_str (A := A) (s := s) i t i t'
    rwa [beq_self_eq_true] at this
  | .ref _, _, _, h1, h2, _ => by cases h1; cases h2; exact .same _
  | .ty _, _, _, h1, h2, _ => by cases h1; cases h2; exact .same _
  | .byt _, _, _, _, _, h => nomatch h
  | .flt _, _, _, _, _, h => nomatch h
theorem op_neT {X : Cx} {K : PySem.W.Frag} (hu : X.A.units + 64 < cLine) (hK : X.K = K := by rfl) : OpR X (compareOp .NotEq) (rNeT K) := by
  intro pins s σ H x y v u Q I rx ry h
  rcases h with h | ⟨p, q, xs, rfl, rfl, hp, hq, hn, k⟩
  · exact op_neK K hu hK pins s σ H x y v u Q I rx ry h
  cases rx
  cases ry
  obtain ⟨is1, r1, l1, z1⟩ := I.tuple (SqT.of hp)
  obtain ⟨is2, r2, l2, z2⟩ := I.tuple (SqT.of hq)
  have e1 := r1.length
  have e2 := r2.length
  refine SeqAt.RcNeAt.tuples (e := fun _ => true) l1 l2 (by omega) (fun j h1 h2 => ?_) X.prog X.w _ _ ?_
  · have j1 : j < is1.length := by simpa using h1
    have j2 : j < is2.length := by simpa using h2
    have j0 : j < xs.length := by omega
    obtain ⟨u1, hu1, k1⟩ := r1.get (List.getElem?_eq_getElem j0)
    obtain ⟨u2, hu2, k2⟩ := r2.get (List.getElem?_eq_getElem j0)
    rw [List.getElem?_eq_getElem j1] at hu1
    rw [List.getElem?_eq_getElem j2] at hu2
    have g1 : is1.toArray[j] = u1 := by rw [List.getElem_toArray]; exact Option.some.inj hu1
    have g2 : is2.toArray[j] = u2 := by rw [List.getElem_toArray]; exact Option.some.inj hu2
    rw [g1, g2]
    exact same_eqAt k1 k2 (List.all_eq_true.mp hn _ (List.getElem_mem j0))
  · have e : (!((List.range (min is1.toArray.size is2.toArray.size)).all (fun _ => true) && is1.toArray.size == is2.toArray.size)) = false := by
      have : is1.length = is2.length := by omega
      simp [this]
    rw [e]
    exact ⟨.bl false, H, I, rfl, k⟩
theorem ne_same {K : PySem.W.Frag} {p q : Addr} {xs : List V} {H : Hp} {Q : VK} (hp : H p = some (.tup xs)) (hq : H q = some (.tup xs)) (hn : xs.all noFB = true) (h : Q (.bl false) H) : rNeT K (.ref p) (.ref q) H Q := .inr ⟨p, q, xs, rfl, rfl, hp, hq, hn, h⟩
theorem ne_t {K : PySem.W.Frag} {x y : V} {H : Hp} {Q : VK} (h : rNeU K x y H Q) : rNeT K x y H Q := .inl h
/-! ## sorted(..) of whole numbers -/
theorem call_sortI {X : Cx} {K : PySem.W.Frag} (hK : X.K = K := by rfl) : CallR X (.builtin "sorted") (rSortedI K) := by subst hK; exact cr_sortedI
theorem sort_lst {K : PySem.W.Frag} {p : Addr} {ns : List Int} {H : Hp} {Q : VK} (hp : H p = some (.lst (ns.map V.int))) (h : ∀ ns' : List Int, ns'.Perm ns → ns'.Pairwise (· ≤ ·) → newO (.lst (ns'.map V.int)) H Q) : rSortedI K [.ref p] H Q :=
  ⟨p, ns, rfl, SqL.of hp, fun ns' q h1 h2 hq => h ns' h1 h2 q hq⟩
/-! ## a comprehension over a range with a step -/
section
variable {g : TG} {te : TE} {tt : TT} {vs : List Nat} {σ : L2.St} {H : Hp} {Q : VK} {tas : TA} {n i : Nat} {lo c : Int}
theorem rLcR3 (h : tas σ H fun as H1 => ∃ (i j c : Int) (n : Nat), as = [.int i, .int j, .int c] ∧ RgC i j c n ∧ compJ (Itc i c n) g tt te vs σ H1 Q) : tLc (iRng3 tas) g tt te vs σ H Q := h
theorem rg16 {m : Nat} {R : Int → Int → Nat → Prop} (b : m < 100000000) (h : R 0 16 ((m + 15) / 16)) : ∃ (i' j' c : Int) (n : Nat), [V.int 0, V.int (m : Int), V.int 16] = [.int i', .int j', .int c] ∧ RgC i' j' c n ∧ R i' c n := by
  have e : Builtin.Range.rangeSize 0 (m : Int) 16 = (((m + 15) / 16 : Nat) : Int) := by
    unfold Builtin.Range.rangeSize
    rw [if_pos (by decide)]
    split <;> omega
  refine ⟨0, m, 16, _, rfl, ⟨by decide, by decide, ?_, e⟩, h⟩
  unfold Builtin.Range.small
  rw [e, if_pos (by decide)]
  have f : ∀ z : Int, -1000000000 ≤ z → z ≤ 1000000000 → Builtin.Range.rangeFitsLong z = true := fun z h1 h2 => by
    unfold Builtin.Range.rangeFitsLong
    rw [Bool.and_eq_true]
    exact ⟨decide_eq_true (by omega), decide_eq_true (by omega)⟩
  rw [f 0 (by omega) (by omega), f (m : Int) (by omega) (by omega), f 16 (by omega) (by omega), f _ (by omega) (by omega), f ((m : Int) + (16 - 1)) (by omega) (by omega)]
  simp
theorem lc_rangeC {D : Addr} {H1 : Hp} {Qd : Hp → Prop} (Pv : Nat → Hp → Prop) (h0 : Pv 0 (upd H1 D (.lst [])))
    (hs : ∀ i H, i < n → Pv i H → g (.int (lo + (i : Nat) * c)) (wipe σ vs) H fun σ2 H2 => wipe σ2 vs = wipe σ vs ∧ tt σ2 H2 fun b H3 =>
      if b = true then te σ2 H3 fun y H4 => ∃ acc, H4 D = some (.lst acc) ∧ acc.length < sizeLine ∧ Pv (i + 1) (upd H4 D (.lst (acc ++ [y]))) else Pv (i + 1) H3) (hd : ∀ H, Pv n H → Qd H) :
    ∃ W : Nat → Nat → Hp → Prop, (∃ m, W 0 m (upd H1 D (.lst []))) ∧ ∀ i m H, W i m H →
      ((Itc lo c n).stop i H ∧ Qd H) ∨ ((Itc lo c n).go i H ∧ ∃ Nx : Hp → Prop, (∀ H', Nx H' → ∃ m', m' < m ∧ W (i + 1) m' H') ∧ ∀ x H', (Itc lo c n).yld i H x H' → g x (wipe σ vs) H' fun σ2 H2 => wipe σ2 vs = wipe σ vs ∧ tt σ2 H2 fun b H3 =>
        if b = true then te σ2 H3 fun y H4 => ∃ acc, H4 D = some (.lst acc) ∧ acc.length < sizeLine ∧ Nx (upd H4 D (.lst (acc ++ [y]))) else Nx H3) := by
  refine ⟨fun i m H => m = n - i ∧ i ≤ n ∧ Pv i H, ⟨n, by simp, Nat.zero_le _, h0⟩, ?_⟩
  rintro i m H ⟨rfl, hi, p⟩
  by_cases hlt : i < n
  · refine .inr ⟨hlt, Pv (i + 1), fun H' p' => ⟨n - (i + 1), by omega, rfl, hlt, p'⟩, fun x H' y => ?_⟩
    obtain ⟨e, y⟩ := y
    subst e y
    exact hs i _ hlt p
  · have e : i = n := by omega
    subst e
    exact .inl ⟨Nat.le_refl _, hd H p⟩
theorem compC_pure (Pa : List V → Hp → Prop) (h0 : ∀ H2, Same H H2 → Pa [] H2)
    (hs : ∀ acc H2 D, pIn H D n acc H2 → Pa acc H2 → te ((σ.set i none).set i (some (.int (lo + (acc.length : Nat) * c)))) H2 (fun y H3 => pD H D Pa acc.length y H3))
    (hd : ∀ acc H2 D, acc.length = n → Pa acc H2 → Same H H2 → H2 D = some (.lst acc) → Frs H D → Q (.ref D) H2) : compJ (Itc lo c n) (gName i) tYes te [i] σ H Q := by
  intro D hD
  refine lc_rangeC (Qd := fun H' => Q (.ref D) H') (fun k H' => ∃ acc, acc.length = k ∧ Pa acc H' ∧ Same H H' ∧ H' D = some (.lst acc)) ⟨[], rfl, h0 _ (Same.upd_new (Same.refl H) hD), Same.upd_new (Same.refl H) hD, upd_same⟩ ?_ ?_
  · rintro k H' hk ⟨acc, rfl, pa, s, hDl⟩
    exact ⟨wipe1 σ i _, (hs acc H' D ⟨hDl, hD, s, hk⟩ pa)⟩
  · rintro H' ⟨acc, e, pa, s, hDl⟩
    exact hd acc H' D e pa s hDl hD
end
/-- a def of which nothing is promised -/
theorem cal_none {P : Program} {w : World} {K : PySem.W.Frag} {mg : Str → Option Value} {base : Heap} {x : Str} {st : Stmt} {f : Addr} {fd : FuncData} {ps : List Str} {k : Nat} {sp : Sp} (F : C8.Def K mg x st f fd) (b : Binds K fd ps []) (d : Vals [] []) (no : ∀ vs H Q E, sp vs H Q E → False) : C8.Cal P w K mg base k x sp [] :=
  ⟨f, fd, ps, [], ⟨fun vs H Q E h => (no vs H Q E h).elim, fun _ _ _ H _ _ vs Q E _ _ _ _ h => (no vs H Q E h).elim⟩, F.mgf, F.kp, b, d⟩
/-- a whole number of the module -/
theorem pe_gi {X : Cx} {x : Str} {i : Int} {p : Pos} (hg : Gl X x) (hm : ∃ t, X.mg x = some (.int i t)) (hd : (x == ("__debug__" : Str)) = false := by decide) : PE X (.Name x p) (tC (.int i)) :=
  let ⟨t, e⟩ := hm
  pe_glob hg e ⟨t, rfl⟩ hd
end Z
namespace Z
open PySem PySem.Spec PyProof.Rows L2 ItX
/-! ## a class made with keywords -/
structure MakK (P : Program) (w : World) (K : PySem.W.Frag) (mg : Str → Option Value) (base : Heap) (k : Nat) (x : Str) (C : Addr) (n : Nat) (ks : List Str) (sp : Sp) (gV : List V → List V → List V) : Prop where
  ex : ∃ (f : Addr) (fd : FuncData) (ps : List Str) (g : List Value → List Value → List Value), Mk K C f ∧ FnOk P w K mg base C8.CX0 k f fd ps sp ∧ mg x = some (.ref C) ∧ KBn K fd ps (n + 1) ks g gV
/-- the values by place, by name, and the defaults behind them -/
def gKW (ms : List V) : List V → List V → List V := fun vs zs => vs ++ (zs ++ ms)
/-- the same with what is asked of the values in a def's own words -/
def tMkWK (W : List V → List V → Hp → VK → Prop) (t tk : TA) : TE := fun σ H Q => t σ H fun vs H1 => tk σ H1 fun zs H2 => W vs zs H2 Q
theorem PK.up {X : Cx} {kws : List Keyword} {t : TA} (ha : PK X kws t) : PK X kws (tU t) := ⟨fun pos pins s σ H Q I ⟨QB, hq, h⟩ => thn (ha.run pos pins s σ H QB I h) fun us s1 ⟨vs, H1, I1, r, q⟩ => ⟨vs, H1, I1, r, hq _ _ q⟩⟩
theorem pe_mkIK {X : Cx} {k j n : Nat} {x : Str} {C : Addr} {ks : List Str} {sp : Sp} {gV : List V → List V → List V} {W : List V → List V → Hp → VK → Prop} {p pos : Pos} {e : Expr} {es : List Expr} {kws : List Keyword} {t tk : TA}
    (c : MakK X.prog X.w X.K X.mg X.base k x C n ks sp gV) (hr : Room j X.A) (hk : k + 1 ≤ j) (hg : Gl X x) (ha : PA X (e :: es) t) (hkw : PK X kws tk)
    (hw : ∀ vs zs H1 Q, W vs zs H1 Q → vs.length = n ∧ zs.length = ks.length ∧ ∀ x dx, H1 x = none → H1 dx = none → dx ≠ x → sp (gV (.ref x :: vs) zs) (upd (upd H1 dx (.own x)) x (.ins C dx [])) (fun v H3 => v = .non ∧ Q (.ref x) H3) C8.E0)
    (hall : (backToKw pos (keywordEach kws X.env)).all (·.1.isSome) = true := by rfl) (hks : (backToKw pos (keywordEach kws X.env)).filterMap (·.1) = ks := by rfl) (hdb : (x == ("__debug__" : Str)) = false := by decide)
    (he : starEach (e :: es) X.env = (false, eval e X.env) :: starEach es X.env := by rfl) (hpl : ((backTo pos (starEach (e :: es) X.env)).any (·.1) || (backToKw pos (keywordEach kws X.env)).any (·.1.isNone)) = false := by rfl) :
    PE X (.Call (.Name x p) (e :: es) kws pos) (tMkWK W t tk) := by
  obtain ⟨f, fd, ps, g, M, F, hm, hb⟩ := c.ex
  refine PE.imp (pe_makeK M F (hr.mono hk) hg hm hb pass0 (PA.up ha) (PK.up hkw) hall hks hdb he hpl) fun σ H Q h => ?_
  exact ⟨fun vs H1 => tk σ H1 fun zs H2 => W vs zs H2 Q, fun vs H1 q => ⟨fun zs H2 => W vs zs H2 Q, fun zs H2 w => hw vs zs H2 Q w, q⟩, h⟩
theorem rMkWK {W : List V → List V → Hp → VK → Prop} {t tk : TA} {σ : L2.St} {H : Hp} {Q : VK} (h : t σ H fun vs H1 => tk σ H1 fun zs H2 => W vs zs H2 Q) : tMkWK W t tk σ H Q := h
/-! ## tuples, read or in the text -/
theorem sqt_kp {K : PySem.W.Frag} {H H' : Hp} {a : Addr} {xs : List V} (s : KpS H H') (h : SqT K H a xs) : SqT K H' a xs := by
  rcases h with (h | ⟨o, h⟩) | h
  · exact .inl (.inl (s _ _ h fun _ z => nomatch z))
  · exact .inl (.inr ⟨o, s _ _ h fun _ z => nomatch z⟩)
  · exact .inr h
theorem sqt_up {K : PySem.W.Frag} {H : Hp} {a x C dx : Addr} {fs gs : List (Str × V)} {xs : List V} (h : SqT K H a xs) (hx : H x = some (.ins C dx fs)) : SqT K (upd H x (.ins C dx gs)) a xs := by
  rcases h with (h | ⟨o, h⟩) | h
  · exact .inl (.inl (by rw [upd_ne (ne_of h hx (fun q => nomatch q))]; exact h))
  · exact .inl (.inr ⟨o, by rw [upd_ne (ne_of h hx (fun q => nomatch q))]; exact h⟩)
  · exact .inr h
theorem tuple_sqt {K : PySem.W.Frag} {p : Addr} {xs : List V} {H : Hp} {Q : VK} (h1 : SqT K H p xs) (h : Q (.ref p) H) : rTupleOf K [.ref p] H Q := ⟨p, xs, rfl, .inr ⟨h1, h⟩⟩
theorem len_sqt {K : PySem.W.Frag} {p : Addr} {xs : List V} {H : Hp} {Q : VK} (h1 : SqT K H p xs) (h : Q (.int xs.length) H) : rLenU K [.ref p] H Q := .inl ⟨p, xs, rfl, .inr h1, h⟩
theorem ix_sqt {K : PySem.W.Frag} {p : Addr} {xs : List V} {i : Int} {v : V} {H : Hp} {Q : VK} (h1 : SqT K H p xs) (h2 : atI xs i = some v) (h : Q v H) : rIx K (.ref p) (.int i) H Q := .inr (.inl ⟨p, xs, i, v, rfl, rfl, h1, h2, h⟩)
theorem tru_sqt {K : PySem.W.Frag} {p : Addr} {xs : List V} {H : Hp} {R : Bool → Prop} (h1 : SqT K H p xs) (h : R (!xs.isEmpty)) : ∃ k, TruV K (.ref p) H k ∧ R k := ⟨_, .inr (.inl ⟨xs, h1, rfl⟩), h⟩
/-! ## a loop over a text -/
section
variable {g : TG} {tb : TS} {nx : L2.St → Hp → Prop} {rt : VK} {bk ct : L2.St → Hp → Prop} {σ : L2.St} {H : Hp} {tl : TE} {Q : VK}
theorem rForS (h : tl σ H fun x H1 => ∃ z, x = .str z ∧ loopJ (Its z) g tb nx rt σ H1) : tFor (iStr tl) g tb ⟨nx, rt, bk, ct⟩ σ H := h
theorem loopS_by {z : Str} (Pv : Nat → L2.St → Hp → Prop) (h0 : Pv 0 σ H)
    (hs : ∀ i c σ H, z.cps[i]? = some c → Pv i σ H → g (.str ⟨#[c]⟩) σ H fun σ2 H2 => tb ⟨Pv (i + 1), rt, nx, Pv (i + 1)⟩ σ2 H2) (hd : ∀ σ H, Pv z.cps.size σ H → nx σ H) : loopJ (Its z) g tb nx rt σ H :=
  for_it walk_str (D := ⟨nx, rt, fun _ _ => False, fun _ _ => False⟩) Pv h0 (fun _ _ _ _ _ => trivial) (fun i x σ H H' _ p ⟨e, c, hc, ex⟩ => by subst e ex; exact hs i c σ _ hc p) hd
theorem rIts {z : Str} {R : Str → Prop} (h : R z) : ∃ y, V.str z = V.str y ∧ R y := ⟨z, rfl, h⟩
/-! ## list(range(n)) -/
theorem rLstRg {te : L2.St → Hp → (Int → Int → Hp → Prop) → Prop} (h : te σ H fun a b H1 => RgOk a b ∧ newO (.lst (rgV a b)) H1 Q) : tLstRg te σ H Q := h
end
/-! ## fields, by their place -/
theorem lkn {k a : Str} {v : V} {l : List (Str × V)} {r : Option V} (h : (k == a) = false) (q : List.lookup k l = r) : List.lookup k ((a, v) :: l) = r := by
  rw [← q]
  show (match (k == a) with | true => some v | false => List.lookup k l) = _
  rw [h]
theorem lke {k : Str} {v : V} {l : List (Str × V)} : List.lookup k ((k, v) :: l) = some v := by
  show (match (k == k) with | true => some v | false => List.lookup k l) = _
  rw [beq_self_eq_true]
theorem putF_new {f : Str} {v : V} : ∀ {l : List (Str × V)}, (l.all fun e => !(decide (e.1 = f))) = true → putF f v l = l ++ [(f, v)]
  | [], _ => rfl
  | e :: l, h => by
    simp only [List.all_cons, Bool.and_eq_true, Bool.not_eq_true', decide_eq_false_iff_not] at h
    show (if e.1 = f then _ else e :: putF f v l) = _
    rw [if_neg h.1, putF_new (by simpa using h.2)]
    rfl
/-! ## a comprehension over a list, its element drawn -/
section
variable {i : Nat} {te : TE} {σ : L2.St} {H : Hp} {Q : VK} {r : Addr} {K : PySem.W.Frag} {n : Nat}
def cDH (r : Addr) (H : Hp) (D : Addr) (Pa : List V → Hp → Prop) (k : Nat) (y : V) (H4 : Hp) : Prop :=
  ∃ acc, H4 D = some (.lst acc) ∧ acc.length < sizeLine ∧ ∃ acc', acc'.length = k + 1 ∧ Pa acc' (upd H4 D (.lst (acc ++ [y]))) ∧ SL r H (upd H4 D (.lst (acc ++ [y]))) ∧ Reel (upd H4 D (.lst (acc ++ [y]))) r ∧ upd H4 D (.lst (acc ++ [y])) D = some (.lst acc')
theorem cDH_of {D : Addr} {acc : List V} {H2 H4 : Hp} {Pa : List V → Hp → Prop} {y : V} (c : cIn r H D n acc H2) (hn : n < 16777216) (s : SL r H2 H4) (hr : Reel H4 r) (pa : ∀ H5, SL D H4 H5 → Pa (acc ++ [y]) H5) : cDH r H D Pa acc.length y H4 := by
  have hrD : r ≠ D := by
    obtain ⟨_, e⟩ := c.since.was
    exact c.fresh.ne e
  have l := c.lt
  have e4 := s.keep D _ hrD.symm c.at_D
  exact ⟨acc, e4, sz_lt (by omega), acc ++ [y], by simp, pa _ ⟨⟨_, e4⟩, ⟨_, upd_same⟩, fun a u n e => by rw [upd_ne n]; exact e⟩, (c.since.trans s).upd_new c.fresh, hr.upd_ne hrD, upd_same⟩
theorem compL_draw {a : Addr} {xs : List V} (ha : H a = some (.lst xs)) (hn : a ≠ r) (hR : Reel H r) (Pa : List V → Hp → Prop) (h0 : ∀ H2, Pa [] H2)
    (hs : ∀ acc x H2 D, cIn r H D xs.length acc H2 → xs[acc.length]? = some x → Pa acc H2 → te ((σ.set i none).set i (some x)) H2 (fun y H3 => cDH r H D Pa acc.length y H3))
    (hd : ∀ acc H2 D, acc.length = xs.length → Pa acc H2 → SL r H H2 → Reel H2 r → H2 D = some (.lst acc) → Frs H D → Q (.ref D) H2) : compJ (Itl K a) (gName i) tYes te [i] σ H Q := by
  intro D hD
  have hrD : r ≠ D := hR.ne hD
  refine lc_list (K := K) (a := a) (xs := xs) (Qd := fun H' => Q (.ref D) H') (fun k H' => ∃ acc, acc.length = k ∧ Pa acc H' ∧ SL r H H' ∧ Reel H' r ∧ H' D = some (.lst acc)) ⟨[], rfl, h0 _, hR.refl.upd_new hD, hR.upd_ne hrD, upd_same⟩ (fun i H' _ ⟨_, _, _, s, _⟩ => SqL.of (s.keep a _ hn ha)) ?_ ?_
  · rintro k x H' hx ⟨acc, rfl, pa, s, hr, hDl⟩
    exact ⟨wipe1 σ i _, (hs acc x H' D ⟨hDl, hD, s, hr, (List.getElem?_eq_some_iff.mp hx).1⟩ hx pa)⟩
  · rintro H' ⟨acc, e, pa, s, hr, hDl⟩
    exact hd acc H' D e pa s hr hDl hD
/-- a list, many times over -/
theorem mul_rep {l : Addr} {xs : List V} {k : Int} (h1 : H l = some (.lst xs)) (hk : -(2 ^ 63) ≤ k ∧ k < 2 ^ 63) (hl : xs.length * k.toNat ≤ sizeLine) (h : newO (.lst (List.replicate k.toNat xs).flatten) H Q) : rMulU (.ref l) (.int k) H Q := .inr ⟨l, k, xs, rfl, rfl, h1, hk.1, hk.2, hl, h⟩
theorem reverse_lst {p : Addr} {xs : List V} (h1 : H p = some (.lst xs)) (h : putO p xs.reverse H (Q .non)) : rReverse (.ref p) [] H Q := ⟨p, xs, rfl, rfl, h1, h⟩
theorem extend_lst {p q : Addr} {xs ys : List V} (h1 : H p = some (.lst xs)) (h2 : H q = some (.lst ys)) (hl : xs.length + ys.length ≤ sizeLine) (h : putO p (xs ++ ys) H (Q .non)) : rExtend (.ref p) [.ref q] H Q := ⟨p, q, xs, ys, rfl, rfl, h1, h2, hl, h⟩
end
/-! ## a while with a measure -/
theorem whileM {c : TT} {tb : TS} {nx : L2.St → Hp → Prop} {rt : VK} {bk ct : L2.St → Hp → Prop} {σ : L2.St} {H : Hp} (W : Nat → L2.St → Hp → Prop) {m : Nat} (h0 : W m σ H)
    (hs : ∀ m σ H, W m σ H → c σ H fun b H1 => if b = true then ∃ N : L2.St → Hp → Prop, (∀ σ' H', N σ' H' → ∃ m', m' < m ∧ W m' σ' H') ∧ tb ⟨N, rt, nx, N⟩ σ H1 else nx σ H1) : tWhile c tb ⟨nx, rt, bk, ct⟩ σ H := ⟨W, ⟨m, h0⟩, hs⟩
theorem wGo {W : Nat → L2.St → Hp → Prop} {m : Nat} {tb : TS} {rt : VK} {nx : L2.St → Hp → Prop} {σ : L2.St} {H : Hp} (h : tb ⟨fun σ' H' => ∃ m', m' < m ∧ W m' σ' H', rt, nx, fun σ' H' => ∃ m', m' < m ∧ W m' σ' H'⟩ σ H) :
    ∃ N : L2.St → Hp → Prop, (∀ σ' H', N σ' H' → ∃ m', m' < m ∧ W m' σ' H') ∧ tb ⟨N, rt, nx, N⟩ σ H := ⟨_, fun _ _ q => q, h⟩
/-- a while whose ends are joined -/
theorem whileC {c : TT} {tb : TS} {nx : L2.St → Hp → Prop} {rt : VK} {bk ct : L2.St → Hp → Prop} {σ : L2.St} {H : Hp} (W : Nat → L2.St → Hp → Prop) (Mid : L2.St → Hp → Prop) {m : Nat} (h0 : W m σ H)
    (hs : ∀ nx' : L2.St → Hp → Prop, (∀ σ H, Mid σ H → nx' σ H) → ∀ m σ H, W m σ H → c σ H fun b H1 => if b = true then ∃ N : L2.St → Hp → Prop, (∀ σ' H', N σ' H' → ∃ m', m' < m ∧ W m' σ' H') ∧ tb ⟨N, rt, nx', N⟩ σ H1 else nx' σ H1)
    (h2 : ∀ σ H, Mid σ H → nx σ H) : tWhile c tb ⟨nx, rt, bk, ct⟩ σ H := whileM W h0 (hs nx h2)
/-- an if whose tests have many ends -/
theorem rIfC {c : TT} {A B : TS} {nx : L2.St → Hp → Prop} {rt : VK} {bk ct : L2.St → Hp → Prop} {σ : L2.St} {H : Hp} (MA MB : Hp → Prop)
    (hs : ∀ TA TB : Hp → Prop, (∀ H, MA H → TA H) → (∀ H, MB H → TB H) → c σ H fun b H1 => if b = true then TA H1 else TB H1) (hA : ∀ H, MA H → A ⟨nx, rt, bk, ct⟩ σ H) (hB : ∀ H, MB H → B ⟨nx, rt, bk, ct⟩ σ H) : tIfS c A B ⟨nx, rt, bk, ct⟩ σ H := hs _ _ hA hB
/-! ## places further on -/
theorem at3 {α : Type} {a0 a1 a2 x : α} {xs : List α} : atI (a0 :: a1 :: a2 :: x :: xs) 3 = some x := at_of (j := 3) rfl rfl
theorem at4 {α : Type} {a0 a1 a2 a3 x : α} {xs : List α} : atI (a0 :: a1 :: a2 :: a3 :: x :: xs) 4 = some x := at_of (j := 4) rfl rfl
theorem at5 {α : Type} {a0 a1 a2 a3 a4 x : α} {xs : List α} : atI (a0 :: a1 :: a2 :: a3 :: a4 :: x :: xs) 5 = some x := at_of (j := 5) rfl rfl
theorem at6 {α : Type} {a0 a1 a2 a3 a4 a5 x : α} {xs : List α} : atI (a0 :: a1 :: a2 :: a3 :: a4 :: a5 :: x :: xs) 6 = some x := at_of (j := 6) rfl rfl
theorem at7 {α : Type} {a0 a1 a2 a3 a4 a5 a6 x : α} {xs : List α} : atI (a0 :: a1 :: a2 :: a3 :: a4 :: a5 :: a6 :: x :: xs) 7 = some x := at_of (j := 7) rfl rfl
theorem at8 {α : Type} {a0 a1 a2 a3 a4 a5 a6 a7 x : α} {xs : List α} : atI (a0 :: a1 :: a2 :: a3 :: a4 :: a5 :: a6 :: a7 :: x :: xs) 8 = some x := at_of (j := 8) rfl rfl
/-! ## dicts by whole numbers -/
theorem hu1 {k : Nat} {A : Around} (r : Room k A) : A.units + 1 < cLine := by have := r.un; omega
section
variable {td ty tv : TE} {σ : L2.St} {H : Hp} {Q : VK} {nx : L2.St → Hp → Prop} {rt : VK} {bk ct : L2.St → Hp → Prop} {a : Addr} {kvs : List (L2.Key × V)} {i : Int} {v : V}
theorem rDGet (h : td σ H fun x H1 => ty σ H1 fun y H2 => ∃ a v, x = .ref a ∧ DGet H2 a y (some v) ∧ Q v H2) : tDGet td ty σ H Q := h
theorem rDPut (h : tv σ H fun v H1 => td σ H1 fun x H2 => ty σ H2 fun y H3 => ∃ a H4, x = .ref a ∧ DPut H3 a y v H4 ∧ nx σ H4) : sDPut td ty tv ⟨nx, rt, bk, ct⟩ σ H := h
theorem rDNew (h : ∀ (p : Addr) (H' : Hp), Frs H p → Same H H' → H' p = some (.dK []) → Q (.ref p) H') : tDNewK σ H Q := fun p hp => h p _ hp (fun b u e => by rw [upd_ne (ne_of_none e hp)]; exact e) upd_same
theorem dget_k {R : V → Prop} (h1 : H a = some (.dK kvs)) (h2 : valV kvs (.inl i) = some v) (h : R v) : ∃ b w, V.ref a = .ref b ∧ DGet H b (.int i) (some w) ∧ R w := by
  refine ⟨a, v, rfl, ?_, h⟩
  rw [← h2]
  exact DGet.k (k := .inl i) h1
theorem dput_k {R : Hp → Prop} (h1 : H a = some (.dK kvs)) (hl : kvs.length < sizeLine) (h : R (upd H a (.dK (putK kvs (.inl i) v)))) : ∃ b H4, V.ref a = .ref b ∧ DPut H b (.int i) v H4 ∧ R H4 := ⟨a, _, rfl, DPut.k (k := .inl i) h1 hl, h⟩
end
end Z
namespace Z
open PySem PySem.Spec PyProof.Rows L2 ItX
/-! ## a pair of tuples drawn while the pair before it is kept -/
section
variable {prog : Program} {w : World} {A : Around} {E : Value → Shared → Prop} {s : Shared} {z ti to t j1 j2 l1 l2 : Addr} {f : Bool} {ot : Obj} {m1 m2 : Nat} {as bs : Array Value}
theorem zk_item {x y : Value} {Q : Option Value → Shared → Prop} (D : ZipApart z ti to j1 j2 l1 l2) (hz : IsZipHeld s.heap z ti to t f) (ht : s.heap.get? t = some ot) (hi : IsPair s.heap ti (.ref j1) (.ref j2))
    (n1 : s.heap.IsTupleIter j1 l1 m1) (n2 : s.heap.IsTupleIter j2 l2 m2) (p1 : s.heap.IsTuple l1 as) (p2 : s.heap.IsTuple l2 bs) (ex : as[m1]? = some x) (ey : bs[m2]? = some y)
    (k : ∀ h', IsZipHeld h' z ti to t true → h'.IsTupleIter j1 l1 (m1 + 1) → h'.IsTupleIter j2 l2 (m2 + 1) → IsPair h' s.heap.objs.size x y → h'.objs.size = s.heap.objs.size + 1 →
      (∀ c o, c ≠ z → c ≠ j1 → c ≠ j2 → s.heap.get? c = some o → h'.get? c = some o) → Q (some (.ref s.heap.objs.size)) { s with heap := h' }) :
    wpAny (model prog w) A (pyNext (.ref z)) Q E s := by
  have ty : s.TypeIs (.ref z) "zip" := ⟨_, hz, rfl⟩
  unfold pyNext
  refine wpAny_bind (wpAny_attempt (wpAny_callSpecial?_slot (name := Str.ofString "__next__") ty PySem.F.slot_zip_next (wpAny_call_entry PySem.F.slot_zip_next ty PySem.F.entry_zip_next ?_ (PySem.F.args_zip_next_1 _))))
  show wpAny _ _ (field (.ref z) 2 >>= fun _ => _) _ _ _
  refine wpAny_bind (wpAny_field hz rfl (x := Value.bool false) rfl ?_)
  show wpAny _ _ (field (.ref z) 3 >>= fun _ => _) _ _ _
  refine wpAny_bind (wpAny_field hz rfl (x := Value.ref ti) rfl (?_ : wpAny _ _ _ _ _ s))
  refine wpAny_bind (wpAny_seqItems hi rfl (?_ : wpAny _ _ _ _ _ s))
  show wpAny _ _ (Builtin.SmallTypes.ownedTupleIsFree (.ref z) >>= fun _ => _) _ _ _
  refine wpAny_bind (wpAny_tupleHeld_zip hz ht fun g1 y1 c1 => ?_)
  simp only [Bool.false_eq_true, if_false]
  refine wpAny_bind (?_ : wpAny _ _ _ _ _ _)
  rw [← Array.forIn_toList]; simp only [List.forIn_cons, List.forIn_nil]
  refine wpAny_bind (wpAny_bind (wpAny_holding (?_ : wpAny _ _ _ _ _ _)))
  show wpAny _ _ (Builtin.SmallTypes.nextOf (.ref j1) >>= fun _ => _) _ _ _
  refine wpAny_bind (RZ.nextOf_tuple_item (s := { s with heap := g1 }) (n1.extBut c1.extBut D.i1z) (p1.extBut c1.extBut D.l1z) ex fun g2 n12 c2 => wpAny_pure (wpAny_pure ?_))
  refine wpAny_bind (wpAny_bind (wpAny_holding (?_ : wpAny _ _ _ _ _ _)))
  show wpAny _ _ (Builtin.SmallTypes.nextOf (.ref j2) >>= fun _ => _) _ _ _
  refine wpAny_bind (RZ.nextOf_tuple_item (s := { s with heap := g2 }) ((n2.extBut c1.extBut D.i2z).extBut c2.extBut D.i12.symm) ((p2.extBut c1.extBut D.l2z).extBut c2.extBut D.l2i1) ey fun g3 n23 c3 => wpAny_pure (wpAny_pure (wpAny_pure ?_)))
  show wpAny _ _ (newTuple [x, y] >>= fun _ => _) _ _ _
  refine wpAny_bind (wpAny_newTuple (?_ : wpAny _ _ _ _ _ _))
  have e3 : g3.objs.size = s.heap.objs.size := (c3.1.trans c2.1).trans c1.1
  have z3 : IsZipHeld g3 z ti to t true := c3.extBut _ _ D.i2z.symm (c2.extBut _ _ D.i1z.symm y1)
  have v : ∀ c o, c ≠ z → c ≠ j1 → c ≠ j2 → s.heap.get? c = some o → g3.get? c = some o := fun c o q1 q2 q3 e => c3.extBut _ _ q3 (c2.extBut _ _ q2 (c1.extBut _ _ q1 e))
  have n13 : g3.IsTupleIter j1 l1 (m1 + 1) := n12.extBut c3.extBut D.i12
  have pr : IsPair (g3.push { cls := .type "tuple", data := .seq #[x, y] }) g3.objs.size x y := Heap.get?_push_size _ rfl
  have sz : (g3.push { cls := .type "tuple", data := .seq #[x, y] }).objs.size = g3.objs.size + 1 := Heap.size_push ..
  refine wpAny_pure ⟨_, rfl, wpAny_pure (?_ : Q (some (.ref g3.objs.size)) _)⟩
  rw [e3] at pr sz ⊢
  exact k _ (Heap.get?_push_of_some _ z3) (n13.at fun o e => Heap.get?_push_of_some _ e) (n23.at fun o e => Heap.get?_push_of_some _ e) pr sz fun c o q1 q2 q3 e => Heap.get?_push_of_some _ (v c o q1 q2 q3 e)
theorem zk_end {Q : Option Value → Shared → Prop} (hh : A.handled = none) (D : ZipApart z ti to j1 j2 l1 l2) (hz : IsZipHeld s.heap z ti to t f) (ht : s.heap.get? t = some ot) (hi : IsPair s.heap ti (.ref j1) (.ref j2))
    (n1 : s.heap.IsTupleIter j1 l1 m1) (p1 : s.heap.IsTuple l1 as) (ex : as[m1]? = none)
    (k : ∀ h', (∀ c o, c ≠ z → c ≠ j1 → c ≠ j2 → s.heap.get? c = some o → h'.get? c = some o) → Q none { s with heap := h' }) :
    wpAny (model prog w) A (pyNext (.ref z)) Q E s := by
  have ty : s.TypeIs (.ref z) "zip" := ⟨_, hz, rfl⟩
  unfold pyNext
  refine wpAny_bind (wpAny_attempt (wpAny_callSpecial?_slot (name := Str.ofString "__next__") ty PySem.F.slot_zip_next (wpAny_call_entry PySem.F.slot_zip_next ty PySem.F.entry_zip_next ?_ (PySem.F.args_zip_next_1 _))))
  show wpAny _ _ (field (.ref z) 2 >>= fun _ => _) _ _ _
  refine wpAny_bind (wpAny_field hz rfl (x := Value.bool false) rfl ?_)
  show wpAny _ _ (field (.ref z) 3 >>= fun _ => _) _ _ _
  refine wpAny_bind (wpAny_field hz rfl (x := Value.ref ti) rfl (?_ : wpAny _ _ _ _ _ s))
  refine wpAny_bind (wpAny_seqItems hi rfl (?_ : wpAny _ _ _ _ _ s))
  show wpAny _ _ (Builtin.SmallTypes.ownedTupleIsFree (.ref z) >>= fun _ => _) _ _ _
  refine wpAny_bind (wpAny_tupleHeld_zip hz ht fun g1 y1 c1 => ?_)
  simp only [Bool.false_eq_true, if_false]
  refine wpAny_bind (?_ : wpAny _ _ _ _ _ _)
  rw [← Array.forIn_toList]; simp only [List.forIn_cons, List.forIn_nil]
  refine wpAny_bind (wpAny_bind (wpAny_holding (?_ : wpAny _ _ _ _ _ _)))
  show wpAny _ _ (Builtin.SmallTypes.nextOf (.ref j1) >>= fun _ => _) _ _ _
  refine wpAny_bind (RZ.nextOf_tuple_end (s := { s with heap := g1 }) hh (n1.extBut c1.extBut D.i1z) (p1.extBut c1.extBut D.l1z) ex fun g2 e c2 he => ?_)
  obtain ⟨o, ho, hc⟩ := he
  refine wpAny_bind (wpAny_isInstance (T := "StopIteration") (b := true) ⟨o, ho, hc⟩ isSubtype_stop ?_)
  exact wpAny_pure (k g2 fun c o q1 q2 _ e => c2 _ _ q2 (c1.extBut _ _ q1 e))
end
/-! ## list(zip(a, b)), a and b tuples of one length -/
/-- how far the zip is -/
structure ZAt (z ti to j1 j2 a b q i : Nat) (h : Heap) : Prop where
  pr : IsPair h ti (.ref j1) (.ref j2)
  at0 : i = 0 → IsZip h z ti to .none ∧ ∃ x y, IsPair h to x y
  at1 : 0 < i → ∃ t f o, IsZipHeld h z ti to t f ∧ h.get? t = some o ∧ t ∉ [z, ti, to, j1, j2] ∧ t ≠ q
  n1 : h.IsTupleIter j1 a i
  n2 : h.IsTupleIter j2 b i
  lt : ∀ c ∈ [z, ti, to, j1, j2], c < h.objs.size
/-- the list so far -/
structure ZIn (H0 Hc : Hp) (q : Addr) (xs ys : List V) (i : Nat) : Prop where
  lst : ∃ ts, Hc q = some (.lst ts) ∧ ts.length = i ∧ ∀ (j : Nat) t, ts[j]? = some t → ∃ T x y, t = .ref T ∧ Hc T = some (.tup [x, y]) ∧ xs[j]? = some x ∧ ys[j]? = some y
  keep : ∀ c o, c ≠ q → H0 c = some o → Hc c = some o
section
variable {X : Cx} {pins : List (Addr × Obj)} {σ : L2.St} {A1 : Around}
theorem FpOk.upd {H : Hp} {b q : Addr} {o : HO} (h : FpOk X pins H b) (n : b ≠ q) : FpOk X pins (upd H q o) b := ⟨(upd_ne n).trans h.1, h.2⟩
theorem zip_fill {xs ys : List V} {q a b z ti to j1 j2 : Addr} {H0 : Hp} {Rs : Result → Shared → Prop} (hh : A1.in1.handled = none) (ha : SqT X.K H0 a xs) (hb : SqT X.K H0 b ys) (hxy : xs.length = ys.length) (hl : xs.length ≤ sizeLine) (hqa : ∀ Hc : Hp, (∀ c o, c ≠ q → H0 c = some o → Hc c = some o) → SqT X.K Hc a xs ∧ SqT X.K Hc b ys)
    (D : ZipApart z ti to j1 j2 a b) (hd : ∀ s Hc, Inv X pins σ Hc s → ZIn H0 Hc q xs ys xs.length → Rs (.ok (.ret .none)) s) :
    ∀ (n i : Nat) (Hc : Hp) (s : Shared), n + i = xs.length → Inv X pins σ Hc s → ZIn H0 Hc q xs ys i → (∀ c ∈ [z, ti, to, j1, j2], c ≠ q ∧ FpOk X pins Hc c) → ZAt z ti to j1 j2 a b q i s.heap → codeAny (model X.prog X.w) A1 (.builtin "list.extend.loop" ⟨[.ref q, .ref z, .none], []⟩) Rs s := by
  intro n
  induction n with
  | zero =>
    intro i Hc s e I g fp st
    obtain ⟨hta, htb⟩ := hqa Hc g.keep
    obtain ⟨its, rv, pl, hz1⟩ := I.tuple hta
    obtain ⟨its2, rv2, pl2, hz2⟩ := I.tuple htb
    have hlen := rv.length
    have hlen2 := rv2.length
    apply codeAny_builtin PySem.F.entry_extend_loop
    rw [Around.under_plainId PySem.F.plain_extend_loop _]
    show wpAny _ _ (pyNext (.ref z) >>= _) _ _ _
    apply wpAny_bind
    have fin : ∀ h' : Heap, (∀ c o, c ∉ [z, ti, to, j1, j2] → s.heap.get? c = some o → h'.get? c = some o) → Rs (.ok (.ret .none)) { s with heap := h' } := fun h' hk => by
      have I2 : Inv X pins σ Hc { s with heap := h' } := I.turnedL (t' := s.toks) (ch := [z, ti, to, j1, j2]) hk fun c hc => (fp c hc).2
      refine hd _ Hc I2 ?_
      rw [← e, Nat.zero_add]
      exact g
    obtain ⟨hi, hto, hheld, n1, n2, hlt⟩ := st
    rcases Nat.eq_zero_or_pos i with c | c
    · obtain ⟨h2, x0, y0, h1⟩ := hto c
      exact RZ.pyNext_zipT_end hh D h2 hi h1 n1 n2 (show s.heap.IsTuple a its.toArray from pl) (show s.heap.IsTuple b its2.toArray from pl2) (.inl (by simp; omega)) fun h' hk => wpAny_pure (fin h' fun c o hc => hk c o (fun q => hc (by simp [q])) (fun q => hc (by simp [q])) (fun q => hc (by simp [q])) (fun q => hc (by simp [q])))
    · obtain ⟨t, f, o, h1, h2, _⟩ := hheld c
      exact zk_end hh D h1 h2 hi n1 (show s.heap.IsTuple a its.toArray from pl) (by simp; omega) fun h' hk => wpAny_pure (fin h' fun c o hc => hk c o (fun q => hc (by simp [q])) (fun q => hc (by simp [q])) (fun q => hc (by simp [q])))
  | succ n ih =>
    intro i Hc s e I g fp st
    obtain ⟨hta, htb⟩ := hqa Hc g.keep
    obtain ⟨its, rv, pl, hz1⟩ := I.tuple hta
    obtain ⟨its2, rv2, pl2, hz2⟩ := I.tuple htb
    have hx : xs[i]? = some (xs[i]'(by omega)) := List.getElem?_eq_getElem (by omega)
    have hy : ys[i]? = some (ys[i]'(by omega)) := List.getElem?_eq_getElem (by omega)
    obtain ⟨u, hu, ru⟩ := rv.get hx
    obtain ⟨v, hv, rv'⟩ := rv2.get hy
    apply codeAny_builtin PySem.F.entry_extend_loop
    rw [Around.under_plainId PySem.F.plain_extend_loop _]
    show wpAny _ _ (pyNext (.ref z) >>= _) _ _ _
    apply wpAny_bind
    obtain ⟨hi, hto, hheld, n1, n2, hlt⟩ := st
    have go : ∀ (h' : Heap) (f : Bool) (t : Addr) (ot : Obj), IsZipHeld h' z ti to t f → h'.get? t = some ot → t ∉ [z, ti, to, j1, j2] → t ≠ q → h'.objs.size = s.heap.objs.size + 1 → IsPair h' ti (.ref j1) (.ref j2) → h'.IsTupleIter j1 a (i + 1) → h'.IsTupleIter j2 b (i + 1) → IsPair h' s.heap.objs.size u v →
        (∀ c o, c ∉ [z, ti, to, j1, j2] → s.heap.get? c = some o → h'.get? c = some o) →
        wpAny (model X.prog X.w) A1.in1 (updateSeq q (·.push (.ref s.heap.objs.size)) >>= fun _ => again (.builtin "list.extend.loop" ⟨[.ref q, .ref z, .none], []⟩)) (fun fin s' => match fin with | PySem.Fin.done f => Rs (.ok f) s' | PySem.Fin.again c' => c'.quiet = true ∧ codeAny (model X.prog X.w) A1 c' Rs s') (fun e s' => Rs (.error e) s') { s with heap := h' } := by
      intro h' f t ot k1 k0 kt kq ks k2 k3 k4 k5 k6
      have hn : Hc s.heap.objs.size = none := I.hok.fresh (Nat.le_refl _)
      have I1 : Inv X pins σ (upd Hc s.heap.objs.size (.tup [xs[i]'(by omega), ys[i]'(by omega)])) { s with heap := h' } :=
        I.turnedNew (t' := s.toks) (ch := [z, ti, to, j1, j2]) k6 (fun c hc => (fp c hc).2) (Nat.le_refl _) ⟨by show 2 ≤ sizeLine; decide, [u, v], .cons ru (.cons rv' .nil), ⟨_, k5, rfl, _, rfl⟩⟩
      obtain ⟨ts, g1, g2, g3⟩ := g.lst
      have hqn : q ≠ s.heap.objs.size := fun e => by rw [e, hn] at g1; cases g1
      have hq1 : upd Hc s.heap.objs.size (.tup [xs[i]'(by omega), ys[i]'(by omega)]) q = some (.lst ts) := (upd_ne hqn).trans g1
      obtain ⟨zz, ws, kk, r2, hl2, e2⟩ := I1.lstM hq1
      have hw := r2.length
      apply wpAny_bind
      refine wpAny_updateSeq e2 rfl ?_ (by rw [List.size_toArray]; omega) (by rw [Array.size_push, List.size_toArray]; omega)
      have I3 := I1.lset (its' := ws ++ [Value.ref s.heap.objs.size]) (f := (·.push (Value.ref s.heap.objs.size))) (ys := ts ++ [V.ref s.heap.objs.size]) (t' := s.toks) hq1 e2 (by simp) (r2.append (.cons rfl .nil)) (by rw [List.length_append]; show _ + 1 ≤ _; omega)
      have keepQ : ∀ c o, c ≠ q → h'.get? c = some o → (h'.update q (Obj.mapSeq (·.push (Value.ref s.heap.objs.size)))).get? c = some o := fun c o hc e => ((Heap.SameBut.update ..).2 c hc).trans e
      have nq : ∀ c ∈ [z, ti, to, j1, j2], c ≠ q := fun c hc => (fp c hc).1
      have nn : ∀ c ∈ [z, ti, to, j1, j2], c ≠ s.heap.objs.size := fun c hc e => by
        have h1 := hlt c hc
        exact Nat.lt_irrefl _ (e ▸ h1)
      refine wpAny_pure ⟨plainId_quiet PySem.F.plain_extend_loop _, ih (i + 1) _ _ (by omega) I3 ⟨⟨_, upd_same, by rw [List.length_append, g2]; rfl, fun j t ht => ?_⟩, fun c o hc ho => ?_⟩ (fun c hc => ⟨nq c hc, FpOk.upd (FpOk.upd (fp c hc).2 (nn c hc)) (nq c hc)⟩) ?_⟩
      · rcases Nat.lt_or_ge j i with c | c
        · rw [List.getElem?_append_left (by omega)] at ht
          obtain ⟨T, x, y, a1, a2, a3⟩ := g3 j t ht
          refine ⟨T, x, y, a1, ?_, a3⟩
          rw [upd_ne (fun e => by rw [e, g1] at a2; cases a2), upd_ne (ne_of_none a2 hn)]
          exact a2
        · rw [List.getElem?_append_right (by omega)] at ht
          have hj : j = i := by
            have := (List.getElem?_eq_some_iff.mp ht).1
            have : j - ts.length < 1 := this
            omega
          rw [hj, g2, Nat.sub_self] at ht
          cases ht
          rw [hj]
          exact ⟨_, _, _, rfl, (upd_ne hqn.symm).trans upd_same, hx, hy⟩
      · rw [upd_ne hc, upd_ne (ne_of_none (g.keep c o hc ho) hn)]
        exact g.keep c o hc ho
      · refine ⟨keepQ _ _ (nq ti (by simp)) k2, fun h => absurd h (by omega), fun _ => ⟨t, f, ot, keepQ _ _ (nq z (by simp)) k1, keepQ _ _ kq k0, kt, kq⟩, k3.at fun o e => keepQ _ _ (nq j1 (by simp)) e, k4.at fun o e => keepQ _ _ (nq j2 (by simp)) e, fun c hc => ?_⟩
        have h1 := hlt c hc
        show c < (h'.update q (Obj.mapSeq (·.push (Value.ref s.heap.objs.size)))).objs.size
        rw [(Heap.SameBut.update (h := h') (a := q) (f := Obj.mapSeq (·.push (Value.ref s.heap.objs.size)))).1, ks]
        omega
    have nw : s.heap.objs.size ∉ [z, ti, to, j1, j2] := fun h => Nat.lt_irrefl _ (hlt _ h)
    have nwq : s.heap.objs.size ≠ q := fun e => by
      obtain ⟨ts, g1, _⟩ := g.lst
      rw [← e, I.hok.fresh (Nat.le_refl _)] at g1
      cases g1
    rcases Nat.eq_zero_or_pos i with c | c
    · obtain ⟨h2, x0, y0, h1⟩ := hto c
      exact RZ.pyNext_zipT_item D h2 hi h1 n1 n2 (show s.heap.IsTuple a its.toArray from pl) (show s.heap.IsTuple b its2.toArray from pl2) (x := u) (y := v) (by simpa using hu) (by simpa using hv) fun h' b1 b2 b3 b4 b5 b6 b7 =>
        go h' false _ _ b1 b5 nw nwq b6 (b7 _ _ D.TIz D.TITO D.TIi1 D.TIi2 hi) b3 b4 b5 fun c o hc => b7 c o (fun q => hc (by simp [q])) (fun q => hc (by simp [q])) (fun q => hc (by simp [q])) (fun q => hc (by simp [q]))
    · obtain ⟨t, f, o, h1, h2, h3, h4⟩ := hheld c
      exact zk_item D h1 h2 hi n1 n2 (show s.heap.IsTuple a its.toArray from pl) (show s.heap.IsTuple b its2.toArray from pl2) (x := u) (y := v) (by simpa using hu) (by simpa using hv) fun h' b1 b3 b4 b5 b6 b7 =>
        go h' true t o b1 (b7 t o (fun q => h3 (by simp [q])) (fun q => h3 (by simp [q])) (fun q => h3 (by simp [q])) h2) h3 h4 b6 (b7 _ _ D.TIz D.TIi1 D.TIi2 hi) b3 b4 b5 fun c o hc => b7 c o (fun q => hc (by simp [q])) (fun q => hc (by simp [q])) (fun q => hc (by simp [q]))
theorem zip_no_length : typeLookup (.type "zip") "__len__" = pure none := am_miss_of_fast (by decide +kernel)
theorem zip_no_hints : typeLookup (.type "zip") "__length_hint__" = pure none := am_miss_of_fast (by decide +kernel)
theorem list_of_zip {xs ys : List V} {a b z ti to j1 j2 : Addr} {H : Hp} {s : Shared} {Q : Value → Shared → Prop} {E : Value → Shared → Prop} (hc : X.calm = true) (I : Inv X pins σ H s) (ha : SqT X.K H a xs) (hb : SqT X.K H b ys) (hxy : xs.length = ys.length) (hl : xs.length ≤ sizeLine)
    (D : ZipApart z ti to j1 j2 a b) (hz : IsZip s.heap z ti to .none) (hi : IsPair s.heap ti (.ref j1) (.ref j2)) (ho : ∃ x y, IsPair s.heap to x y) (h1 : s.heap.IsTupleIter j1 a 0) (h2 : s.heap.IsTupleIter j2 b 0) (fp : ∀ c ∈ [z, ti, to, j1, j2], FpOk X pins H c) (lt : ∀ c ∈ [z, ti, to, j1, j2], c < s.heap.objs.size)
    (hq : ∀ q Hc s', H q = none → Inv X pins σ Hc s' → ZIn H Hc q xs ys xs.length → Q (.ref q) s') : wpAny (model X.prog X.w) X.A (call (.type "list") [.ref z]) Q E s := by
  refine callType_codes (Q₁ := fun obj s1 => obj = .ref s.heap.objs.size ∧ s1 = { s with heap := s.heap.push { cls := .type "list", data := .seq #[] } }) PySem.F.called_list (PySem.F.typeCall_list_1 _) PySem.F.entry_list_init
    (code_list_new _ ⟨rfl, rfl⟩) ?_
  rintro obj s1 ⟨rfl, rfl⟩
  have hS : (s.heap.push { cls := .type "list", data := .seq #[] }).get? s.heap.objs.size = some { cls := .type "list", data := .seq #[] } := Heap.get?_push_size _ rfl
  refine ⟨⟨_, hS, rfl⟩, PySem.F.args_list_init_2 _ _, ?_⟩
  have fr : H s.heap.objs.size = none := I.hok.fresh (Nat.le_refl _)
  have I1 : Inv X pins σ (upd H s.heap.objs.size (.lst [])) { s with heap := s.heap.push { cls := .type "list", data := .seq #[] } } := I.lnew (its := []) (t' := s.toks) .nil (Nat.zero_le _)
  have nq : ∀ c ∈ [z, ti, to, j1, j2], c ≠ s.heap.objs.size := fun c hc => Nat.ne_of_lt (lt c hc)
  have up : ∀ c o, s.heap.get? c = some o → (s.heap.push { cls := .type "list", data := .seq #[] }).get? c = some o := fun c o e => Heap.get?_push_of_some _ e
  have psz : (s.heap.push { cls := .type "list", data := .seq #[] }).objs.size = s.heap.objs.size + 1 := Heap.size_push ..
  have hq0 := hq s.heap.objs.size
  generalize hqq : s.heap.objs.size = q at hS fr I1 nq psz hq0 ⊢
  show wpAny _ _ (do let old ← Builtin.List.listItems (.ref q); Builtin.List.listUpdate (.ref q) (fun _ => #[]); letGo old.toList.reverse; Builtin.List.listExtendWith (.ref q) (.ref z) .none) _ _ _
  apply wpAny_bind
  unfold Builtin.List.listItems
  apply wpAny_bind
  refine wpAny_seqItems hS rfl (wpAny_pure ?_)
  show wpAny _ _ (updateSeq q (fun _ => #[]) >>= fun _ => letGo (#[] : Array Value).toList.reverse >>= fun _ => Builtin.List.listExtendWith (.ref q) (.ref z) .none) _ _ _
  apply wpAny_bind
  refine wpAny_updateSeq hS rfl ?_
  have I2 := I1.lset (f := fun _ => #[]) (its := []) (its' := []) (ys := []) (t' := s.toks) upd_same hS rfl .nil (Nat.zero_le _)
  rw [upd_upd] at I2
  apply wpAny_bind
  apply wpAny_letGo
  have up2 : ∀ c o, c ≠ q → s.heap.get? c = some o → ((s.heap.push { cls := .type "list", data := .seq #[] }).update q (Obj.mapSeq fun _ => #[])).get? c = some o := fun c o hc e => ((Heap.SameBut.update ..).2 c hc).trans (up c o e)
  have hz2 := up2 z _ (nq z (by simp)) hz
  have ty : (⟨_, hz2, rfl⟩ : Shared.TypeIs { s with heap := (s.heap.push { cls := .type "list", data := .seq #[] }).update q (Obj.mapSeq fun _ => #[]) } (.ref z) "zip") = ⟨_, hz2, rfl⟩ := rfl
  have tyz : Shared.TypeIs { s with heap := (s.heap.push { cls := .type "list", data := .seq #[] }).update q (Obj.mapSeq fun _ => #[]) } (.ref z) "zip" := ⟨_, hz2, rfl⟩
  unfold Builtin.List.listExtendWith
  apply wpAny_bind
  refine wpAny_typeOf tyz ?_
  have d1 : Builtin.List.listSameRef (.ref q) (.ref z) = false := by simp [Builtin.List.listSameRef, (nq z (by simp)).symm]
  have d2 : (Value.type "zip" == Value.type "list") = false := by decide
  have d3 : (Value.type "zip" == Value.type "tuple") = false := by decide
  simp only [d1, d2, d3, Bool.or_false, Bool.false_eq_true, if_false]
  apply wpAny_bind
  refine wpAny_pyIter_zip hz2 ?_
  apply wpAny_bind
  refine wpAny_holding ?_
  unfold Builtin.List.listLengthHint
  refine wpAny_bind (wpAny_specialOf tyz zip_no_length ?_)
  show wpAny _ _ (specialOf (Value.ref z) (Str.ofString "__length_hint__") >>= fun _ => _) _ _ _
  refine wpAny_bind (wpAny_specialOf tyz zip_no_hints (wpAny_pure ?_))
  show wpAny _ _ (rule "list.extend.makes-room" >>= fun _ => Builtin.List.listTouch (.ref q) >>= fun _ => again (.builtin "list.extend.loop" ⟨[.ref q, .ref z, .none], []⟩)) _ _ _
  apply wpAny_bind
  apply wpAny_rule
  apply wpAny_bind
  show wpAny _ _ (updateSeq q (·.push .none) >>= fun _ => updateSeq q (·.pop)) _ _ _
  obtain ⟨z3, its, kk, r3, hl3, e3⟩ := I2.lstM upd_same
  cases r3
  apply wpAny_bind
  refine wpAny_updateSeq e3 rfl ?_
  have I5 := I2.lset (f := (·.push Value.none)) (its' := [Value.none]) (ys := [.non]) (t' := s.toks) upd_same e3 (by simp) (.cons rfl .nil) (by show 1 ≤ _; rw [sizeLine_eq]; decide)
  obtain ⟨z4, its4, k4, r4, hl4, e4⟩ := I5.lstM upd_same
  obtain ⟨u4, rfl, ru4⟩ := r4.one
  refine wpAny_updateSeq e4 rfl ?_ (by show 1 ≤ sizeLine; rw [sizeLine_eq]; decide) (Nat.zero_le _)
  have I6 := I5.lset (f := (·.pop)) (its := [u4]) (its' := []) (ys := []) (t' := s.toks) upd_same e4 (by rfl) .nil (Nat.zero_le _)
  rw [upd_upd, upd_upd] at I6
  have up3 : ∀ c o, c ≠ q → s.heap.get? c = some o → (((((s.heap.push { cls := .type "list", data := .seq #[] }).update q (Obj.mapSeq fun _ => #[])).update q (Obj.mapSeq (·.push Value.none))).update q (Obj.mapSeq (·.pop)))).get? c = some o :=
    fun c o hc e => ((Heap.SameBut.update ..).2 c hc).trans (((Heap.SameBut.update ..).2 c hc).trans (up2 c o hc e))
  have ts : ∀ {c : Addr} {ws : List V}, SqT X.K H c ws → ∀ Hc : Hp, (∀ d o, d ≠ q → upd H q (.lst []) d = some o → Hc d = some o) → SqT X.K Hc c ws := fun h Hc kp => by
    refine sqt_kp (H := H) (fun d o e _ => ?_) h
    exact kp d o (ne_of_none e fr) (by rw [upd_ne (ne_of_none e fr)]; exact e)
  refine wpAny_pure ⟨plainId_quiet PySem.F.plain_extend_loop _, zip_fill (A1 := X.A.in1) (H0 := upd H q (.lst [])) (xs := xs) (ys := ys) (by exact I6.ok.hd hc) (ts ha _ fun d o _ e => e) (ts hb _ fun d o _ e => e) hxy hl (fun Hc kp => ⟨ts ha Hc kp, ts hb Hc kp⟩) D
    (fun s' Hc I7 g => ⟨rfl, hq0 Hc s' fr I7 ⟨g.lst, fun c o hc e => g.keep c o hc (by rw [upd_ne hc]; exact e)⟩⟩) xs.length 0 _ _ (by omega) I6 ⟨⟨[], upd_same, rfl, fun j t h => by simp at h⟩, fun c o _ e => e⟩ (fun c hc => ⟨nq c hc, FpOk.upd (fp c hc) (nq c hc)⟩) ?_⟩
  obtain ⟨x0, y0, ho⟩ := ho
  refine ⟨up3 _ _ (nq ti (by simp)) hi, fun _ => ⟨up3 _ _ (nq z (by simp)) hz, x0, y0, up3 _ _ (nq to (by simp)) ho⟩, fun h => absurd h (Nat.lt_irrefl _), h1.at fun o e => up3 _ _ (nq j1 (by simp)) e, h2.at fun o e => up3 _ _ (nq j2 (by simp)) e, fun c hc => ?_⟩
  have h1 := lt c hc
  have e1 := (Heap.SameBut.update (h := s.heap.push { cls := .type "list", data := .seq #[] }) (a := q) (f := Obj.mapSeq fun _ => #[])).1
  have e2 := (Heap.SameBut.update (h := (s.heap.push { cls := .type "list", data := .seq #[] }).update q (Obj.mapSeq fun _ => #[])) (a := q) (f := Obj.mapSeq (·.push Value.none))).1
  have e3 := (Heap.SameBut.update (h := ((s.heap.push { cls := .type "list", data := .seq #[] }).update q (Obj.mapSeq fun _ => #[])).update q (Obj.mapSeq (·.push Value.none))) (a := q) (f := Obj.mapSeq (·.pop))).1
  show c < (((((s.heap.push { cls := .type "list", data := .seq #[] }).update q (Obj.mapSeq fun _ => #[])).update q (Obj.mapSeq (·.push Value.none))).update q (Obj.mapSeq (·.pop)))).objs.size
  refine Nat.lt_of_lt_of_le h1 ?_
  rw [hqq]
  exact Nat.le_of_lt (Nat.lt_of_lt_of_eq (Nat.lt_succ_self q) (((e3.trans e2).trans e1).trans psz).symm)
/-- list(zip(e, f)) -/
def tLZip (K : PySem.W.Frag) (ta : TA) : TE := fun σ H Q => ta σ H fun vs H1 => ∃ a b xs ys, vs = [.ref a, .ref b] ∧ SqT K H1 a xs ∧ SqT K H1 b ys ∧ xs.length = ys.length ∧ xs.length ≤ sizeLine ∧ ∀ q H2, H1 q = none → ZIn H1 H2 q xs ys xs.length → Q (.ref q) H2
theorem pe_listZip {e e2 : Expr} {ta : TA} {p p2 pos pos2 : Pos} {K : PySem.W.Frag} (hc : X.calm = true) (hg : Gl X "list") (hm : X.mg "list" = none) (hg2 : Gl X "zip") (hm2 : X.mg "zip" = none) (ha : PA X [e, e2] ta) (hK : X.K = K := by rfl)
    (na : starEach [.Call (.Name "zip" p2) [e, e2] [] pos2] X.env = (false, eval (.Call (.Name "zip" p2) [e, e2] [] pos2) X.env) :: starEach [] X.env := by rfl)
    (hs : starEach [e, e2] X.env = (false, eval e X.env) :: starEach [e2] X.env := by rfl) (hpl : (backTo pos2 (starEach [e2] X.env)).any (·.1) = false := by rfl) :
    PE X (.Call (.Name "list" p) [.Call (.Name "zip" p2) [e, e2] [] pos2] [] pos) (tLZip K ta) := by
  subst hK
  refine ⟨fun pins s σ H Q I h => ?_⟩
  refine Call_ (ld_blt I hg hm boot_list (PyProof.Rows.callWith_type1 (args_cons (Call_ (ld_blt I hg2 hm2 PyProof.Rows.boot_zip (PyProof.Rows.callWith_type1 (thn (ha.run pos2 pins s σ H _ I h) fun us s1 ⟨vs, H1, I1, r1, q1⟩ => ?_) hs hpl))) na) na))
  obtain ⟨a, b, xs, ys, rfl, hx, hy, hxy, hl, q1⟩ := q1
  cases r1 with
  | cons r rr =>
    cases rr with
    | cons r' rr =>
      cases rr
      cases r
      cases r'
      obtain ⟨its, rv, p1, _⟩ := I1.tuple hx
      obtain ⟨its2, rv2, p2', _⟩ := I1.tuple hy
      obtain ⟨o1, ho1, _⟩ := id p1
      obtain ⟨o2, ho2, _⟩ := id p2'
      refine RZ.call_zipT (show s1.heap.IsTuple a its.toArray from p1) (show s1.heap.IsTuple b its2.toArray from p2') fun h' hz hTI hTO h1 h2 hsz hk => args_nil ?_
      have I2 : Inv X pins σ H1 { s1 with heap := h' } := I1.kept (t' := s1.toks) hk
      refine list_of_zip hc I2 hx hy hxy hl (PySem.W.ktu_apart s1.heap.objs.size a b (Heap.lt_size ho1) (Heap.lt_size ho2)) hz hTI ⟨_, _, hTO⟩ h1 h2 (fun c hcm => ?_) (fun c hcm => ?_) fun q Hc s' f I3 g => ⟨.ref q, Hc, I3, rfl, q1 q Hc f g⟩
      · have hle : s1.heap.objs.size ≤ c := by
          simp only [List.mem_cons, List.not_mem_nil, or_false] at hcm
          rcases hcm with z | z | z | z | z <;> (rw [z]; first | exact Nat.le_refl _ | exact Nat.le_add_right _ _)
        exact I1.fpOk hle (I1.hok.fresh hle)
      · simp only [List.mem_cons, List.not_mem_nil, or_false] at hcm
        show c < h'.objs.size
        rw [hsz]
        rcases hcm with z | z | z | z | z <;> (rw [z]; first | exact Nat.add_lt_add_left (by decide) _ | exact Nat.lt_add_of_pos_right (by decide))
end
/-! ## a list made longer by a tuple -/
theorem ext_anyT (l : Addr) (is : Array Value) (n : Nat) (t : Addr) (js : Array Value) (m : Nat) (dd : Option Addr) (sl : Array (Option Value)) (q0 : ¬ (!is.isEmpty && Builtin.List.listTooLong (is.size + js.size)) = true) (q1 : is.size ≤ sizeLine) (q2 : is.size + js.size ≤ sizeLine + 1) :
    Meets (Builtin.«list.extend» ⟨[.ref l, .ref t], []⟩) (fun _ R s => s.heap.get? l = some { cls := .type "list", dict := none, data := .seq is n, slots := #[] } ∧ s.heap.get? t = some { cls := .type "tuple", dict := dd, data := .seq js m, slots := sl } ∧
      R (.ok (.ret Value.none)) { s with heap := s.heap.update l (Obj.mapSeq fun x => x ++ js), toks := s.toks }) :=
  .of_wp fun prog w A R s h => by
    obtain ⟨hp, g, d, tk, os⟩ := s
    obtain ⟨e1, e2, h⟩ := h
    have g1 := AutoSeq1.idx_int
    have g2 := AutoSeq1.sub_tuple_tuple; have g3 := AutoSeq1.sub_list_list
    have g4 := AutoSeq1.sub_tuple_list; have g5 := AutoSeq1.sub_list_tuple
    have q2' : (is ++ js).size ≤ sizeLine + 1 := by rw [Array.size_append]; omega
    wp_walk using (wpAny_updateSeq e1 rfl (hz := q1) (_hz' := q2')), AutoSeq1.wpAny_loadPart' e1, AutoSeq1.wpAny_loadPart' e2
    exact ⟨_, rfl, h⟩
def rExtT (K : PySem.W.Frag) : V → List V → Hp → VK → Prop := fun x vs H Q => ∃ l b xs zs, x = .ref l ∧ vs = [.ref b] ∧ H l = some (.lst xs) ∧ SqT K H b zs ∧ xs.length + zs.length ≤ sizeLine ∧ Q .non (upd H l (.lst (xs ++ zs)))
theorem mt_extT {X : Cx} {K : PySem.W.Frag} (hK : X.K = K := by rfl) : MtM X "list.extend" (rExtT K) := by
  subst hK
  intro pins s σ H x vs v us Q I rx rv h
  obtain ⟨l, b, xs, zs, rfl, rfl, hl, hb, hz, q⟩ := h
  cases rx
  obtain ⟨u, rfl, ru⟩ := rv.one
  cases ru
  obtain ⟨z1, is, n, ri, el, eo⟩ := I.lstM hl
  obtain ⟨js, rj, ⟨⟨cls, dd, dat, sl⟩, ho, hc, n2, hd⟩, h2⟩ := I.tuple hb
  have ej := rj.length
  simp only at hc hd
  subst hc hd
  have sz : is.toArray.size + js.toArray.size ≤ sizeLine := by rw [List.size_toArray, List.size_toArray]; omega
  have nl : ¬ (!is.toArray.isEmpty && Builtin.List.listTooLong (is.toArray.size + js.toArray.size)) = true := by
    rw [notLongL sz, Bool.and_false]; exact Bool.false_ne_true
  refine call_meets PySem.F.slot_list_extend ⟨_, eo, rfl⟩ PySem.F.entry_list_extend (PySem.F.args_list_extend_2 _ _) (ext_anyT l is.toArray n b js.toArray n2 dd sl nl (by rw [List.size_toArray]; omega) (by omega)) ⟨eo, ho, ?_⟩
  exact ⟨.non, _, I.lset (its' := is ++ js) hl eo (by simp) (ri.append rj) (by rw [List.length_append]; omega), rfl, q⟩
theorem ext_tup {K : PySem.W.Frag} {H : Hp} {Q : VK} {p q : Addr} {xs ys : List V} (h1 : H p = some (.lst xs)) (h2 : SqT K H q ys) (hl : xs.length + ys.length ≤ sizeLine) (h : putO p (xs ++ ys) H (Q .non)) : rExtT K (.ref p) [.ref q] H Q := ⟨p, q, xs, ys, rfl, rfl, h1, h2, hl, h⟩
theorem rLZip {K : PySem.W.Frag} {ta : TA} {σ : L2.St} {H : Hp} {Q : VK} (h : ta σ H fun vs H1 => ∃ a b xs ys, vs = [.ref a, .ref b] ∧ SqT K H1 a xs ∧ SqT K H1 b ys ∧ xs.length = ys.length ∧ xs.length ≤ sizeLine ∧ ∀ q H2, H1 q = none → ZIn H1 H2 q xs ys xs.length → Q (.ref q) H2) : tLZip K ta σ H Q := h
theorem ZIn.same {H0 Hc : Hp} {q : Addr} {xs ys : List V} {i : Nat} (g : ZIn H0 Hc q xs ys i) (f : H0 q = none) : Same H0 Hc := fun c o e => g.keep c o (ne_of_none e f) e
/-! ## a row of two lists, place by place -/
theorem Paired.of_at {α β : Type} {F : α → β → Prop} : ∀ {xs : List α} {ys : List β}, xs.length = ys.length → (∀ (j : Nat) x y, xs[j]? = some x → ys[j]? = some y → F x y) → Paired F xs ys
  | [], [], _, _ => .nil
  | [], _ :: _, h, _ => by cases h
  | _ :: _, [], h, _ => by cases h
  | x :: xs, y :: ys, h, f => .cons (f 0 x y rfl rfl) (Paired.of_at (Nat.succ.inj h) fun j a b h1 h2 => f (j + 1) a b h1 h2)
theorem zip_all {α : Type} : ∀ {xs ys : List α}, xs.length = ys.length → ((∀ e ∈ xs.zip ys, e.1 = e.2) ↔ xs = ys)
  | [], [], _ => ⟨fun _ => rfl, fun _ e h => nomatch h⟩
  | [], _ :: _, h => by cases h
  | _ :: _, [], h => by cases h
  | x :: xs, y :: ys, h => by
    rw [List.zip_cons_cons, List.forall_mem_cons, zip_all (Nat.succ.inj h)]
    exact ⟨fun ⟨a, b⟩ => by rw [show x = y from a, b], fun e => by injection e with a b; exact ⟨a, b⟩⟩
/-! ## the greatest of a list -/
theorem max_lst {K : PySem.W.Frag} {H : Hp} {Q : VK} {p : Addr} {ns : List Int} {m : Int} (h1 : H p = some (.lst (ns.map V.int))) (hm : m ∈ ns) (hg : ∀ y ∈ ns, y ≤ m) (h : Q (.int m) H) : rMax K [.ref p] H Q := by
  refine ⟨p, ns, rfl, SqL.of h1, List.length_pos_of_mem hm, fun m' h1 h2 => ?_⟩
  have := hg m' h1
  have := h2 m hm
  rw [show m' = m by omega]
  exact h
/-! ## dicts by tuples -/
section
variable {td ty tv : TE} {σ : L2.St} {H : Hp} {Q : VK} {QT : Bool → Hp → Prop} {a b : Addr} {kvs : List (List L2.Key × V)} {k : List L2.Key} {v : V}
theorem rDNewT (h : ∀ (p : Addr) (H' : Hp), Frs H p → Same H H' → H' p = some (.dT []) → Q (.ref p) H') : tDNewT σ H Q := fun p hp => h p _ hp (fun b u e => by rw [upd_ne (ne_of_none e hp)]; exact e) upd_same
theorem rDNotIn (h : ty σ H fun y H1 => td σ H1 fun x H2 => ∃ a o, x = .ref a ∧ DGet H2 a y o ∧ Q (.bl (!o.isSome)) H2) : tDNotIn ty td σ H Q := h
theorem dnot_t {R : Option V → Prop} (h1 : H a = some (.dT kvs)) (h2 : H b = some (.tup (k.map kV))) (h : R (valV kvs k)) : ∃ a' o, V.ref a = .ref a' ∧ DGet H a' (.ref b) o ∧ R o := ⟨a, _, rfl, DGet.t h1 h2, h⟩
theorem dget_t {R : V → Prop} (h1 : H a = some (.dT kvs)) (h2 : H b = some (.tup (k.map kV))) (h3 : valV kvs k = some v) (h : R v) : ∃ a' w, V.ref a = .ref a' ∧ DGet H a' (.ref b) (some w) ∧ R w := by
  refine ⟨a, v, rfl, ?_, h⟩
  rw [← h3]
  exact DGet.t h1 h2
theorem dput_t {R : Hp → Prop} (h1 : H a = some (.dT kvs)) (h2 : H b = some (.tup (k.map kV))) (hl : kvs.length < sizeLine) (h : R (upd H a (.dT (putK kvs k v)))) : ∃ a' H4, V.ref a = .ref a' ∧ DPut H a' (.ref b) v H4 ∧ R H4 := ⟨a, _, rfl, DPut.t h1 h2 hl, h⟩
end
/-! ## a comprehension over a tuple, read or in the text -/
theorem rRtK {K : PySem.W.Frag} {H : Hp} {p : Addr} {xs : List V} {R : Addr → Prop} (h1 : SqT K H p xs) (h : R p) : ∃ a, V.ref p = V.ref a ∧ (∃ xs, SqT K H a xs) ∧ R a := ⟨p, rfl, ⟨xs, h1⟩, h⟩
theorem compTK_pure {K : PySem.W.Frag} {a : Addr} {xs : List V} {i : Nat} {te : TE} {σ : L2.St} {H : Hp} {Q : VK} (ha : SqT K H a xs) (Pa : List V → Hp → Prop) (h0 : ∀ H2, Same H H2 → Pa [] H2)
    (hs : ∀ acc x H2 D, pIn H D xs.length acc H2 → xs[acc.length]? = some x → Pa acc H2 → te ((σ.set i none).set i (some x)) H2 (fun y H3 => pD H D Pa acc.length y H3))
    (hd : ∀ acc H2 D, acc.length = xs.length → Pa acc H2 → Same H H2 → H2 D = some (.lst acc) → Frs H D → Q (.ref D) H2) : compJ (Itt K a) (gName i) tYes te [i] σ H Q := by
  intro D hD
  refine lc_tup (K := K) (a := a) (xs := xs) (Qd := fun H' => Q (.ref D) H') (fun k H' => ∃ acc, acc.length = k ∧ Pa acc H' ∧ Same H H' ∧ H' D = some (.lst acc)) ⟨[], rfl, h0 _ (Same.upd_new (Same.refl H) hD), Same.upd_new (Same.refl H) hD, upd_same⟩ (fun i H' _ ⟨_, _, _, s, _⟩ => sqt_kp (KpS.same s) ha) ?_ ?_
  · rintro k x H' hx ⟨acc, rfl, pa, s, hDl⟩
    exact ⟨wipe1 σ i _, (hs acc x H' D ⟨hDl, hD, s, (List.getElem?_eq_some_iff.mp hx).1⟩ hx pa)⟩
  · rintro H' ⟨acc, e, pa, s, hDl⟩
    exact hd acc H' D e pa s hDl hD
theorem call_maxK {X : Cx} {K : PySem.W.Frag} (hc : X.calm = true) (hK : X.K = K := by rfl) : CallR X (.builtin "max") (rMax K) := by
  subst hK
  exact cr_max hc
theorem sl_tupc {K : PySem.W.Frag} {H : Hp} {Q : VK} {p : Addr} {xs : List V} {lo hi : Option Int} (h1 : H p = some (.tup xs)) (hn : ¬ (HT.sIx xs.length 0 lo = 0 ∧ HT.sIx xs.length xs.length hi = xs.length)) (h : newO (.tup (cutV xs lo hi)) H Q) : rSlU K (.ref p) lo hi H Q :=
  .inr (.inr ⟨p, xs, rfl, SqT.of h1, fun e => absurd e hn, fun _ => h⟩)
theorem SL.dT {l p : Addr} {H H' : Hp} {kvs : List (List L2.Key × V)} (s : SL l H H') (h : H p = some (.dT kvs)) : H' p = some (.dT kvs) := KpS.sl s p _ h fun _ z => nomatch z
theorem add_tupC {K : PySem.W.Frag} {p q : Addr} {xs ys : List V} {H : Hp} {Q : VK} (h1 : H p = some (.tup xs)) (h2 : H q = some (.tup ys)) (n1 : xs ≠ []) (hl : xs.length + ys.length ≤ sizeLine) (h : ∀ r H', Same H H' → H' r = some (.tup (xs ++ ys)) → Q (.ref r) H') : rAddU K (.ref p) (.ref q) H Q :=
  .inr (.inr (.inr ⟨p, q, xs, ys, rfl, rfl, SqT.of h1, SqT.of h2, hl, fun e => absurd e n1, fun _ e => h p H (Same.refl _) (by rw [e, List.append_nil]; exact h1), fun _ _ => newO_gen fun r H' _ s e => h r H' s e⟩))
end Z
namespace Z
open PySem PySem.Spec PyProof.Rows L2 ItX
/-! ## enumerate of a tuple -/
section
open AutoSeq1 (wpAny_loadPart')
theorem mk_enumT (t : Addr) (xs : Array Value) (k : Nat) (dc : Option Addr) (sl : Array (Option Value)) :
    Meets (Builtin.«enumerate.__new__» ⟨[.type "enumerate", .ref t], []⟩) (fun _ R s => s.heap.get? t = some { cls := .type "tuple", dict := dc, data := .seq xs k, slots := sl } ∧
      R (.ok (.ret (.ref (s.heap.push { cls := .type "tuple_iterator", data := .fields #[.ref t, .int 0 0] }).objs.size)))
        { s with heap := (s.heap.push { cls := .type "tuple_iterator", data := .fields #[.ref t, .int 0 0] }).push { cls := .type "enumerate", data := .fields #[.none, .bool false, .ref s.heap.objs.size, rawInt 0, .none, .none] } }) :=
  .of_wp fun prog w A R s z => by
    obtain ⟨hp, g, d, tk, os⟩ := s; obtain ⟨ht, z⟩ := z
    have u1 := sub_enumerate
    have u2 : Heap.IsTuple (Shared.heap ⟨hp, g, d, tk, os⟩) t xs := ⟨_, ht, rfl, k, rfl⟩
    wp_walk using wpAny_loadPart' ht
    refine wpAny_stack_any fun _ => wpAny_pure ?_
    split
    · rename_i cc _ _ _ _ _
      cases (cc == Value.type "enumerate")
      · wp_walk using wpAny_loadPart' ht, wpAny_pyIter_tuple u2
        exact ⟨_, rfl, z⟩
      · wp_walk using wpAny_loadPart' ht, wpAny_pyIter_tuple u2
        exact ⟨_, rfl, z⟩
    · wp_walk using wpAny_loadPart' ht, wpAny_pyIter_tuple u2
      exact ⟨_, rfl, z⟩
end
section
variable {prog : Program} {w : World} {A : Around} {E : Value → Shared → Prop} {s : Shared}
theorem call_enumT {t : Addr} {xs : Array Value} {Q : Value → Shared → Prop} (ht : s.heap.IsTuple t xs)
    (z : ∀ h', IsEnum h' (s.heap.objs.size + 1) s.heap.objs.size 0 .none → h'.IsTupleIter s.heap.objs.size t 0 → h'.objs.size = s.heap.objs.size + 2 →
      (∀ c o, s.heap.get? c = some o → h'.get? c = some o) → Q (.ref (s.heap.objs.size + 1)) { s with heap := h' }) :
    wpAny (model prog w) A (call (.type "enumerate") [.ref t]) Q E s := by
  obtain ⟨⟨c, dc, dt, sl⟩, e0, ec, k, ed⟩ := ht
  have ec' : c = .type "tuple" := ec
  have ed' : dt = .seq xs k := ed
  subst ec' ed'
  refine callType_new F.called_enumerate (by decide) (F.typeCall_enumerate_1 _) (F.newCall_enumerate_1 _) (fun ob => F.args_object_init_2 ob _) F.entry_enumerate_new (mk_enumT t xs k dc sl) ⟨e0, ?_⟩
  have sz : (s.heap.push { cls := .type "tuple_iterator", data := .fields #[.ref t, .int 0 0] }).objs.size = s.heap.objs.size + 1 := Heap.size_push ..
  show _ ∧ _
  rw [sz]
  have he : IsEnum ((s.heap.push { cls := .type "tuple_iterator", data := .fields #[.ref t, .int 0 0] }).push { cls := .type "enumerate", data := .fields #[.none, .bool false, .ref s.heap.objs.size, rawInt 0, .none, .none] }) (s.heap.objs.size + 1) s.heap.objs.size 0 .none := by
    have q := Heap.get?_push_size (s.heap.push { cls := .type "tuple_iterator", data := .fields #[.ref t, .int 0 0] }) (o := { cls := .type "enumerate", data := .fields #[.none, .bool false, .ref s.heap.objs.size, rawInt 0, .none, .none] }) rfl
    rw [sz] at q
    exact q
  exact ⟨⟨_, he, rfl⟩, z _ he ⟨_, Heap.get?_push_of_some _ (Heap.get?_push_size _ rfl), rfl, rfl⟩ (by rw [Heap.size_push, sz]) fun c o q => Heap.get?_push_of_some _ (Heap.get?_push_of_some _ q)⟩
end
/-- the tuple at a, each item in a new pair -/
def IteT (K : PySem.W.Frag) (a : Addr) : It :=
  ⟨fun i H => ∃ (xs : List V) (x : V), SqT K H a xs ∧ xs[i]? = some x, fun i H v H' => ∃ T x, v = .ref T ∧ H T = none ∧ H' = upd H T (.tup [.int (i : Nat), x]) ∧ ∀ xs, SqT K H a xs → xs[i]? = some x, fun i H => ∃ xs : List V, SqT K H a xs ∧ xs.length ≤ i⟩
theorem apart_enT {h : Heap} {a it : Addr} {i : Nat} {xs : Array Value} (p : h.IsTuple a xs) (q : h.IsTupleIter it a i) : a ≠ it := fun e => by
  obtain ⟨o, e1, c1, _⟩ := p
  obtain ⟨o', e2, c2, _⟩ := q
  rw [e, e2] at e1
  cases e1
  rw [c1] at c2
  exact absurd c2 (by simp)
theorem apart_enE {h : Heap} {a e it : Addr} {i : Int} {old : Value} {xs : Array Value} (p : h.IsTuple a xs) (q : IsEnum h e it i old) : e ≠ a := fun z => by
  obtain ⟨o, e1, c1, _⟩ := p
  rw [← z, q] at e1
  cases e1
  exact absurd c1 (by simp)
theorem turn_enumT {P : Program} {w : World} {K : PySem.W.Frag} {elts : List Expr} {kk : Nat} {tpos : Pos} (a e it : Addr) :
    Turn P w K (.Tuple elts kk tpos) (IteT K a) [e, it] e (fun i h => (∃ old, IsEnum h e it ((i : Nat) : Int) old) ∧ h.IsTupleIter it a i ∧ e ≠ it) where
  mem := by simp
  obj := fun i h st c hc => by
    obtain ⟨⟨old, q1⟩, ⟨o, q2, q3, q4⟩, _⟩ := st
    rcases (by simpa using hc : c = e ∨ c = it) with z | z
    · rw [z]; exact ⟨_, q1, fun v q => nomatch q⟩
    · rw [z]; exact ⟨o, q2, fun v q => by rw [q4] at q; cases q⟩
  keep := fun i h h' st k => let ⟨⟨old, q1⟩, q2, q3⟩ := st; ⟨⟨old, k e (by simp) _ q1⟩, q2.at fun o q => k it (by simp) o q, q3⟩
  item := by
    intro X e1 e2 e3 hcalm i pins s σ H E I hf st hgo
    subst e1 e2 e3
    obtain ⟨⟨old, q1⟩, q2, q3⟩ := st
    obtain ⟨xs, x, hq, hx⟩ := hgo
    obtain ⟨its, rv, p, hz⟩ := I.tuple hq
    obtain ⟨u, hu, ru⟩ := rv.get hx
    have l1 : e < s.heap.objs.size := Heap.lt_size q1
    have l2 : it < s.heap.objs.size := by obtain ⟨_, q, _⟩ := q2; exact Heap.lt_size q
    have na : a ≠ it := apart_enT p q2
    have ne' : e ≠ a := apart_enE p q1
    have hil : i < its.toArray.size := by rw [List.size_toArray]; exact (List.getElem?_eq_some_iff.mp hu).1
    refine wpAny_pyNext_enum_itemC (Draws.tuple (A := X.A.in1) (I.ok.hd hcalm) it a na its.toArray) q1 ⟨q2, p⟩ hil q3 (by simp [q3, ne']) fun y h' tk hy ho hit' hT hsz hk => ?_
    have ey : y = u := by
      rw [List.getElem?_toArray, hu] at hy
      exact (Option.some.inj hy).symm
    subst ey
    refine ⟨_, rfl, wpAny_letOwnedTupleGo_enum (s := { s with heap := h', toks := tk + 1 }) ho fun h'' he' sb => ?_⟩
    have hT2 : h''.get? s.heap.objs.size = some { cls := .type "tuple", data := .seq #[.int i tk, y] } := (sb.2 _ (Nat.ne_of_gt l1)).trans hT
    have new : ObjOk X.prog X.w (upd H s.heap.objs.size (.tup [.int (i : Nat), x])) h'' s.heap.objs.size (.tup [.int (i : Nat), x]) :=
      ⟨by show 2 ≤ sizeLine; decide, [.int i tk, y], .cons ⟨_, rfl⟩ (.cons ru .nil), ⟨_, hT2, rfl, _, rfl⟩⟩
    have I1 : Inv X pins σ (upd H s.heap.objs.size (.tup [.int (i : Nat), x])) { s with heap := h'', toks := tk + 1 } :=
      I.turnedNew (ch := [e, it]) (fun b ob hb q => (sb.2 b (fun z => hb (by simp [z]))).trans (hk b ob (fun z => hb (by simp [z])) (fun z => hb (by simp [z])) q)) hf (Nat.le_refl _) new
    refine ⟨.ref s.heap.objs.size, _, I1, rfl, ⟨_, x, rfl, I.hok.fresh (Nat.le_refl _), rfl, fun ys hy => by rw [I.tuple_inj hy hq]; exact hx⟩, ⟨⟨y, ?_⟩, hit'.1.at fun o q => (sb.2 it (Ne.symm q3)).trans q, q3⟩, fun b hb => ?_⟩
    · have e9 : ((i + 1 : Nat) : Int) = (i : Int) + 1 := by omega
      rw [e9]
      exact he'
    · have hb' : b < s.heap.objs.size := by
        rcases (by simpa using hb : b = e ∨ b = it) with z | z
        · rw [z]; exact l1
        · rw [z]; exact l2
      rw [upd_ne (Nat.ne_of_lt hb')]
      exact (hf b hb).1
  done := by
    intro X e1 e2 e3 hcalm i pins s σ H E I hf st hstop
    subst e1 e2 e3
    obtain ⟨⟨old, q1⟩, q2, q3⟩ := st
    obtain ⟨xs, hq, hx⟩ := hstop
    obtain ⟨its, rv, p, hz⟩ := I.tuple hq
    obtain ⟨f0, f1, f2, f3, f4, f5⟩ := hf it (by simp)
    have na : a ≠ it := apart_enT p q2
    have hl := rv.length
    have D := Draws.tuple (prog := X.prog) (w := X.w) (A := X.A.in1) (I.ok.hd hcalm) it a na its.toArray
    have hT : s.TypeIs (.ref e) "enumerate" := ⟨_, q1, rfl⟩
    unfold pyNext
    refine wpAny_bind (wpAny_attempt (wpAny_callSpecial?_slot (name := Str.ofString "__next__") hT PySem.F.slot_enumerate_next
      (wpAny_call_entry PySem.F.slot_enumerate_next hT PySem.F.entry_enumerate_next ?_ (PySem.F.args_enumerate_next_1 _))))
    show wpAny _ _ (field (.ref e) 2 >>= fun _ => _) _ _ _
    refine wpAny_bind (wpAny_field q1 rfl (x := .ref it) rfl ?_)
    refine wpAny_bind (wpAny_nextOf_tuple_end (I.ok.hd hcalm) q2 p (by rw [List.getElem?_toArray]; exact List.getElem?_eq_none (by omega)) fun h' x he' hx' => ?_)
    obtain ⟨o, ho, hc⟩ := hx'
    refine wpAny_bind (wpAny_isInstance (T := "StopIteration") (b := true) ⟨o, ho, hc⟩ isSubtype_stop ?_)
    exact wpAny_pure ⟨rfl, I.turned (t' := s.toks) (fun b o hb q => he' b o hb q) f0 f1 f3 f4 f5⟩
  self := fun A i s Q E st z => let ⟨⟨_, q1⟩, _⟩ := st; wpAny_pyIter_enum q1 z
def iEnumT (K : PySem.W.Frag) (ta : TA) : TI := fun σ H R => ta σ H fun vs H1 => ∃ a xs, vs = [.ref a] ∧ SqT K H1 a xs ∧ R (IteT K a) H1
theorem pi_enumT {X : Cx} {e : Expr} {ta : TA} {p pos tpos : Pos} {elts : List Expr} {kk : Nat} {K : PySem.W.Frag} (hg : Gl X "enumerate") (hm : X.mg "enumerate" = none) (ha : PA X [e] ta) (hK : X.K = K := by rfl) (hs : starEach [e] X.env = [(false, eval e X.env)] := by rfl) :
    PI X (.Tuple elts kk tpos) (.Call (.Name "enumerate" p) [e] [] pos) (iEnumT K ta) := by
  subst hK
  refine ⟨fun pins s σ H R I z => ?_⟩
  refine Call_ (ld_blt I hg hm boot_enumerate (PyProof.Rows.callWith_type1 (thn (ha.run pos pins s σ H _ I z) fun us s1 ⟨vs, H1, I1, r1, q1⟩ => ?_) hs rfl))
  obtain ⟨a, xs, ex, hq, q⟩ := q1
  subst ex
  obtain ⟨u, rfl, r⟩ := vals1 r1
  cases r
  obtain ⟨its, rv, p', hz⟩ := I1.tuple hq
  refine call_enumT p' fun h' he hit hsz hk => wpAny_pyIter_enum he ?_
  have I2 : Inv X pins σ H1 { s1 with heap := h' } := I1.kept (t' := s1.toks) hk
  refine ⟨s1.heap.objs.size + 1, [s1.heap.objs.size + 1, s1.heap.objs.size], _, _, H1, rfl, I2, turn_enumT a (s1.heap.objs.size + 1) s1.heap.objs.size, ⟨⟨.none, he⟩, hit, Nat.succ_ne_self _⟩, fun b hb => ?_, q⟩
  have hle : s1.heap.objs.size ≤ b := by
    rcases (by simpa using hb : b = s1.heap.objs.size + 1 ∨ b = s1.heap.objs.size) with z | z
    · rw [z]; exact Nat.le_add_right _ _
    · rw [z]; exact Nat.le_refl _
  exact I1.fpOk hle (I1.hok.fresh hle)
section
variable {g : TG} {tb : TS} {nx : L2.St → Hp → Prop} {rt : VK} {bk ct : L2.St → Hp → Prop} {σ : L2.St} {H : Hp} {ta : TA} {te tl : TE} {K : PySem.W.Frag} {Q : VK} {tt : TT} {vs : List Nat}
theorem rForET (h : ta σ H fun vs H1 => ∃ a xs, vs = [.ref a] ∧ SqT K H1 a xs ∧ loopJ (IteT K a) g tb nx rt σ H1) : tFor (iEnumT K ta) g tb ⟨nx, rt, bk, ct⟩ σ H := h
theorem rForEL (h : ta σ H fun vs H1 => ∃ a xs, vs = [.ref a] ∧ SqL K H1 a xs ∧ loopJ (Ite K a) g tb nx rt σ H1) : tFor (iEnum K ta) g tb ⟨nx, rt, bk, ct⟩ σ H := h
theorem loopET_by {a : Addr} {xs : List V} (Pv : Nat → L2.St → Hp → Prop) (h0 : Pv 0 σ H) (hq : ∀ i σ H, Pv i σ H → SqT K H a xs)
    (hs : ∀ i x σ H, xs[i]? = some x → Pv i σ H → ∀ T H', Frs H T → Same H H' → H' T = some (.tup [.int (i : Nat), x]) → g (.ref T) σ H' fun σ2 H2 => tb ⟨Pv (i + 1), rt, nx, Pv (i + 1)⟩ σ2 H2) (hd : ∀ σ H, Pv xs.length σ H → nx σ H) : loopJ (IteT K a) g tb nx rt σ H := by
  refine ⟨fun i m σ H => m = xs.length - i ∧ i ≤ xs.length ∧ Pv i σ H, ⟨xs.length, rfl, Nat.zero_le _, h0⟩, ?_⟩
  rintro i m σ H ⟨rfl, hi, p⟩
  have q := hq i σ H p
  by_cases hlt : i < xs.length
  · refine .inr ⟨⟨xs, xs[i], q, List.getElem?_eq_getElem hlt⟩, Pv (i + 1), fun σ' H' p' => ⟨xs.length - (i + 1), by omega, rfl, hlt, p'⟩, fun v H' y => ?_⟩
    obtain ⟨T, x, rfl, hT, rfl, hx⟩ := y
    exact hs i x σ H (hx xs q) p T _ hT (fun b u e => by rw [upd_ne (ne_of_none e hT)]; exact e) upd_same
  · have e : i = xs.length := by omega
    subst e
    exact .inl ⟨⟨xs, q, Nat.le_refl _⟩, hd σ H p⟩
theorem loopEL_by {a : Addr} {xs : List V} (Pv : Nat → L2.St → Hp → Prop) (h0 : Pv 0 σ H) (hq : ∀ i σ H, Pv i σ H → SqL K H a xs)
    (hs : ∀ i x σ H, xs[i]? = some x → Pv i σ H → ∀ T H', Frs H T → Same H H' → H' T = some (.tup [.int (i : Nat), x]) → g (.ref T) σ H' fun σ2 H2 => tb ⟨Pv (i + 1), rt, nx, Pv (i + 1)⟩ σ2 H2) (hd : ∀ σ H, Pv xs.length σ H → nx σ H) : loopJ (Ite K a) g tb nx rt σ H := by
  refine ⟨fun i m σ H => m = xs.length - i ∧ i ≤ xs.length ∧ Pv i σ H, ⟨xs.length, rfl, Nat.zero_le _, h0⟩, ?_⟩
  rintro i m σ H ⟨rfl, hi, p⟩
  have q := hq i σ H p
  by_cases hlt : i < xs.length
  · refine .inr ⟨⟨xs, xs[i], q, List.getElem?_eq_getElem hlt⟩, Pv (i + 1), fun σ' H' p' => ⟨xs.length - (i + 1), by omega, rfl, hlt, p'⟩, fun v H' y => ?_⟩
    obtain ⟨T, x, rfl, hT, rfl, hx⟩ := y
    exact hs i x σ H (hx xs q) p T _ hT (fun b u e => by rw [upd_ne (ne_of_none e hT)]; exact e) upd_same
  · have e : i = xs.length := by omega
    subst e
    exact .inl ⟨⟨xs, q, Nat.le_refl _⟩, hd σ H p⟩
/-! ## reversed, in a comprehension -/
theorem rLcRevT {p : Addr} {xs : List V} {σ' : L2.St} {H' : Hp} (h1 : SqT K H' p xs) (h : compJ (RT.ItvT K p xs.length) g tt te vs σ' H' Q) : ∃ (a : Addr) (ys : List V), V.ref p = .ref a ∧ ((SqL K H' a ys ∧ compJ (Itv K a ys.length) g tt te vs σ' H' Q) ∨ (SqT K H' a ys ∧ compJ (RT.ItvT K a ys.length) g tt te vs σ' H' Q)) := ⟨p, xs, rfl, .inr ⟨h1, h⟩⟩
theorem rLcRev (h : te σ H fun v H1 => ∃ (a : Addr) (xs : List V), v = .ref a ∧ ((SqL K H1 a xs ∧ compJ (Itv K a xs.length) g tt tl vs σ H1 Q) ∨ (SqT K H1 a xs ∧ compJ (RT.ItvT K a xs.length) g tt tl vs σ H1 Q))) : tLc (RT.iRevA K te) g tt tl vs σ H Q := h
theorem compVT_pure {a : Addr} {xs : List V} {i : Nat} (ha : SqT K H a xs) (Pa : List V → Hp → Prop) (h0 : ∀ H2, Same H H2 → Pa [] H2)
    (hs : ∀ acc x H2 D, pIn H D xs.length acc H2 → xs[xs.length - 1 - acc.length]? = some x → Pa acc H2 → te ((σ.set i none).set i (some x)) H2 (fun y H3 => pD H D Pa acc.length y H3))
    (hd : ∀ acc H2 D, acc.length = xs.length → Pa acc H2 → Same H H2 → H2 D = some (.lst acc) → Frs H D → Q (.ref D) H2) : compJ (RT.ItvT K a xs.length) (gName i) tYes te [i] σ H Q := by
  intro D hD
  have hq : ∀ H', Same H H' → SqT K H' a xs := fun H' s => sqt_kp (KpS.same s) ha
  refine ⟨fun k m H' => m = xs.length - k ∧ k ≤ xs.length ∧ ∃ acc, acc.length = k ∧ Pa acc H' ∧ Same H H' ∧ H' D = some (.lst acc), ⟨xs.length, rfl, Nat.zero_le _, [], rfl, h0 _ (Same.upd_new (Same.refl H) hD), Same.upd_new (Same.refl H) hD, upd_same⟩, ?_⟩
  rintro k m H' ⟨rfl, hk, acc, hal, pa, s, hDl⟩
  by_cases hlt : k < xs.length
  · have hx : xs[xs.length - 1 - k]? = some xs[xs.length - 1 - k] := List.getElem?_eq_getElem (by omega)
    refine .inr ⟨⟨hlt, xs, _, hq H' s, hx⟩, fun H'' => ∃ acc, acc.length = k + 1 ∧ Pa acc H'' ∧ Same H H'' ∧ H'' D = some (.lst acc), fun H'' h => ⟨xs.length - (k + 1), by omega, rfl, hlt, h⟩, fun v H'' y => ?_⟩
    obtain ⟨rfl, hy⟩ := y
    have hv := hy xs (hq _ s)
    subst hal
    exact ⟨wipe1 σ i _, (hs acc v _ D ⟨hDl, hD, s, hlt⟩ hv pa)⟩
  · have e : k = xs.length := by omega
    subst e
    exact .inl ⟨Nat.le_refl _, hd acc H' D hal pa s hDl hD⟩
end
/-! ## a text, repeated -/
def repS (z : Str) (n : Nat) : Str := ⟨((List.replicate n (TL.tl z)).flatten).toArray⟩
theorem tl_repS (z : Str) (n : Nat) : TL.tl (repS z n) = (List.replicate n (TL.tl z)).flatten := rfl
theorem rep_fold (x : Array Nat) : ∀ (n : Nat) (a : Array Nat), (List.replicate n x).foldl (· ++ ·) a = a ++ ((List.replicate n x.toList).flatten).toArray
  | 0, a => by simp
  | n + 1, a => by
    rw [List.replicate_succ, List.foldl_cons, rep_fold x n, List.replicate_succ, List.flatten_cons]
    apply Array.toList_inj.mp
    simp
theorem repS_eq (z : Str) (n : Nat) : (⟨(List.replicate n z.cps).foldl (· ++ ·) #[]⟩ : Str) = repS z n := by
  rw [rep_fold]
  refine TL.ext_tl ?_
  show (#[] ++ _ : Array Nat).toList = _
  simp [repS]
theorem repS_len (z : Str) (n : Nat) : (repS z n).length = z.length * n := by
  rw [TL.len_tl, tl_repS, TL.len_tl]
  induction n with
  | zero => simp
  | succ n ih => rw [List.replicate_succ, List.flatten_cons, List.length_append, ih, Nat.mul_succ, Nat.add_comm]
def rRepS : R2 := fun x y H Q => ∃ z k, x = .str z ∧ y = .int k ∧ -1000000000 ≤ k ∧ k ≤ 1000000000 ∧ z.length * k.toNat ≤ 16777216 ∧ Q (.str (repS z k.toNat)) H
theorem op_repS {X : Cx} : OpR X (binaryOp .Mult) rRepS := by
  intro pins s σ H x y v u Q I r1 r2 h
  obtain ⟨z, k, rfl, rfl, h1, h2, h3, q⟩ := h
  obtain ⟨t, rfl⟩ := r1
  obtain ⟨t', rfl⟩ := r2
  refine P.mul_str ?_ ?_ ?_ ?_
  · rw [decide_eq_false (by omega), decide_eq_false (by omega)]
    rfl
  · intro hk _ hgt
    have hzl : z.length ≤ 16777216 := by
      have : z.length * 1 ≤ z.length * k.toNat := Nat.mul_le_mul_left _ (by omega)
      omega
    have h4 : (9223372036 : Int) ≤ (2 ^ 63 - 1) / k := Int.le_ediv_of_mul_le (by omega) (by omega)
    omega
  · intro _ _
    refine decide_eq_false ?_
    rw [sizeLine_eq]
    omega
  · by_cases c : k < 1
    · rw [if_pos c]
      refine ⟨by decide, .str (repS z k.toNat), H, I.tok _, ⟨s.toks, ?_⟩, q⟩
      rw [show k.toNat = 0 by omega]
      rfl
    · rw [if_neg c]
      by_cases c2 : (k == 1 || z.length == 0) = true
      · rw [if_pos c2]
        refine ⟨.str (repS z k.toNat), H, I, ⟨t, ?_⟩, q⟩
        congr 1
        refine TL.ext_tl ?_
        rw [tl_repS]
        rcases Bool.or_eq_true _ _ ▸ c2 with e | e
        · have : k = 1 := beq_iff_eq.mp e
          subst this
          show _ = (List.replicate 1 (TL.tl z)).flatten
          simp
        · have : z.length = 0 := beq_iff_eq.mp e
          rw [TL.len_tl] at this
          have e0 : TL.tl z = [] := List.length_eq_zero_iff.mp this
          rw [e0]
          induction k.toNat with
          | zero => rfl
          | succ n ih => rw [List.replicate_succ, List.flatten_cons, ← ih]; rfl
      · rw [if_neg c2, repS_eq]
        refine ⟨?_, .str (repS z k.toNat), H, I.tok _, ⟨_, rfl⟩, q⟩
        rw [repS_len, sizeLine_eq]
        omega
theorem rep_str {z : Str} {k : Int} {H : Hp} {Q : VK} (hk : -1000000000 ≤ k ∧ k ≤ 1000000000) (hl : z.length * k.toNat ≤ 16777216) (h : Q (.str (repS z k.toNat)) H) : rRepS (.str z) (.int k) H Q := ⟨z, k, rfl, rfl, hk.1, hk.2, hl, h⟩
/-! ## texts and tuples of the module -/
theorem pe_gs {X : Cx} {x z : Str} {p : Pos} (hg : Gl X x) (hm : ∃ t, X.mg x = some (.str z t)) (hd : (x == ("__debug__" : Str)) = false := by decide) : PE X (.Name x p) (tC (.str z)) :=
  let ⟨t, e⟩ := hm
  pe_glob hg e ⟨t, rfl⟩ hd
/-- a tuple of the module: where it lies, what it holds -/
structure TupG (K : PySem.W.Frag) (mg : Str → Option Value) (x : Str) (xs : List V) (a : Addr) : Prop where
  at_ : mg x = some (.ref a)
  is : ∀ H, SqT K H a xs
theorem pe_gt {X : Cx} {K : PySem.W.Frag} {x : Str} {xs : List V} {a : Addr} {p : Pos} (hg : Gl X x) (hm : TupG K X.mg x xs a) (hd : (x == ("__debug__" : Str)) = false := by decide) : PE X (.Name x p) (tC (.ref a)) := pe_glob hg hm.at_ rfl hd
theorem int_strT {z : Str} {n : Int} {R : Int → Prop} (e : PySem.intText? z = some n) (hl : z.length ≤ 640) (h : R n) : ∃ a m, [V.str z] = [V.str a] ∧ PySem.intText? a = some m ∧ a.length ≤ 640 ∧ R m := ⟨z, n, rfl, e, hl, h⟩
theorem nin_sign {K : PySem.W.Frag} {c : Nat} {a : Str} {H : Hp} {Q : VK} (h : Q (.bl (!decide (c ∈ TL.tl a))) H) : rInU K true (.str ⟨#[c]⟩) (.str a) H Q := .inl ⟨c, a, rfl, rfl, h⟩
theorem lt_strL {a b : Str} {H : Hp} {Q : VK} (h : Q (.bl (decide (TL.tl a < TL.tl b))) H) : rLtU (.str a) (.str b) H Q := .inr ⟨a, b, rfl, rfl, h⟩
theorem ge_strL {a b : Str} {H : Hp} {Q : VK} (h : Q (.bl (!decide (TL.tl a < TL.tl b))) H) : rGeU (.str a) (.str b) H Q := .inr ⟨a, b, rfl, rfl, h⟩
/-- a list unpacked -/
theorem gUl {K : PySem.W.Frag} {gs : TGs} {σ : L2.St} {H : Hp} {R : L2.St → Hp → Prop} {n : Nat} {a : Addr} {xs : List V} (ha : H a = some (.lst xs)) (hn : xs.length = n) (h : gs xs σ H R) : gUnl K n gs (.ref a) σ H R := ⟨a, xs, rfl, SqL.of ha, hn, h⟩
theorem pi_revAK {X : Cx} {K : PySem.W.Frag} {tg e : Expr} {te : TE} {p pos : Pos} (hg : Gl X "reversed") (hm : X.mg "reversed" = none) (he : PE X e te) (hK : X.K = K := by rfl) (hs : starEach [e] X.env = (false, eval e X.env) :: starEach [] X.env := by rfl) : PI X tg (.Call (.Name "reversed" p) [e] [] pos) (RT.iRevA K te) := by
  subst hK
  exact RT.pi_revA hg hm he hs
theorem pi_enumLK {X : Cx} {e : Expr} {ta : TA} {p pos tpos : Pos} {elts : List Expr} {kk : Nat} {K : PySem.W.Frag} (hg : Gl X "enumerate") (hm : X.mg "enumerate" = none) (ha : PA X [e] ta) (hK : X.K = K := by rfl) (hs : starEach [e] X.env = [(false, eval e X.env)] := by rfl) :
    PI X (.Tuple elts kk tpos) (.Call (.Name "enumerate" p) [e] [] pos) (iEnum K ta) := by
  subst hK
  exact pi_enum hg hm ha hs
theorem pg_unlK {X : Cx} {es : List Expr} {k n : Nat} {pos : Pos} {t : TGs} {K : PySem.W.Frag} (hc : X.calm = true) (h : PGs X es t) (hK : X.K = K := by rfl)
    (hn : (assignEach es X.env).length = n := by rfl) (hst : (assignEach es X.env).findIdx? (·.1) = none := by rfl) : PG X (.Tuple es k pos) (gUnl K n t) := by
  subst hK
  exact pg_unl hc h hn hst
theorem rAsgU {te : TE} {nx : L2.St → Hp → Prop} {rt : VK} {bk ct : L2.St → Hp → Prop} {σ : L2.St} {H : Hp} {K : PySem.W.Frag} {n : Nat} {gs : TGs} (h : te σ H fun x H1 => gUnl K n gs x σ H1 nx) : tAsg te (gUnl K n gs) ⟨nx, rt, bk, ct⟩ σ H := h
end Z
namespace Z
open PySem PySem.Spec L2
/-! ## trees as rows -/
structure Dt where
  k : Str
  s : Str
  st : Int
  ld : Int
  wd : Int
  lk : Int
  al : Int
  pp : Int
deriving DecidableEq
structure Rw where
  lv : Int
  d : Dt
deriving DecidableEq
/-- a row of trees: the first one, its children, the trees behind it -/
inductive Fo where
  | nil
  | cons (d : Dt) (k r : Fo)
def rowsF : Int → Fo → List Rw
  | _, .nil => []
  | L, .cons d k r => ⟨L, d⟩ :: (rowsF (L + 1) k ++ rowsF L r)
def Fo.cnt : Fo → Nat
  | .nil => 0
  | .cons _ k r => 1 + k.cnt + r.cnt
def Fo.len : Fo → Nat
  | .nil => 0
  | .cons _ _ r => r.len + 1
def Fo.dep : Fo → Nat
  | .nil => 0
  | .cons _ k r => max (1 + k.dep) r.dep
theorem rowsF_len : ∀ (L : Int) (f : Fo), (rowsF L f).length = f.cnt
  | _, .nil => rfl
  | L, .cons d k r => by
    show (rowsF (L + 1) k ++ rowsF L r).length + 1 = 1 + k.cnt + r.cnt
    rw [List.length_append, rowsF_len, rowsF_len]
    omega
theorem rowsF_low : ∀ (L : Int) (f : Fo), ∀ x ∈ rowsF L f, L ≤ x.lv
  | _, .nil, x, h => nomatch h
  | L, .cons d k r, x, h => by
    rcases List.mem_cons.mp h with rfl | h
    · exact Int.le_refl _
    · rcases List.mem_append.mp h with h | h
      · have := rowsF_low (L + 1) k x h; omega
      · exact rowsF_low L r x h
/-- levels that go on from p: none below L, none by more than one higher than the one before -/
def Stp (L : Int) : Int → List Rw → Prop
  | _, [] => True
  | p, x :: xs => L ≤ x.lv ∧ x.lv ≤ p + 1 ∧ Stp L x.lv xs
def lastL (p : Int) : List Rw → Int
  | [] => p
  | x :: xs => lastL x.lv xs
theorem lastL_app : ∀ (p : Int) (xs ys : List Rw), lastL p (xs ++ ys) = lastL (lastL p xs) ys
  | _, [], _ => rfl
  | _, x :: xs, ys => lastL_app x.lv xs ys
theorem stp_app {L : Int} : ∀ {xs ys : List Rw} {p : Int}, Stp L p (xs ++ ys) ↔ Stp L p xs ∧ Stp L (lastL p xs) ys
  | [], ys, p => ⟨fun h => ⟨trivial, h⟩, fun h => h.2⟩
  | x :: xs, ys, p => by
    show (L ≤ x.lv ∧ x.lv ≤ p + 1 ∧ Stp L x.lv (xs ++ ys)) ↔ (L ≤ x.lv ∧ x.lv ≤ p + 1 ∧ Stp L x.lv xs) ∧ Stp L (lastL x.lv xs) ys
    rw [stp_app]
    exact ⟨fun ⟨a, b, c, d⟩ => ⟨⟨a, b, c⟩, d⟩, fun ⟨⟨a, b, c⟩, d⟩ => ⟨a, b, c, d⟩⟩
theorem Stp.more {L : Int} : ∀ {xs : List Rw} {p q : Int}, p ≤ q → Stp L p xs → Stp L q xs
  | [], _, _, _, _ => trivial
  | x :: xs, p, q, h, k => ⟨k.1, by have := k.2.1; omega, k.2.2⟩
theorem Stp.up {L M : Int} : ∀ {xs : List Rw} {p : Int}, (∀ x ∈ xs, M ≤ x.lv) → Stp L p xs → Stp M p xs
  | [], _, _, _ => trivial
  | x :: xs, _, h, k => ⟨h x (List.mem_cons_self ..), k.2.1, Stp.up (fun y hy => h y (List.mem_cons_of_mem _ hy)) k.2.2⟩
theorem Stp.low {L : Int} : ∀ {xs : List Rw} {p : Int}, Stp L p xs → ∀ x ∈ xs, L ≤ x.lv
  | [], _, _, x, h => nomatch h
  | y :: xs, _, k, x, h => by
    rcases List.mem_cons.mp h with rfl | h
    · exact k.1
    · exact Stp.low k.2.2 x h
theorem last_ge {L : Int} : ∀ {xs : List Rw} {p : Int}, L ≤ p → (∀ x ∈ xs, L ≤ x.lv) → L ≤ lastL p xs
  | [], _, h, _ => h
  | x :: xs, _, _, h => last_ge (xs := xs) (p := x.lv) (h x (List.mem_cons_self ..)) fun y hy => h y (List.mem_cons_of_mem _ hy)
theorem tw_split {α : Type} (p : α → Bool) : ∀ l : List α, ∃ A B, l = A ++ B ∧ (∀ x ∈ A, p x = true) ∧ ∀ y, B.head? = some y → p y = false
  | [] => ⟨[], [], rfl, (fun _ h => nomatch h), (fun _ h => nomatch h)⟩
  | x :: l => by
    cases c : p x with
    | false => exact ⟨[], x :: l, rfl, fun _ h => (nomatch h), fun y h => by cases h; exact c⟩
    | true =>
      obtain ⟨A, B, e, h1, h2⟩ := tw_split p l
      refine ⟨x :: A, B, by rw [e]; rfl, fun y hy => ?_, h2⟩
      rcases List.mem_cons.mp hy with rfl | hy
      · exact c
      · exact h1 y hy
/-- such levels are those of a row of trees -/
theorem stp_rows : ∀ (n : Nat) {L : Int} {xs : List Rw}, xs.length ≤ n → Stp L (L - 1) xs → ∃ f, xs = rowsF L f
  | _, _, [], _, _ => ⟨.nil, rfl⟩
  | 0, _, _ :: _, h, _ => absurd h (by simp)
  | n + 1, L, x :: xs, hl, h => by
    have e : x.lv = L := by have := h.1; have := h.2.1; omega
    have hs := h.2.2
    obtain ⟨A, B, e0, h1, h2⟩ := tw_split (fun y : Rw => decide (L < y.lv)) xs
    rw [e0] at hs
    obtain ⟨hA, hB⟩ := stp_app.mp hs
    have hAl : ∀ y ∈ A, L + 1 ≤ y.lv := fun y hy => by
      have := of_decide_eq_true (h1 y hy)
      omega
    have l0 : A.length + B.length = xs.length := by rw [e0, List.length_append]
    have hl' : xs.length + 1 ≤ n + 1 := hl
    obtain ⟨k, hk⟩ := stp_rows n (L := L + 1) (xs := A) (by omega) (by
      rw [show L + 1 - 1 = L by omega]
      rw [e] at hA
      exact Stp.up hAl hA)
    have hB' : Stp L (L - 1) B := by
      cases B with
      | nil => exact trivial
      | cons y ys =>
        have hy := of_decide_eq_false (h2 y rfl)
        exact ⟨hB.1, by have := hB.1; omega, hB.2.2⟩
    obtain ⟨r, hr⟩ := stp_rows n (L := L) (xs := B) (by omega) hB'
    refine ⟨.cons x.d k r, ?_⟩
    show x :: xs = ⟨L, x.d⟩ :: (rowsF (L + 1) k ++ rowsF L r)
    rw [← hk, ← hr, ← e0, ← e]
theorem rows_stp : ∀ {L : Int} {f : Fo}, Stp L (L - 1) (rowsF L f)
  | _, .nil => trivial
  | L, .cons d k r => by
    refine ⟨Int.le_refl _, by show L ≤ L - 1 + 1; omega, ?_⟩
    show Stp L L (rowsF (L + 1) k ++ rowsF L r)
    have h1 := rows_stp (L := L + 1) (f := k)
    rw [show L + 1 - 1 = L by omega] at h1
    refine stp_app.mpr ⟨h1.up fun x hx => by have := rowsF_low _ _ x hx; omega, (rows_stp (L := L) (f := r)).more ?_⟩
    have := last_ge (L := L) (p := L) (Int.le_refl _) (xs := rowsF (L + 1) k) fun x hx => by have := rowsF_low _ _ x hx; omega
    omega
/-- a whole tree -/
def Tre (rows : List Rw) : Prop := ∃ d k, rows = ⟨0, d⟩ :: rowsF 1 k
theorem tre_of {x : Rw} {xs : List Rw} (h0 : x.lv = 0) (h : Stp 1 0 xs) : Tre (x :: xs) := by
  obtain ⟨f, hf⟩ := stp_rows xs.length (L := 1) (Nat.le_refl _) h
  exact ⟨x.d, f, by rw [← hf, ← h0]⟩
theorem Tre.stp {rows : List Rw} (h : Tre rows) : ∃ x xs, rows = x :: xs ∧ x.lv = 0 ∧ Stp 1 0 xs := by
  obtain ⟨d, k, rfl⟩ := h
  exact ⟨_, _, rfl, rfl, rows_stp⟩
theorem Tre.pos {rows : List Rw} (h : Tre rows) : 0 < rows.length := by
  obtain ⟨d, k, rfl⟩ := h
  exact Nat.succ_pos _
/-! ### the roots of what lies behind a row -/
abbrev Rt := Int × Dt × Fo
def toFo : List Rt → Fo
  | [] => .nil
  | e :: t => .cons e.2.1 e.2.2 (toFo t)
def rootsF (L : Int) : Fo → List Rt
  | .nil => []
  | .cons d k r => (L, d, k) :: rootsF L r
theorem toFo_roots (L : Int) : ∀ f : Fo, toFo (rootsF L f) = f
  | .nil => rfl
  | .cons d k r => by show Fo.cons d k (toFo (rootsF L r)) = _; rw [toFo_roots]
def stk : List Rw → List Rt
  | [] => []
  | x :: xs => (x.lv, x.d, toFo ((stk xs).takeWhile fun e => decide (e.1 = x.lv + 1))) :: (stk xs).dropWhile fun e => decide (e.1 = x.lv + 1)
abbrev HdLe (L : Int) (s : List Rt) : Prop := ∀ e, s.head? = some e → e.1 ≤ L
theorem roots_hd {L : Int} : ∀ {f : Fo} {s : List Rt}, HdLe L s → HdLe L (rootsF L f ++ s)
  | .nil, _, h => h
  | .cons d k r, _, _ => fun e he => by cases he; exact Int.le_refl _
theorem take_roots {L : Int} : ∀ {f : Fo} {s : List Rt}, (∀ e, s.head? = some e → e.1 ≠ L) → ((rootsF L f ++ s).takeWhile fun e => decide (e.1 = L)) = rootsF L f ∧ ((rootsF L f ++ s).dropWhile fun e => decide (e.1 = L)) = s
  | .nil, s, h => by
    show (s.takeWhile fun e => decide (e.1 = L)) = [] ∧ (s.dropWhile fun e => decide (e.1 = L)) = s
    cases s with
    | nil => exact ⟨rfl, rfl⟩
    | cons e t =>
      have := h e rfl
      rw [List.takeWhile_cons_of_neg (by simpa using this), List.dropWhile_cons_of_neg (by simpa using this)]
      exact ⟨rfl, rfl⟩
  | .cons d k r, s, h => by
    obtain ⟨h1, h2⟩ := take_roots (f := r) h
    show (((L, d, k) :: (rootsF L r ++ s)).takeWhile fun e => decide (e.1 = L)) = (L, d, k) :: rootsF L r ∧ (((L, d, k) :: (rootsF L r ++ s)).dropWhile fun e => decide (e.1 = L)) = s
    rw [List.takeWhile_cons_of_pos (by simp), List.dropWhile_cons_of_pos (by simp), h1, h2]
    exact ⟨rfl, rfl⟩
theorem stk_rows : ∀ {f : Fo} {L : Int} {tail : List Rw}, HdLe L (stk tail) → stk (rowsF L f ++ tail) = rootsF L f ++ stk tail
  | .nil, _, _, _ => rfl
  | .cons d k r, L, tail, h => by
    have h1 := stk_rows (f := r) h
    have hh : HdLe L (stk (rowsF L r ++ tail)) := by rw [h1]; exact roots_hd h
    have h2 := stk_rows (f := k) (L := L + 1) (tail := rowsF L r ++ tail) (fun e he => by have := hh e he; omega)
    show stk (⟨L, d⟩ :: ((rowsF (L + 1) k ++ rowsF L r) ++ tail)) = _
    rw [List.append_assoc]
    show (L, d, toFo ((stk (rowsF (L + 1) k ++ (rowsF L r ++ tail))).takeWhile fun e => decide (e.1 = L + 1))) :: (stk (rowsF (L + 1) k ++ (rowsF L r ++ tail))).dropWhile (fun e => decide (e.1 = L + 1)) = _
    obtain ⟨t1, t2⟩ := take_roots (L := L + 1) (f := k) (s := stk (rowsF L r ++ tail)) fun e he => by have := hh e he; omega
    rw [h2, t1, t2, toFo_roots, h1]
    rfl
theorem stk_tree (d : Dt) (k : Fo) : stk (⟨0, d⟩ :: rowsF 1 k) = [(0, d, k)] := by
  have h := stk_rows (f := .cons d k .nil) (L := 0) (tail := []) (fun e he => nomatch he)
  simpa [rowsF, rootsF, stk] using h
/-! ### a part of the rows -/
def endN (rows : List Rw) (a : Nat) : Nat := a + 1 + ((rows.drop (a + 1)).takeWhile fun y => decide (((rows[a]?).map (·.lv)).getD 0 < y.lv)).length
/-- what begins at a row -/
theorem part_at : ∀ {f : Fo} {L : Int} {tail : List Rw} {a : Nat}, (∀ y, tail.head? = some y → y.lv ≤ L) → HdLe L (stk tail) → a < (rowsF L f).length →
    ∃ (l : Int) (d : Dt) (k : Fo) (t : List Rw), L ≤ l ∧ (rowsF L f ++ tail).drop a = ⟨l, d⟩ :: (rowsF (l + 1) k ++ t) ∧ (∀ y, t.head? = some y → y.lv ≤ l) ∧ HdLe l (stk t)
  | .nil, _, _, _, _, _, h => absurd h (Nat.not_lt_zero _)
  | .cons d k r, L, tail, 0, h, hh, _ => by
    refine ⟨L, d, k, rowsF L r ++ tail, Int.le_refl _, ?_, ?_, ?_⟩
    · show ⟨L, d⟩ :: ((rowsF (L + 1) k ++ rowsF L r) ++ tail) = _
      rw [List.append_assoc]
    · cases r with
      | nil => exact h
      | cons d' k' r' => intro y hy; cases hy; exact Int.le_refl _
    · rw [stk_rows hh]
      exact roots_hd hh
  | .cons d k r, L, tail, a + 1, h, hh, hl => by
    have e : (rowsF L (.cons d k r) ++ tail).drop (a + 1) = (rowsF (L + 1) k ++ (rowsF L r ++ tail)).drop a := by
      show ((rowsF (L + 1) k ++ rowsF L r) ++ tail).drop a = _
      rw [List.append_assoc]
    rw [e]
    have hh2 : HdLe L (stk (rowsF L r ++ tail)) := by rw [stk_rows hh]; exact roots_hd hh
    have h2 : ∀ y, (rowsF L r ++ tail).head? = some y → y.lv ≤ L := by
      cases r with
      | nil => exact h
      | cons d' k' r' => intro y hy; cases hy; exact Int.le_refl _
    by_cases c : a < (rowsF (L + 1) k).length
    · obtain ⟨l, d', k', t, q1, q2, q3, q4⟩ := part_at (f := k) (L := L + 1) (tail := rowsF L r ++ tail) (a := a) (fun y hy => by have := h2 y hy; omega) (fun e he => by have := hh2 e he; omega) c
      exact ⟨l, d', k', t, by omega, q2, q3, q4⟩
    · have hl' : a + 1 < (rowsF (L + 1) k ++ rowsF L r).length + 1 := hl
      rw [List.length_append] at hl'
      rw [List.drop_append, List.drop_eq_nil_of_le (by omega), List.nil_append]
      exact part_at (f := r) (L := L) (tail := tail) (a := a - (rowsF (L + 1) k).length) h hh (by omega)
theorem takeWhile_all {α : Type} {p : α → Bool} : ∀ {l t : List α}, (∀ x ∈ l, p x = true) → (∀ y, t.head? = some y → p y = false) → (l ++ t).takeWhile p = l
  | [], t, _, h => by
    cases t with
    | nil => rfl
    | cons y t => show (y :: t).takeWhile p = []; rw [List.takeWhile_cons_of_neg (by rw [h y rfl]; simp)]
  | x :: l, t, h1, h2 => by
    show (x :: (l ++ t)).takeWhile p = x :: l
    rw [List.takeWhile_cons_of_pos (h1 x (List.mem_cons_self ..)), takeWhile_all (fun y hy => h1 y (List.mem_cons_of_mem _ hy)) h2]
/-- the part of a tree that begins at a row -/
theorem Tre.part {rows : List Rw} (h : Tre rows) {a : Nat} (ha : a < rows.length) : ∃ (l : Int) (d : Dt) (k : Fo) (t : List Rw), 0 ≤ l ∧ rows[a]? = some ⟨l, d⟩ ∧ rows.drop a = ⟨l, d⟩ :: (rowsF (l + 1) k ++ t) ∧ (∀ y, t.head? = some y → y.lv ≤ l) ∧
    stk (rows.drop a) = (l, d, k) :: stk t ∧ endN rows a = a + 1 + k.cnt ∧ (rows.take (endN rows a)).drop a = ⟨l, d⟩ :: rowsF (l + 1) k := by
  obtain ⟨d0, k0, e⟩ := h
  have e2 : rows = rowsF 0 (.cons d0 k0 .nil) ++ [] := by rw [e]; simp [rowsF]
  obtain ⟨l, d, k, t, q1, q2, q3, q4⟩ := part_at (f := .cons d0 k0 .nil) (L := 0) (tail := []) (a := a) (fun y hy => nomatch hy) (fun e he => nomatch he) (by rw [List.append_nil] at e2; rw [← e2]; exact ha)
  rw [← e2] at q2
  have hat : rows[a]? = some ⟨l, d⟩ := by
    have := congrArg List.head? q2
    rw [List.head?_drop] at this
    exact this
  have hdr : rows.drop (a + 1) = rowsF (l + 1) k ++ t := by
    have := congrArg List.tail q2
    rw [List.tail_drop] at this
    exact this
  have hend : endN rows a = a + 1 + k.cnt := by
    unfold endN
    rw [hat, hdr, takeWhile_all (l := rowsF (l + 1) k) (t := t)]
    · rw [rowsF_len]
    · intro x hx
      have := rowsF_low _ _ x hx
      show decide (l < x.lv) = true
      exact decide_eq_true (by omega)
    · intro y hy
      have := q3 y hy
      show decide (l < y.lv) = false
      exact decide_eq_false (by omega)
  refine ⟨l, d, k, t, q1, hat, q2, q3, ?_, hend, ?_⟩
  · have := stk_rows (f := .cons d k .nil) (L := l) (tail := t) q4
    rw [q2]
    simpa [rowsF, rootsF] using this
  · rw [List.drop_take, q2, hend, show a + 1 + k.cnt - a = (⟨l, d⟩ :: rowsF (l + 1) k : List Rw).length by rw [List.length_cons, rowsF_len]; omega]
    show (((⟨l, d⟩ :: rowsF (l + 1) k : List Rw)) ++ t).take _ = _
    rw [List.take_left' rfl]
end Z
namespace Z
open PySem PySem.Spec L2
/-! ## signs of trees' texts -/
def isLet (c : Nat) : Bool := decide (97 ≤ c) && decide (c ≤ 122)
def isDgt (c : Nat) : Bool := decide (48 ≤ c) && decide (c ≤ 57)
def isNmc (c : Nat) : Bool := isLet c || isDgt c || c == 95 || c == 126
def isEsc (c : Nat) : Bool := c == 110 || c == 116 || c == 92 || c == 34
def isLit (c : Nat) : Bool := decide (32 ≤ c) && decide (c ≤ 126) && !(c == 34) && !(c == 37) && !(c == 92) && !(c == 96)
theorem memL {L : List Nat} {f : Nat → Bool} (h1 : ∀ c, c < 127 → decide (c ∈ L) = f c) (h2 : ∀ x ∈ L, x < 127) (h3 : ∀ c, 127 ≤ c → f c = false) (c : Nat) : decide (c ∈ L) = f c := by
  rcases Nat.lt_or_ge c 127 with h | h
  · exact h1 c h
  · rw [h3 c h]
    exact decide_eq_false fun hm => by have := h2 c hm; omega
theorem all127 {p : Nat → Bool} (h : ((List.range 127).all p) = true) (c : Nat) (hc : c < 127) : p c = true := List.all_eq_true.mp h c (List.mem_range.mpr hc)
theorem eq127 {f g : Nat → Bool} (h : ((List.range 127).all fun c => f c == g c) = true) (c : Nat) (hc : c < 127) : f c = g c := beq_iff_eq.mp (all127 (p := fun c => f c == g c) h c hc)
theorem let_hi (c : Nat) (h : 127 ≤ c) : isLet c = false := by
  unfold isLet
  rw [decide_eq_false (show ¬ c ≤ 122 by omega), Bool.and_false]
theorem dgt_hi (c : Nat) (h : 127 ≤ c) : isDgt c = false := by
  unfold isDgt
  rw [decide_eq_false (show ¬ c ≤ 57 by omega), Bool.and_false]
theorem nmc_hi (c : Nat) (h : 127 ≤ c) : isNmc c = false := by
  unfold isNmc
  rw [let_hi c h, dgt_hi c h, beq_false_of_ne (show c ≠ 95 by omega), beq_false_of_ne (show c ≠ 126 by omega)]
  rfl
theorem esc_hi (c : Nat) (h : 127 ≤ c) : isEsc c = false := by
  unfold isEsc
  rw [beq_false_of_ne (show c ≠ 110 by omega), beq_false_of_ne (show c ≠ 116 by omega), beq_false_of_ne (show c ≠ 92 by omega), beq_false_of_ne (show c ≠ 34 by omega)]
  rfl
theorem lit_hi (c : Nat) (h : 127 ≤ c) : isLit c = false := by
  unfold isLit
  rw [decide_eq_false (show ¬ c ≤ 126 by omega), Bool.and_false]
  rfl
theorem mem_let (c : Nat) : decide (c ∈ TL.tl ("abcdefghijklmnopqrstuvwxyz" : Str)) = isLet c :=
  memL (eq127 (f := fun c => decide (c ∈ TL.tl ("abcdefghijklmnopqrstuvwxyz" : Str))) (by decide +kernel)) (by decide +kernel) let_hi c
theorem mem_dgt (c : Nat) : decide (c ∈ TL.tl ("0123456789" : Str)) = isDgt c :=
  memL (eq127 (f := fun c => decide (c ∈ TL.tl ("0123456789" : Str))) (by decide +kernel)) (by decide +kernel) dgt_hi c
theorem mem_nmc (c : Nat) : decide (c ∈ TL.tl ("abcdefghijklmnopqrstuvwxyz0123456789_~" : Str)) = isNmc c :=
  memL (eq127 (f := fun c => decide (c ∈ TL.tl ("abcdefghijklmnopqrstuvwxyz0123456789_~" : Str))) (by decide +kernel)) (by decide +kernel) nmc_hi c
theorem mem_esc (c : Nat) : decide (c ∈ TL.tl ("nt\\\"" : Str)) = isEsc c :=
  memL (eq127 (f := fun c => decide (c ∈ TL.tl ("nt\\\"" : Str))) (by decide +kernel)) (by decide +kernel) esc_hi c
theorem mem_lit (c : Nat) : decide (c ∈ TL.tl (" !#$&'()*+,-./0123456789:;<=>?@ABCDEFGHIJKLMNOPQRSTUVWXYZ[]^_abcdefghijklmnopqrstuvwxyz{|}~" : Str)) = isLit c :=
  memL (eq127 (f := fun c => decide (c ∈ TL.tl (" !#$&'()*+,-./0123456789:;<=>?@ABCDEFGHIJKLMNOPQRSTUVWXYZ[]^_abcdefghijklmnopqrstuvwxyz{|}~" : Str))) (by decide +kernel)) (by decide +kernel) lit_hi c
/-! ### words -/
/-- 0 nothing yet, 1 a name, 2 a quote, 3 a literal, 4 a backslash, 5 a whole literal, 9 a fault -/
def wst (m c : Nat) : Nat :=
  if m = 0 then (if isLet c = true then 1 else if c = 34 then 2 else 9)
  else if m = 1 then (if isNmc c = true then 1 else 9)
  else if m = 2 then (if c = 92 then 4 else if isLit c = true then 3 else 9)
  else if m = 3 then (if c = 92 then 4 else if c = 34 then 5 else if isLit c = true then 3 else 9)
  else if m = 4 then (if isEsc c = true then 3 else 9)
  else 9
def wrun (m : Nat) (w : List Nat) : Nat := w.foldl wst m
theorem wrun_nil (m : Nat) : wrun m [] = m := rfl
theorem wrun_cons (m c : Nat) (t : List Nat) : wrun m (c :: t) = wrun (wst m c) t := rfl
theorem wrun_app (m : Nat) (a b : List Nat) : wrun m (a ++ b) = wrun (wrun m a) b := List.foldl_append
theorem wst_9 (c : Nat) : wst 9 c = 9 := rfl
theorem wst_5 (c : Nat) : wst 5 c = 9 := rfl
theorem wrun_9 : ∀ w : List Nat, wrun 9 w = 9
  | [] => rfl
  | c :: t => by rw [wrun_cons, wst_9, wrun_9 t]
theorem wst_0l {c : Nat} (h : isLet c = true) : wst 0 c = 1 := if_pos h
theorem wst_1n {c : Nat} (h : isNmc c = true) : wst 1 c = 1 := if_pos h
theorem wst_3l {c : Nat} (h : isLit c = true) : wst 3 c = 3 := by
  have h1 : c ≠ 92 := fun e => by rw [e] at h; revert h; decide
  have h2 : c ≠ 34 := fun e => by rw [e] at h; revert h; decide
  show (if c = 92 then 4 else if c = 34 then 5 else if isLit c = true then 3 else 9) = 3
  rw [if_neg h1, if_neg h2, if_pos h]
theorem wst_2l {c : Nat} (h : isLit c = true) : wst 2 c = 3 := by
  have h1 : c ≠ 92 := fun e => by rw [e] at h; revert h; decide
  show (if c = 92 then 4 else if isLit c = true then 3 else 9) = 3
  rw [if_neg h1, if_pos h]
theorem wrun_nmc : ∀ {w : List Nat}, (∀ c ∈ w, isNmc c = true) → wrun 1 w = 1
  | [], _ => rfl
  | c :: t, h => by rw [wrun_cons, wst_1n (h c (List.mem_cons_self ..)), wrun_nmc fun b hb => h b (List.mem_cons_of_mem _ hb)]
/-- a word -/
def Wd (x : Str) : Prop := wrun 0 (TL.tl x) = 1 ∨ wrun 0 (TL.tl x) = 5
/-- signs that a literal may hold -/
def isQ (c : Nat) : Bool := isLit c || c == 9 || c == 10 || c == 34 || c == 92
theorem dec_sign {c a : Nat} {y : Str} (h : TL.tl y = [a]) : decide ((⟨#[c]⟩ : Str) = y) = decide (c = a) := by
  refine decide_eq_decide.mpr ⟨fun e => ?_, fun e => TL.ext_tl ?_⟩
  · have := congrArg TL.tl e
    rw [h] at this
    have h2 : [c] = [a] := this
    injection h2
  · rw [h, e]
end Z
namespace Z
open PySem PySem.Spec L2
/-! ## levels, and rows that are changed -/
def stI : Int → List Int → Prop
  | _, [] => True
  | p, x :: xs => 1 ≤ x ∧ x ≤ p + 1 ∧ stI x xs
def laI : Int → List Int → Int
  | p, [] => p
  | _, x :: xs => laI x xs
theorem laI_snoc : ∀ (p : Int) (t : List Int) (x : Int), laI p (t ++ [x]) = x
  | _, [], _ => rfl
  | _, y :: t, x => laI_snoc y t x
theorem stI_snoc {x : Int} : ∀ {t : List Int} {p : Int}, stI p t → 1 ≤ x → x ≤ laI p t + 1 → stI p (t ++ [x])
  | [], _, _, h1, h2 => ⟨h1, h2, trivial⟩
  | y :: t, _, h, h1, h2 => ⟨h.1, h.2.1, stI_snoc h.2.2 h1 h2⟩
theorem stI_last : ∀ {t : List Int} {p : Int}, 0 ≤ p → stI p t → 0 ≤ laI p t
  | [], _, h, _ => h
  | y :: t, _, _, h => stI_last (t := t) (by have := h.1; omega) h.2.2
theorem laI_at : ∀ (t : List Int) (p : Int), (p :: t)[t.length]? = some (laI p t)
  | [], _ => rfl
  | y :: t, p => by
    show (y :: t)[t.length]? = _
    exact laI_at t y
theorem stI_ones : ∀ (n : Nat) (p : Int), 0 ≤ p → stI p (List.replicate n 1)
  | 0, _, _ => trivial
  | n + 1, p, h => ⟨Int.le_refl _, (by omega), stI_ones n 1 (by omega)⟩
/-- levels of a whole tree -/
def LvOk (ls : List Int) : Prop := ∃ t, ls = 0 :: t ∧ stI 0 t
theorem LvOk.snoc {ls : List Int} {x : Int} (h : LvOk ls) (h1 : 1 ≤ x) (h2 : ∃ y, ls[ls.length - 1]? = some y ∧ x ≤ y + 1) : LvOk (ls ++ [x]) := by
  obtain ⟨t, rfl, ht⟩ := h
  obtain ⟨y, e, h2⟩ := h2
  have e2 := laI_at t 0
  rw [show (0 :: t).length - 1 = t.length by simp] at e
  rw [e] at e2
  cases e2
  exact ⟨t ++ [x], rfl, stI_snoc ht h1 h2⟩
theorem LvOk.last {ls : List Int} (h : LvOk ls) : ∃ y, ls[ls.length - 1]? = some y ∧ 0 ≤ y := by
  obtain ⟨t, rfl, ht⟩ := h
  exact ⟨_, by rw [show (0 :: t).length - 1 = t.length by simp]; exact laI_at t 0, stI_last (Int.le_refl _) ht⟩
theorem LvOk.pos {ls : List Int} (h : LvOk ls) : 0 < ls.length := by
  obtain ⟨t, rfl, _⟩ := h
  exact Nat.succ_pos _
theorem stp_of : ∀ {ls : List Int} {rows : List Rw} {p : Int}, rows.map (·.lv) = ls → stI p ls → Stp 1 p rows
  | [], rows, p, e, _ => by
    cases rows with
    | nil => trivial
    | cons x xs => cases e
  | l :: ls, rows, p, e, h => by
    cases rows with
    | nil => cases e
    | cons x xs =>
      injection e with e1 e2
      subst e1
      exact ⟨h.1, h.2.1, stp_of e2 h.2.2⟩
theorem LvOk.tre {ls : List Int} {rows : List Rw} (h : LvOk ls) (e : rows.map (·.lv) = ls) : Tre rows := by
  obtain ⟨t, rfl, ht⟩ := h
  cases rows with
  | nil => cases e
  | cons x xs =>
    injection e with e1 e2
    exact tre_of e1 (stp_of e2 ht)
/-! ### what a row may hold -/
def Nam (s : Str) : Prop := (Wd s ∧ s.length ≤ 100) ∧ Ok s
def lim (a n : Int) : Prop := a ≤ n ∧ n ≤ 999999999
structure DtOk (d : Dt) : Prop where
  k : Nam d.k
  s : Nam d.s
  st : lim (-1) d.st
  ld : lim 0 d.ld
  wd : lim 0 d.wd
  lk : lim 0 d.lk
  al : lim (-1) d.al
  pp : lim 0 d.pp
structure Grow (n : Nat) (rows : List Rw) : Prop where
  tre : Tre rows
  len : rows.length ≤ n
  ok : ∀ x ∈ rows, DtOk x.d
/-! ### a part taken out, another put in -/
theorem Stp.hd {L : Int} : ∀ {t : List Rw} {p q : Int}, Stp L p t → (∀ y, t.head? = some y → y.lv ≤ q + 1) → Stp L q t
  | [], _, _, _, _ => trivial
  | y :: t, _, _, h, k => ⟨h.1, k y rfl, h.2.2⟩
/-- the rows, a part in them -/
structure Prt (rows : List Rw) (a : Nat) (A t : List Rw) (l : Int) (d : Dt) (k : Fo) : Prop where
  e : rows = A ++ ⟨l, d⟩ :: (rowsF (l + 1) k ++ t)
  la : A.length = a
  ht : ∀ y, t.head? = some y → y.lv ≤ l
  l0 : 0 ≤ l
theorem Prt.at {rows A t : List Rw} {a : Nat} {l : Int} {d : Dt} {k : Fo} (h : Prt rows a A t l d k) : rows[a]? = some ⟨l, d⟩ := by
  rw [h.e, ← h.la, List.getElem?_append_right (Nat.le_refl _), Nat.sub_self]
  rfl
theorem Prt.drop {rows A t : List Rw} {a : Nat} {l : Int} {d : Dt} {k : Fo} (h : Prt rows a A t l d k) : rows.drop a = ⟨l, d⟩ :: (rowsF (l + 1) k ++ t) := by
  rw [h.e, ← h.la, List.drop_left' rfl]
theorem Prt.take {rows A t : List Rw} {a : Nat} {l : Int} {d : Dt} {k : Fo} (h : Prt rows a A t l d k) : rows.take a = A := by
  rw [h.e, ← h.la, List.take_left' rfl]
theorem Prt.drop1 {rows A t : List Rw} {a : Nat} {l : Int} {d : Dt} {k : Fo} (h : Prt rows a A t l d k) : rows.drop (a + 1) = rowsF (l + 1) k ++ t := by
  have := congrArg List.tail h.drop
  rw [List.tail_drop] at this
  exact this
theorem Prt.take1 {rows A t : List Rw} {a : Nat} {l : Int} {d : Dt} {k : Fo} (h : Prt rows a A t l d k) : rows.take (a + 1) = A ++ [⟨l, d⟩] := by
  rw [h.e, List.take_append, List.take_of_length_le (by have := h.la; omega), show a + 1 - A.length = 1 by have := h.la; omega]
  rfl
theorem Prt.endN {rows A t : List Rw} {a : Nat} {l : Int} {d : Dt} {k : Fo} (h : Prt rows a A t l d k) : endN rows a = a + 1 + k.cnt := by
  unfold Z.endN
  rw [h.at, h.drop1, takeWhile_all (l := rowsF (l + 1) k) (t := t)]
  · rw [rowsF_len]
  · intro x hx
    have := rowsF_low _ _ x hx
    exact decide_eq_true (by show l < x.lv; omega)
  · intro y hy
    have := h.ht y hy
    exact decide_eq_false (by show ¬ l < y.lv; omega)
theorem Prt.dropE {rows A t : List Rw} {a : Nat} {l : Int} {d : Dt} {k : Fo} (h : Prt rows a A t l d k) : rows.drop (a + 1 + k.cnt) = t := by
  rw [← List.drop_drop, h.drop1, List.drop_left' (rowsF_len _ _)]
theorem Prt.takeE {rows A t : List Rw} {a : Nat} {l : Int} {d : Dt} {k : Fo} (h : Prt rows a A t l d k) : rows.take (a + 1 + k.cnt) = A ++ ⟨l, d⟩ :: rowsF (l + 1) k := by
  rw [h.e, show A ++ (⟨l, d⟩ : Rw) :: (rowsF (l + 1) k ++ t) = (A ++ ⟨l, d⟩ :: rowsF (l + 1) k) ++ t by simp, List.take_left']
  rw [List.length_append, List.length_cons, rowsF_len]
  have := h.la
  omega
theorem Prt.len {rows A t : List Rw} {a : Nat} {l : Int} {d : Dt} {k : Fo} (h : Prt rows a A t l d k) : rows.length = a + 1 + k.cnt + t.length := by
  rw [h.e, List.length_append, List.length_cons, List.length_append, rowsF_len]
  have := h.la
  omega
theorem Tre.prt {rows : List Rw} (h : Tre rows) {a : Nat} (ha : a < rows.length) : ∃ A t l d k, Prt rows a A t l d k := by
  obtain ⟨l, d, k, t, h0, h1, h2, h3, _⟩ := h.part ha
  exact ⟨rows.take a, t, l, d, k, ⟨by rw [← h2, List.take_append_drop], by rw [List.length_take]; omega, h3, h0⟩⟩
/-- the first child's part -/
theorem Prt.kid {rows A t : List Rw} {a : Nat} {l : Int} {d d1 : Dt} {k1 r1 : Fo} (h : Prt rows a A t l d (.cons d1 k1 r1)) : Prt rows (a + 1) (A ++ [⟨l, d⟩]) (rowsF (l + 1) r1 ++ t) (l + 1) d1 k1 := by
  refine ⟨by rw [h.e]; simp [rowsF], by rw [List.length_append, h.la]; rfl, ?_, by have := h.l0; omega⟩
  cases r1 with
  | nil => intro y hy; have := h.ht y hy; omega
  | cons d' k' r' => intro y hy; cases hy; exact Int.le_refl _
theorem swapIn {A t : List Rw} {l : Int} {d d' : Dt} {k k' : Fo} (ht : ∀ y, t.head? = some y → y.lv ≤ l) (h : Tre (A ++ ⟨l, d⟩ :: (rowsF (l + 1) k ++ t))) : Tre (A ++ ⟨l, d'⟩ :: (rowsF (l + 1) k' ++ t)) := by
  obtain ⟨x, xs, e, h0, hs⟩ := h.stp
  have key : ∀ {p q : Int}, l - 1 ≤ q → Stp 1 p (rowsF (l + 1) k ++ t) → 1 ≤ l + 1 → Stp 1 l (rowsF (l + 1) k' ++ t) := fun {p q} _ hp hl => by
    have hk := rows_stp (L := l + 1) (f := k')
    rw [show l + 1 - 1 = l by omega] at hk
    refine stp_app.mpr ⟨hk.up fun x hx => by have := rowsF_low _ _ x hx; omega, (stp_app.mp hp).2.hd fun y hy => ?_⟩
    have := last_ge (L := l) (p := l) (Int.le_refl _) (xs := rowsF (l + 1) k') fun x hx => by have := rowsF_low _ _ x hx; omega
    have := ht y hy
    omega
  cases A with
  | nil =>
    cases e
    have h0 : l = 0 := h0
    subst h0
    exact tre_of rfl (key (q := 0) (by omega) hs (by omega))
  | cons y A =>
    cases e
    obtain ⟨h1, h2⟩ := stp_app.mp hs
    refine tre_of h0 (stp_app.mpr ⟨h1, h2.1, h2.2.1, key (q := l) (by omega) h2.2.2 (by have h3 : 1 ≤ l := h2.1; omega)⟩)
def Fo.app : Fo → Fo → Fo
  | .nil, g => g
  | .cons d k r, g => .cons d k (r.app g)
theorem rowsF_app (L : Int) : ∀ f g : Fo, rowsF L (f.app g) = rowsF L f ++ rowsF L g
  | .nil, _ => rfl
  | .cons d k r, g => by
    show (⟨L, d⟩ : Rw) :: (rowsF (L + 1) k ++ rowsF L (r.app g)) = ⟨L, d⟩ :: (rowsF (L + 1) k ++ rowsF L r) ++ rowsF L g
    rw [rowsF_app L r g]
    simp
section
variable {rows A t : List Rw} {a : Nat} {l : Int} {d d1 d' : Dt} {k k1 r1 : Fo}
theorem Prt.tre (h : Prt rows a A t l d k) (hT : Tre rows) (d' : Dt) (k' : Fo) : Tre (A ++ ⟨l, d'⟩ :: (rowsF (l + 1) k' ++ t)) := swapIn h.ht (by rw [← h.e]; exact hT)
/-- a row changed -/
theorem Prt.c1 (h : Prt rows a A t l d k) (hT : Tre rows) : Tre (rows.take a ++ [⟨l, d'⟩] ++ rows.drop (a + 1)) := by
  rw [h.take, h.drop1, List.append_assoc]
  exact h.tre hT d' k
/-- a leaf behind the last child -/
theorem Prt.c2 (h : Prt rows a A t l d k) (hT : Tre rows) : Tre (rows.take (a + 1 + k.cnt) ++ [⟨l + 1, d'⟩] ++ rows.drop (a + 1 + k.cnt)) := by
  have := h.tre hT d (k.app (.cons d' .nil .nil))
  rw [rowsF_app] at this
  rw [h.takeE, h.dropE]
  simpa [rowsF] using this
/-- a leaf ahead of the first child -/
theorem Prt.c3 (h : Prt rows a A t l d k) (hT : Tre rows) : Tre (rows.take (a + 1) ++ [⟨l + 1, d'⟩] ++ rows.drop (a + 1)) := by
  have := h.tre hT d (.cons d' .nil k)
  rw [h.take1, h.drop1]
  simpa [rowsF] using this
/-- without the first child -/
theorem Prt.c4 (h : Prt rows a A t l d (.cons d1 k1 r1)) (hT : Tre rows) : Tre (rows.take (a + 1) ++ rows.drop (a + 1 + 1 + k1.cnt)) := by
  have := h.tre hT d r1
  rw [h.take1, h.kid.dropE]
  simpa using this
/-- without children -/
theorem Prt.c5 (h : Prt rows a A t l d k) (hT : Tre rows) : Tre (rows.take (a + 1) ++ rows.drop (a + 1 + k.cnt)) := by
  have := h.tre hT d .nil
  rw [h.take1, h.dropE]
  simpa [rowsF] using this
/-- the first child behind the others -/
theorem Prt.c6 (h : Prt rows a A t l d (.cons d1 k1 r1)) (hT : Tre rows) : Tre (rows.take (a + 1) ++ (rows.take (a + 1 + (Fo.cons d1 k1 r1).cnt)).drop (a + 1 + 1 + k1.cnt) ++ (rows.take (a + 1 + 1 + k1.cnt)).drop (a + 1) ++ rows.drop (a + 1 + (Fo.cons d1 k1 r1).cnt)) := by
  have := h.tre hT d (r1.app (.cons d1 k1 .nil))
  rw [rowsF_app] at this
  have e1 : (rows.take (a + 1 + (Fo.cons d1 k1 r1).cnt)).drop (a + 1 + 1 + k1.cnt) = rowsF (l + 1) r1 := by
    rw [h.takeE, show a + 1 + 1 + k1.cnt = (A ++ (⟨l, d⟩ : Rw) :: ⟨l + 1, d1⟩ :: rowsF (l + 1 + 1) k1).length by rw [List.length_append, List.length_cons, List.length_cons, rowsF_len, h.la]; omega]
    rw [show A ++ (⟨l, d⟩ : Rw) :: rowsF (l + 1) (.cons d1 k1 r1) = (A ++ (⟨l, d⟩ : Rw) :: ⟨l + 1, d1⟩ :: rowsF (l + 1 + 1) k1) ++ rowsF (l + 1) r1 by simp [rowsF], List.drop_left' rfl]
  have e2 : (rows.take (a + 1 + 1 + k1.cnt)).drop (a + 1) = ⟨l + 1, d1⟩ :: rowsF (l + 1 + 1) k1 := by
    rw [h.kid.takeE, List.drop_left' (by rw [List.length_append, h.la]; rfl)]
  rw [h.take1, e1, e2, h.dropE]
  simpa [rowsF] using this
end
/-! ### the loop that looks for the end -/
theorem endN_in {rows : List Rw} {a : Nat} : endN rows a ≤ max (a + 1) rows.length := by
  unfold endN
  have h1 : ((rows.drop (a + 1)).takeWhile fun y => decide (((rows[a]?).map (·.lv)).getD 0 < y.lv)).length ≤ (rows.drop (a + 1)).length := (List.takeWhile_sublist _).length_le
  rw [List.length_drop] at h1
  omega
theorem endN_go {rows : List Rw} {a j : Nat} {x y : Rw} (hx : rows[a]? = some x) (hj : a < j) (hle : j ≤ endN rows a) (hy : rows[j]? = some y) (h : x.lv < y.lv) : j + 1 ≤ endN rows a := by
  rcases Nat.lt_or_ge j (endN rows a) with c | c
  · omega
  · exfalso
    have e : endN rows a = j := by omega
    unfold endN at e
    rw [hx] at e
    generalize hp : (fun z : Rw => decide (((some x).map (·.lv)).getD 0 < z.lv)) = p at e
    obtain ⟨A, B, e0, h1, h2⟩ := tw_split p (rows.drop (a + 1))
    rw [e0, takeWhile_all h1 h2] at e
    have hb : B.head? = some y := by
      have : (rows.drop (a + 1))[A.length]? = some y := by
        rw [List.getElem?_drop, show a + 1 + A.length = j by omega]
        exact hy
      rw [e0, List.getElem?_append_right (Nat.le_refl _), Nat.sub_self] at this
      rw [List.head?_eq_getElem?]
      exact this
    have := h2 y hb
    rw [← hp] at this
    exact of_decide_eq_false this h
theorem endN_stop {rows : List Rw} {a j : Nat} {x y : Rw} (hx : rows[a]? = some x) (hj : a < j) (hle : j ≤ endN rows a) (hy : rows[j]? = some y) (h : ¬ x.lv < y.lv) : j = endN rows a := by
  rcases Nat.lt_or_ge j (endN rows a) with c | c
  · exfalso
    unfold endN at c
    rw [hx] at c
    generalize hp : (fun z : Rw => decide (((some x).map (·.lv)).getD 0 < z.lv)) = p at c
    obtain ⟨A, B, e0, h1, h2⟩ := tw_split p (rows.drop (a + 1))
    rw [e0, takeWhile_all h1 h2] at c
    have hm : (rows.drop (a + 1))[j - (a + 1)]? = some y := by
      rw [List.getElem?_drop, show a + 1 + (j - (a + 1)) = j by omega]
      exact hy
    rw [e0, List.getElem?_append_left (by omega)] at hm
    have := h1 y (List.mem_of_getElem? hm)
    rw [← hp] at this
    exact h (of_decide_eq_true this)
  · omega
end Z
namespace Z
open PySem PySem.Spec L2
/-! ## trees as texts: the reader, piece by piece -/
/-- the answer: what was read and what is left, or where the fault is (what is left from there) -/
abbrev Pz (α : Type) := Except (List Nat) α
abbrev Cut := List Nat × List Nat
def chP (p : Nat → Bool) : List Nat → Pz (List Nat)
  | [] => .error []
  | c :: t => if p c = true then .ok t else .error (c :: t)
def nameP : List Nat → Pz Cut
  | [] => .error []
  | c :: t => if isLet c = true then .ok (c :: t.takeWhile isNmc, t.dropWhile isNmc) else .error (c :: t)
def wcP : List Nat → Pz Cut
  | [] => .error []
  | c :: t => if c = 92 then (match t with
      | [] => .error []
      | e :: u => if isEsc e = true then .ok ([92, e], u) else .error (e :: u)) else if isLit c = true then .ok ([c], t) else .error (c :: t)
def litP : Nat → List Nat → Pz Cut
  | 0, s => .error s
  | n + 1, s => if s.head? = some 34 then .ok ([34], s.tail) else match wcP s with
    | .error e => .error e
    | .ok (w, r) => match litP n r with
      | .error e => .error e
      | .ok (w', r') => .ok (w ++ w', r')
def quoP (s : List Nat) : Pz Cut := match wcP s.tail with
  | .error e => .error e
  | .ok (w, r) => match litP (r.length + 1) r with
    | .error e => .error e
    | .ok (w', r') => .ok (34 :: (w ++ w'), r')
def wordP (s : List Nat) : Pz Cut := if s.head? = some 34 then quoP s else nameP s
def numP (l : Int) : List Nat → Pz Cut
  | [] => .error []
  | c :: t => if l < 0 ∧ c = 45 then (match t with
      | [] => .error []
      | e :: u => if e = 49 then .ok ([45, 49], u) else .error (e :: u))
    else if isDgt c = true then (if c = 48 then .ok ([48], t) else .ok (c :: (t.take 8).takeWhile isDgt, t.drop ((t.take 8).takeWhile isDgt).length)) else .error (c :: t)
def valL (w : List Nat) : Int := if w.head? = some 45 then -1 else (NumText.digitsVal w : Nat)
/-- numbers, each but the first behind a blank -/
def numsP : Bool → List Int → List Nat → Pz (List Int × List Nat)
  | _, [], s => .ok ([], s)
  | b, l :: ls, s => match (if b = true then .ok s else chP (· == 32) s) with
    | .error e => .error e
    | .ok s1 => match numP l s1 with
      | .error e => .error e
      | .ok (w, r) => match numsP false ls r with
        | .error e => .error e
        | .ok (ns, r') => .ok (valL w :: ns, r')
def six : List Int := [-1, 0, 0, 0, -1, 0]
def mkDt (k s : List Nat) (ns : List Int) : Dt := ⟨⟨k.toArray⟩, ⟨s.toArray⟩, ns.getD 0 0, ns.getD 1 0, ns.getD 2 0, ns.getD 3 0, ns.getD 4 0, ns.getD 5 0⟩
def head3 (k y s : List Nat) : Pz (Dt × List Nat) := match numsP true six s with
  | .error e => .error e
  | .ok (ns, r) => .ok (mkDt k y ns, r)
def head2 (k s : List Nat) : Pz (Dt × List Nat) := match wordP s with
  | .error e => .error e
  | .ok (y, r) => match chP (· == 32) r with
    | .error e => .error e
    | .ok r' => head3 k y r'
def head1 (s : List Nat) : Pz (Dt × List Nat) := match wordP s with
  | .error e => .error e
  | .ok (k, r) => match chP (· == 32) r with
    | .error e => .error e
    | .ok r' => head2 k r'
def headP (s : List Nat) : Pz (Dt × List Nat) := match chP (· == 40) s with
  | .error e => .error e
  | .ok r => head1 r
/-- with these words already read -/
def hdW : List (List Nat) → List Nat → Pz (Dt × List Nat)
  | [], s => head1 s
  | [a], s => head2 a s
  | a :: b :: _, s => head3 a b s
theorem hdW_step {ws : List (List Nat)} (h : ws.length < 2) (s : List Nat) : hdW ws s = match wordP s with
    | .error e => .error e
    | .ok (w, r) => match chP (· == 32) r with
      | .error e => .error e
      | .ok r' => hdW (ws ++ [w]) r' := by
  match ws, h with
  | [], _ => rfl
  | [a], _ => rfl
theorem nums_nil (b : Bool) (s : List Nat) : numsP b [] s = .ok ([], s) := rfl
theorem nums_cons (b : Bool) (l : Int) (ls : List Int) (s : List Nat) : numsP b (l :: ls) s = match (if b = true then .ok s else chP (· == 32) s : Pz (List Nat)) with
    | .error e => .error e
    | .ok s1 => match numP l s1 with
      | .error e => .error e
      | .ok (w, r) => match numsP false ls r with
        | .error e => .error e
        | .ok (ns, r') => .ok (valL w :: ns, r') := rfl
/-! what is read stands ahead of what is left -/
theorem nameP_cut {s w r : List Nat} (h : nameP s = .ok (w, r)) : s = w ++ r ∧ w ≠ [] := by
  cases s with
  | nil => cases h
  | cons c t =>
    by_cases c1 : isLet c = true
    · rw [show nameP (c :: t) = .ok (c :: t.takeWhile isNmc, t.dropWhile isNmc) from if_pos c1] at h
      cases h
      exact ⟨by rw [List.cons_append, List.takeWhile_append_dropWhile], fun q => nomatch q⟩
    · rw [show nameP (c :: t) = .error (c :: t) from if_neg c1] at h
      cases h
theorem wc_esc {e : Nat} {u : List Nat} (h : isEsc e = true) : wcP (92 :: e :: u) = .ok ([92, e], u) := if_pos h
theorem wc_noesc {e : Nat} {u : List Nat} (h : ¬ isEsc e = true) : wcP (92 :: e :: u) = .error (e :: u) := if_neg h
theorem wc_lit {c : Nat} {t : List Nat} (h0 : c ≠ 92) (h : isLit c = true) : wcP (c :: t) = .ok ([c], t) := by
  show (if c = 92 then _ else if isLit c = true then Except.ok ([c], t) else Except.error (c :: t)) = _
  rw [if_neg h0, if_pos h]
theorem wc_nolit {c : Nat} {t : List Nat} (h0 : c ≠ 92) (h : ¬ isLit c = true) : wcP (c :: t) = .error (c :: t) := by
  show (if c = 92 then _ else if isLit c = true then Except.ok ([c], t) else Except.error (c :: t)) = _
  rw [if_neg h0, if_neg h]
theorem wcP_cut {s w r : List Nat} (h : wcP s = .ok (w, r)) : s = w ++ r ∧ w ≠ [] := by
  cases s with
  | nil => cases h
  | cons c t =>
    by_cases c1 : c = 92
    · subst c1
      cases t with
      | nil => cases h
      | cons e u =>
        by_cases c2 : isEsc e = true
        · rw [wc_esc c2] at h
          cases h
          exact ⟨rfl, fun q => nomatch q⟩
        · rw [wc_noesc c2] at h
          cases h
    · by_cases c2 : isLit c = true
      · rw [wc_lit c1 c2] at h
        cases h
        exact ⟨rfl, fun q => nomatch q⟩
      · rw [wc_nolit c1 c2] at h
        cases h
theorem lit_end {n : Nat} {t : List Nat} : litP (n + 1) (34 :: t) = .ok ([34], t) := if_pos rfl
theorem lit_go {n : Nat} {s : List Nat} (h : s.head? ≠ some 34) : litP (n + 1) s = match wcP s with
    | .error e => .error e
    | .ok (w, r) => match litP n r with
      | .error e => .error e
      | .ok (w', r') => .ok (w ++ w', r') := if_neg h
theorem litP_cut : ∀ {n : Nat} {s w r : List Nat}, litP n s = .ok (w, r) → s = w ++ r ∧ w ≠ []
  | 0, _, _, _, h => by cases h
  | n + 1, s, w, r, h => by
    by_cases c1 : s.head? = some 34
    · cases s with
      | nil => cases c1
      | cons c t =>
        cases c1
        rw [lit_end] at h
        cases h
        exact ⟨rfl, fun q => nomatch q⟩
    · rw [lit_go c1] at h
      cases hw : wcP s with
      | error e => rw [hw] at h; cases h
      | ok a =>
        obtain ⟨w1, r1⟩ := a
        rw [hw] at h
        simp only at h
        cases hl : litP n r1 with
        | error e => rw [hl] at h; cases h
        | ok b =>
          obtain ⟨w2, r2⟩ := b
          rw [hl] at h
          cases h
          obtain ⟨e1, n1⟩ := wcP_cut hw
          obtain ⟨e2, _⟩ := litP_cut hl
          exact ⟨by rw [List.append_assoc, ← e2, ← e1], by simp [n1]⟩
theorem quoP_cut {s w r : List Nat} (hs : s.head? = some 34) (h : quoP s = .ok (w, r)) : s = w ++ r ∧ w ≠ [] := by
  unfold quoP at h
  cases hw : wcP s.tail with
  | error e => rw [hw] at h; cases h
  | ok a =>
    obtain ⟨w1, r1⟩ := a
    rw [hw] at h
    simp only at h
    cases hl : litP (r1.length + 1) r1 with
    | error e => rw [hl] at h; cases h
    | ok b =>
      obtain ⟨w2, r2⟩ := b
      rw [hl] at h
      cases h
      obtain ⟨e1, n1⟩ := wcP_cut hw
      obtain ⟨e2, _⟩ := litP_cut hl
      cases s with
      | nil => cases hs
      | cons c t =>
        cases hs
        refine ⟨?_, fun q => nomatch q⟩
        replace e1 : t = w1 ++ r1 := e1
        rw [e1, e2]
        simp
theorem wordP_cut {s w r : List Nat} (h : wordP s = .ok (w, r)) : s = w ++ r ∧ w ≠ [] := by
  by_cases c1 : s.head? = some 34
  · rw [show wordP s = quoP s from if_pos c1] at h
    exact quoP_cut c1 h
  · rw [show wordP s = nameP s from if_neg c1] at h
    exact nameP_cut h
theorem num_minus {l : Int} {t : List Nat} (hl : l < 0) : numP l (45 :: t) = match t with
    | [] => .error []
    | e :: u => if e = 49 then .ok ([45, 49], u) else .error (e :: u) := if_pos ⟨hl, rfl⟩
theorem num_zero {l : Int} {t : List Nat} : numP l (48 :: t) = .ok ([48], t) := by
  show (if l < 0 ∧ 48 = 45 then _ else if isDgt 48 = true then (if 48 = 48 then Except.ok ([48], t) else _) else _) = _
  rw [if_neg (fun h => absurd h.2 (by decide)), if_pos (by decide), if_pos rfl]
theorem num_dgt {l : Int} {c : Nat} {t : List Nat} (hd : isDgt c = true) (h0 : c ≠ 48) : numP l (c :: t) = .ok (c :: (t.take 8).takeWhile isDgt, t.drop ((t.take 8).takeWhile isDgt).length) := by
  have h45 : c ≠ 45 := fun h => by rw [h] at hd; cases hd
  show (if l < 0 ∧ c = 45 then _ else if isDgt c = true then (if c = 48 then _ else Except.ok (c :: (t.take 8).takeWhile isDgt, t.drop ((t.take 8).takeWhile isDgt).length)) else _) = _
  rw [if_neg (fun h => h45 h.2), if_pos hd, if_neg h0]
theorem num_no {l : Int} {c : Nat} {t : List Nat} (hd : ¬ isDgt c = true) (h0 : ¬ (l < 0 ∧ c = 45)) : numP l (c :: t) = .error (c :: t) := by
  show (if l < 0 ∧ c = 45 then _ else if isDgt c = true then _ else Except.error (c :: t)) = _
  rw [if_neg h0, if_neg hd]
theorem tw_take {p : Nat → Bool} {n : Nat} {t : List Nat} : (t.take n).takeWhile p = t.take ((t.take n).takeWhile p).length := by
  have h1 := List.prefix_iff_eq_take.mp (List.takeWhile_prefix (l := t.take n) p)
  have h2 : ((t.take n).takeWhile p).length ≤ (t.take n).length := (List.takeWhile_prefix (l := t.take n) p).length_le
  rw [List.take_take] at h1
  rw [List.length_take] at h2
  rw [Nat.min_eq_left (by omega)] at h1
  exact h1
theorem numP_cut {l : Int} {s w r : List Nat} (h : numP l s = .ok (w, r)) : s = w ++ r ∧ w ≠ [] := by
  cases s with
  | nil => cases h
  | cons c t =>
    by_cases c1 : l < 0 ∧ c = 45
    · obtain ⟨hl, rfl⟩ := c1
      rw [num_minus hl] at h
      cases t with
      | nil => cases h
      | cons e u =>
        by_cases c2 : e = 49
        · subst c2
          cases h
          exact ⟨rfl, fun q => nomatch q⟩
        · simp only [if_neg c2] at h
          cases h
    · by_cases c2 : isDgt c = true
      · by_cases c3 : c = 48
        · subst c3
          rw [num_zero] at h
          cases h
          exact ⟨rfl, fun q => nomatch q⟩
        · rw [num_dgt c2 c3] at h
          cases h
          refine ⟨?_, fun q => nomatch q⟩
          rw [List.cons_append]
          congr 1
          conv => lhs; rw [← List.take_append_drop ((t.take 8).takeWhile isDgt).length t]
          rw [← tw_take]
      · rw [num_no c2 c1] at h
        cases h
theorem ch_ok {p : Nat → Bool} {c : Nat} {t : List Nat} (h : p c = true) : chP p (c :: t) = .ok t := if_pos h
theorem ch_no {p : Nat → Bool} {c : Nat} {t : List Nat} (h : ¬ p c = true) : chP p (c :: t) = .error (c :: t) := if_neg h
theorem chP_cut {p : Nat → Bool} {s r : List Nat} (h : chP p s = .ok r) : ∃ c, s = c :: r ∧ p c = true := by
  cases s with
  | nil => cases h
  | cons c t =>
    by_cases c1 : p c = true
    · rw [ch_ok c1] at h
      cases h
      exact ⟨c, rfl, c1⟩
    · rw [ch_no c1] at h
      cases h
theorem numsP_cut : ∀ {ls : List Int} {b : Bool} {s r : List Nat} {ns : List Int}, numsP b ls s = .ok (ns, r) → (∃ w, s = w ++ r) ∧ ns.length = ls.length
  | [], b, s, r, ns, h => by
    rw [nums_nil] at h
    cases h
    exact ⟨⟨[], rfl⟩, rfl⟩
  | l :: ls, b, s, r, ns, h => by
    rw [nums_cons] at h
    cases h1 : (if b = true then .ok s else chP (· == 32) s : Pz (List Nat)) with
    | error e => rw [h1] at h; cases h
    | ok s1 =>
      rw [h1] at h
      simp only at h
      have hc : ∃ w, s = w ++ s1 := by
        cases b with
        | true => cases h1; exact ⟨[], rfl⟩
        | false =>
          obtain ⟨c, e, _⟩ := chP_cut (show chP (· == 32) s = .ok s1 from h1)
          exact ⟨[c], e⟩
      cases h2 : numP l s1 with
      | error e => rw [h2] at h; cases h
      | ok a =>
        obtain ⟨w, r1⟩ := a
        rw [h2] at h
        simp only at h
        cases h3 : numsP false ls r1 with
        | error e => rw [h3] at h; cases h
        | ok b =>
          obtain ⟨ns', r'⟩ := b
          rw [h3] at h
          cases h
          obtain ⟨w0, e0⟩ := hc
          obtain ⟨⟨w1, e1⟩, e2⟩ := numsP_cut h3
          exact ⟨⟨w0 ++ (w ++ w1), by rw [e0, (numP_cut h2).1, e1]; simp⟩, by rw [List.length_cons, e2, List.length_cons]⟩
theorem head3_cut {k y s r : List Nat} {d : Dt} (h : head3 k y s = .ok (d, r)) : ∃ w, s = w ++ r := by
  unfold head3 at h
  cases h1 : numsP true six s with
  | error e => rw [h1] at h; cases h
  | ok a =>
    obtain ⟨ns, r1⟩ := a
    rw [h1] at h
    cases h
    exact (numsP_cut h1).1
theorem hdW_cut : ∀ (n : Nat) {ws : List (List Nat)} {s r : List Nat} {d : Dt}, ws.length + n = 2 → hdW ws s = .ok (d, r) → ∃ w, s = w ++ r
  | 0, ws, s, r, d, hn, h => by
    match ws, hn, h with
    | [a, b], _, h => exact head3_cut h
  | n + 1, ws, s, r, d, hn, h => by
    rw [hdW_step (by omega)] at h
    cases h1 : wordP s with
    | error e => rw [h1] at h; cases h
    | ok a =>
      obtain ⟨w, r1⟩ := a
      rw [h1] at h
      simp only at h
      cases h2 : chP (· == 32) r1 with
      | error e => rw [h2] at h; cases h
      | ok r2 =>
        rw [h2] at h
        simp only at h
        obtain ⟨w2, e2⟩ := hdW_cut n (by rw [List.length_append]; show ws.length + 1 + n = 2; omega) h
        obtain ⟨c, ec, _⟩ := chP_cut h2
        exact ⟨w ++ (c :: w2), by rw [(wordP_cut h1).1, ec, e2]; simp⟩
theorem headP_cut {s r : List Nat} {d : Dt} (h : headP s = .ok (d, r)) : ∃ c w, s = c :: (w ++ r) := by
  unfold headP at h
  cases h1 : chP (· == 40) s with
  | error e => rw [h1] at h; cases h
  | ok r1 =>
    rw [h1] at h
    obtain ⟨c, ec, _⟩ := chP_cut h1
    obtain ⟨w, ew⟩ := hdW_cut 2 (ws := []) rfl h
    exact ⟨c, w, by rw [ec, ew]⟩
/-! ### numbers -/
theorem dgt_iff {c : Nat} : isDgt c = true ↔ 48 ≤ c ∧ c ≤ 57 := by unfold isDgt; simp
theorem numP_w {l : Int} {s w r : List Nat} (h : numP l s = .ok (w, r)) : (w = [45, 49] ∧ l < 0) ∨ (NumText.AllDigits w ∧ w.length ≤ 9 ∧ (w = [48] ∨ w.head? ≠ some 48)) := by
  cases s with
  | nil => cases h
  | cons c t =>
    by_cases c1 : l < 0 ∧ c = 45
    · obtain ⟨hl, rfl⟩ := c1
      rw [num_minus hl] at h
      cases t with
      | nil => cases h
      | cons e u =>
        by_cases c2 : e = 49
        · subst c2
          cases h
          exact .inl ⟨rfl, hl⟩
        · simp only [if_neg c2] at h
          cases h
    · by_cases c2 : isDgt c = true
      · by_cases c3 : c = 48
        · subst c3
          rw [num_zero] at h
          cases h
          exact .inr ⟨fun c hc => by rw [List.mem_singleton.mp hc]; omega, by decide, .inl rfl⟩
        · rw [num_dgt c2 c3] at h
          cases h
          refine .inr ⟨fun b hb => ?_, ?_, .inr fun q => ?_⟩
          · rcases List.mem_cons.mp hb with rfl | hb
            · exact dgt_iff.mp c2
            · exact dgt_iff.mp (List.all_eq_true.mp (List.all_takeWhile (p := isDgt) (l := t.take 8)) _ hb)
          · have := (List.takeWhile_prefix (l := t.take 8) isDgt).length_le
            rw [List.length_take] at this
            rw [List.length_cons]
            omega
          · exact c3 (Option.some.inj q)
      · rw [num_no c2 c1] at h
        cases h
theorem val_dgt {w : List Nat} (h : NumText.AllDigits w) : valL w = (NumText.digitsVal w : Nat) := by
  refine if_neg fun q => ?_
  cases w with
  | nil => cases q
  | cons c t =>
    have := h c (List.mem_cons_self ..)
    cases q
    omega
theorem numP_val {l : Int} {s w r : List Nat} (h : numP l s = .ok (w, r)) {x : Str} (hx : TL.tl x = w) : PySem.intText? x = some (valL w) ∧ x.length ≤ 640 := by
  have hne := (numP_cut h).2
  rcases numP_w h with ⟨rfl, _⟩ | ⟨h1, h2, _⟩
  · have : x = ⟨#[45, 49]⟩ := TL.ext_tl hx
    subst this
    exact ⟨by decide +kernel, by decide⟩
  · have hl : x.length ≤ 9 := by rw [TL.len_tl, hx]; exact h2
    refine ⟨?_, by omega⟩
    have := PySem.intText_digits (x := x) (by rw [show x.cps.toList = w from hx]; exact h1) (by rw [show x.cps.toList = w from hx]; exact hne) (by omega)
    rw [this, show x.cps.toList = w from hx, val_dgt h1]
end Z
namespace Z
open PySem PySem.Spec L2 ItX
local macro_rules | `(tactic| walk_at "ne") => `(tactic| first
  | with_reducible assumption
  | with_reducible exact Ne.symm (by assumption)
  | exact Frs.ne (by with_reducible assumption) (by walk_at "hp")
  | exact Frs.ne' (by with_reducible assumption) (by walk_at "hp"))
local macro_rules | `(tactic| walk_at "hp") => `(tactic| first
  | with_reducible assumption
  | (with_reducible refine Same.at (by assumption) ?_; walk_at "hp")
  | (with_reducible refine SL.tup (by assumption) ?_; walk_at "hp")
  | (with_reducible refine SL.at (by assumption) (by walk_at "ne") ?_; walk_at "hp"))
local macro_rules | `(tactic| walk_at "sz") => `(tactic| first
  | with_reducible assumption
  | exact Nat.le_of_ble_eq_true rfl
  | (refine sz_le ?_; omega)
  | (refine sz_lt ?_; omega)
  | decide +kernel)
local macro_rules | `(tactic| walk_at "at") => `(tactic| first
  | with_reducible assumption
  | with_reducible exact at0
  | with_reducible exact at1
  | with_reducible exact at2
  | with_reducible exact ixN0)
local macro_rules | `(tactic| walk_at "nn") => `(tactic| first
  | omega
  | decide
  | exact ⟨by decide, by decide⟩
  | exact ⟨by omega, by omega⟩
  | exact ⟨by omega, by omega, by omega, by omega⟩)
local macro_rules | `(tactic| walk_at "rdv") => `(tactic| first
  | (with_reducible refine add_int ?_)
  | (with_reducible refine sub_int ?_)
  | (with_reducible refine neg_int ?_)
  | ((with_reducible refine ix_tpl (xs := ?xs) (v := ?v) ?h1 ?h2 ?_); (case h1 => walk_at "hp"); (case h2 => walk_at "at"))
  | ((with_reducible refine ix_lst (xs := ?xs) (v := ?v) ?h1 ?h2 ?_); (case h1 => walk_at "hp"); (case h2 => walk_at "at"))
  | (with_reducible refine eq_int ?_)
  | (with_reducible refine ne_int ?_)
  | (with_reducible refine lt_int ?_)
  | (with_reducible refine le_int ?_)
  | (with_reducible refine gt_int ?_)
  | (with_reducible refine ge_int ?_)
  | (with_reducible refine eq_str ?_)
  | (with_reducible refine ne_str ?_)
  | (with_reducible refine eq_bl ?_)
  | (with_reducible refine ne_bl ?_)
  | ((with_reducible refine mod_int ?hc ?_); (case hc => walk_at "nn"))
  | ((with_reducible refine div_int ?hc ?_); (case hc => walk_at "nn"))
  | ((with_reducible refine mul_intR ?hc ?_); (case hc => exact ⟨by decide, by decide⟩))
  | ((with_reducible refine mul_intR ?hc ?_); (case hc => exact ⟨by omega, by omega⟩))
  | ((with_reducible refine mul_intL ?hc ?_); (case hc => exact ⟨by omega, by omega⟩))
  | ((with_reducible refine pow_int ?hc ?_); (case hc => exact ⟨by decide, by decide, by decide⟩))
  | ((with_reducible refine add_str ?hc ?_); (case hc => walk_at "sz"))
  | ((with_reducible refine add_lst (xs := ?xs) (ys := ?ys) ?h1 ?h2 ?hc ?_); (case h1 => walk_at "hp"); (case h2 => walk_at "hp"); (case hc => walk_at "sz"))
  | ((with_reducible refine sl_strU ?hc ?_); (case hc => walk_at "sz"))
  | ((with_reducible refine sl_lst (xs := ?xs) ?h1 ?_); (case h1 => walk_at "hp"))
  | (with_reducible refine is_bl ?_)
  | (with_reducible refine isnt_bl ?_)
  | (with_reducible refine is_non ?_)
  | (with_reducible refine isnt_non ?_))
local macro_rules | `(tactic| walk_at "rdc") => `(tactic| first
  | ((with_reducible refine len_lst (xs := ?xs) ?h1 ?_); (case h1 => walk_at "hp"))
  | ((with_reducible refine len_tup (xs := ?xs) ?h1 ?_); (case h1 => walk_at "hp"))
  | ((with_reducible refine len_str ?hc ?_); (case hc => walk_at "sz"))
  | (with_reducible refine int_int ?_)
  | (with_reducible refine max_int ?_)
  | (with_reducible refine min_int ?_)
  | (with_reducible refine abs_int ?_)
  | (with_reducible refine isi_ii ?_)
  | (with_reducible refine isi_ib ?_)
  | (with_reducible refine isi_ss ?_)
  | (with_reducible refine isi_bb ?_)
  | ((with_reducible refine isi_tt (xs := ?xs) ?h1 ?_); (case h1 => walk_at "hp"))
  | ((with_reducible refine isi_ll (xs := ?xs) ?h1 ?_); (case h1 => walk_at "hp"))
  | ((with_reducible refine list_lst (xs := ?xs) ?h1 ?_); (case h1 => walk_at "hp"))
  | ((with_reducible refine list_tup (xs := ?xs) ?h1 ?_); (case h1 => walk_at "hp"))
  | ((with_reducible refine tuple_lst (xs := ?xs) ?h1 ?_); (case h1 => walk_at "hp"))
  | ((with_reducible refine tuple_tup (xs := ?xs) ?h1 ?_); (case h1 => walk_at "hp"))
  | ((with_reducible refine append_lst (xs := ?xs) ?h1 ?hc ?_); (case h1 => walk_at "hp"); (case hc => walk_at "sz"))
  | ((with_reducible refine clear_lst (xs := ?xs) ?h1 ?_); (case h1 => walk_at "hp"))
  | ((with_reducible refine set_lst (xs := ?xs) (k := ?k) ?h1 ?h2 ?_); (case h1 => walk_at "hp"); (case h2 => walk_at "at")))
local macro_rules | `(tactic| walk_at "rd1") => `(tactic| first
  | ((with_reducible refine rVar (v := ?v) ?h ?_); (case h => exact rfl))
  | (with_reducible refine rC ?_)
  | (with_reducible refine rCons ?_)
  | (with_reducible refine rNil ?_)
  | (with_reducible refine rOp ?_)
  | (with_reducible refine rSeq ?_)
  | (with_reducible refine rAsgN ?_)
  | (with_reducible refine rAsgT ?_)
  | (with_reducible refine rAsgS ?_)
  | (with_reducible refine rTest ?_)
  | (with_reducible refine rBl ?_)
  | (with_reducible refine rBl' ?_)
  | (with_reducible refine rInt ?_)
  | (with_reducible refine rInt' ?_)
  | (with_reducible refine rCall ?_)
  | (with_reducible refine rCB ?_)
  | (with_reducible refine rRet ?_)
  | (with_reducible refine rDrop ?_)
  | (with_reducible refine rIfS ?_)
  | (with_reducible refine rTup ?_)
  | (with_reducible refine rLst ?_)
  | (with_reducible refine ⟨Nat.le_of_ble_eq_true rfl, ?_⟩)
  | (with_reducible refine rSl ?_)
  | (with_reducible refine rPart ?_)
  | (with_reducible refine rNoPart ?_)
  | (with_reducible refine rBM ?_)
  | (with_reducible refine rBM0 ?_)
  | ((with_reducible refine tyL (xs := ?xs) ?h1 ?_); (case h1 => walk_at "hp"))
  | (with_reducible refine rM1 ?_)
  | (with_reducible refine rM0 ?_)
  | (with_reducible refine rStr ?_)
  | (with_reducible refine rTru ?_)
  | (with_reducible refine tru_bl ?_)
  | (with_reducible refine tru_int ?_)
  | ((with_reducible refine tru_lst (xs := ?xs) ?h1 ?_); (case h1 => walk_at "hp"))
  | ((with_reducible refine tru_tup (xs := ?xs) ?h1 ?_); (case h1 => walk_at "hp"))
  | ((with_reducible refine tru_str ?hc ?_); (case hc => walk_at "sz"))
  | (with_reducible refine rAnd ?_)
  | (with_reducible refine rOr ?_)
  | (with_reducible refine rNot ?_)
  | (with_reducible refine rAndV ?_)
  | (with_reducible refine rOrV ?_)
  | (with_reducible refine rNotV ?_)
  | (with_reducible refine rIfE ?_)
  | (with_reducible refine rChain ?_)
  | (with_reducible refine rChain3 ?_)
  | (with_reducible refine ifT ?_)
  | (with_reducible refine ifF ?_)
  | (with_reducible refine ifNF ?_)
  | (with_reducible refine ifNT ?_)
  | (with_reducible refine rNext ?_)
  | (with_reducible refine rBrk ?_)
  | (with_reducible refine rCnt ?_)
  | (with_reducible refine rRetN ?_)
  | (with_reducible refine rForR1 ?_)
  | (with_reducible refine rForR2 ?_)
  | (with_reducible refine rForL ?_)
  | ((with_reducible refine rRg1 ?hb ?_); (case hb => walk_at "nn"))
  | ((with_reducible refine rRg2 ?hb ?_); (case hb => walk_at "nn"))
  | ((with_reducible refine rRf (xs := ?xs) ?h1 ?_); (case h1 => walk_at "hp"))
  | (with_reducible refine rLcR1 ?_)
  | (with_reducible refine rLcR2 ?_)
  | (with_reducible refine rLcL ?_)
  | (with_reducible refine gN ?_)
  | (with_reducible refine gNl ?_)
  | (with_reducible refine gC ?_)
  | ((with_reducible refine gT (xs := ?xs) ?h1 ?h2 ?_); (case h1 => walk_at "hp"); (case h2 => exact rfl))
  | (with_reducible refine rUn ?_)
  | walk_at "rdv"
  | walk_at "rdc")
local macro_rules | `(tactic| walk_at "rd") => `(tactic| repeat walk_at "rd1")

local macro_rules | `(tactic| walk_at "rd1") => `(tactic| first
  | (with_reducible refine rCallS ?_)
  | (with_reducible refine rRaise ?_)
  | (with_reducible refine rXf ?_)
  | (with_reducible refine rXi ?_)
  | (with_reducible refine rOst ?_)
  | (with_reducible refine rRevL ?_)
  | ((with_reducible refine revL_end (xs := ?xs) ?h1 ?_); (case h1 => walk_at "hp")))

local macro_rules | `(tactic| walk_at "rd1") => `(tactic| first
  | (with_reducible refine rForR3 ?_)
  | ((with_reducible refine rRgD ?hb ?_); (case hb => walk_at "nn"))
  | (with_reducible refine gS ?_))

local macro_rules | `(tactic| walk_at "rd1") => `(tactic| first
  | (with_reducible refine nin_sign ?_)
  | (with_reducible refine in_sign ?_)
  | (with_reducible refine rForET ?_)
  | (with_reducible refine rForEL ?_)
  | (with_reducible refine rLcRev ?_)
  | ((with_reducible refine ix_str (c := ?c) ?hl ?h2 ?_); (case hl => walk_at "sz"); (case h2 => with_reducible assumption))
  | (with_reducible refine rAsgU ?_)
  | ((with_reducible refine gUl (xs := ?xs) ?h1 ?h2 ?_); (case h1 => walk_at "hp"); (case h2 => exact rfl)))

/-! ## the reader's pieces, walked -/
theorem log_big {n : Nat} (h : n ≤ 10000000) : ((n : Nat) : Int).natAbs.log2 < 1920 := by
  rw [Int.natAbs_natCast]
  by_cases h0 : n = 0
  · rw [h0]; decide
  · have : n.log2 < 24 := (Nat.log2_lt h0).mpr (by show n < 16777216; omega)
    omega
theorem num_big {n : Nat} (h : n < 10000000) : (Str.ofString (toString ((n : Nat) : Int))).length ≤ 7 := by
  rw [TL.len_tl, TL.tl_num]
  exact TL.numL_len (k := 7) (by decide) h
def sp_TreeError (C : Addr) : Sp := fun vs H Q _ => ∃ (x : Addr) (n : Nat), vs = [.ref x, .int n] ∧ n ≤ 9000000 ∧ H x = some (exo x C none) ∧
  ∀ d, H d = none → d ≠ x → Q .non (upd (upd H d (exd d [("place", .int n)])) x (exo x C (some d)))
/-- how such an error comes out of a def -/
abbrev BadP (C : Addr) (n : Nat) (H : Hp) (E : XK) : Prop := WantX C [("place", .int n)] H E
/-- what of the text z is left at i -/
structure At (z : Str) (i : Nat) (s : List Nat) : Prop where
  d : (TL.tl z).drop i = s
  l : i ≤ z.length
  m : z.length ≤ 9000000
theorem At.len {z : Str} {i : Nat} {s : List Nat} (h : At z i s) : z.length = i + s.length := by
  have e := congrArg List.length h.d
  have := h.l
  rw [List.length_drop, ← TL.len_tl] at e
  omega
theorem At.next {z : Str} {i : Nat} {w r : List Nat} (h : At z i (w ++ r)) : At z (i + w.length) r := by
  refine ⟨?_, ?_, h.m⟩
  · rw [← List.drop_drop, h.d, List.drop_append, List.drop_eq_nil_of_le (Nat.le_refl _), Nat.sub_self]
    rfl
  · have := h.len
    rw [List.length_append] at this
    omega
theorem At.tail {z : Str} {i c : Nat} {t : List Nat} (h : At z i (c :: t)) : At z (i + 1) t := At.next (w := [c]) h
theorem At.get {z : Str} {i : Nat} {s : List Nat} (h : At z i s) : (TL.tl z)[i]? = s.head? := by rw [← h.d, List.head?_drop]
theorem At.all {z : Str} (h : z.length ≤ 9000000) : At z 0 (TL.tl z) := ⟨rfl, Nat.zero_le _, h⟩
theorem At.at_ {z : Str} {i c : Nat} {t : List Nat} (h : At z i (c :: t)) {j : Int} (e : j = (i : Nat)) : atI z.cps.toList j = some c := at_of e h.get
theorem take_drop1 {l : List Nat} {i : Nat} : (l.take (i + 1)).drop i = match l[i]? with | some c => [c] | none => [] := by
  rw [List.drop_take, show i + 1 - i = 1 by omega, ← List.head?_drop]
  cases l.drop i with
  | nil => rfl
  | cons c t => rfl
/-- one sign, taken as a slice -/
theorem At.slice {z y : Str} {i c : Nat} {s : List Nat} (h : At z i s) (hy : TL.tl y = [c]) {j j' : Int} (e : j = (i : Nat)) (e' : j' = (i : Nat) + 1) : decide (cutS z (some j) (some j') = y) = decide (s.head? = some c) := by
  refine decide_eq_decide.mpr ?_
  have e1 : TL.tl (cutS z (some j) (some j')) = match s.head? with | some c => [c] | none => [] := by
    rw [tl_cutS, cut_mid (by omega) (by omega), e', e, Int.toNat_natCast, show ((i : Nat) + 1 : Int).toNat = i + 1 by omega, take_drop1, h.get]
  constructor
  · intro q
    rw [q, hy] at e1
    cases hs : s.head? with
    | none => rw [hs] at e1; cases e1
    | some b => rw [hs] at e1; cases e1; rfl
  · intro q
    refine TL.ext_tl ?_
    rw [e1, q, hy]
/-- the answer of what reads a piece -/
def EndP (C : Addr) (z : Str) (i : Nat) (r : Pz Cut) (H : Hp) (Q : VK) (E : XK) : Prop := (∀ w t, r = .ok (w, t) → Q (.int ((i + w.length : Nat) : Int)) H) ∧ ∀ e, r = .error e → BadP C (z.length - e.length) H E
def EndS (C : Addr) (f : List Nat → Pz Cut) : Sp := fun vs H Q E => ∃ (z : Str) (i : Nat) (s : List Nat), vs = [.str z, .int i] ∧ At z i s ∧ EndP C z i (f s) H Q E
theorem use_end_ {C : Addr} {f : List Nat → Pz Cut} {z : Str} {i : Nat} {j : Int} {s : List Nat} {H : Hp} {Q : VK} {E : XK} (e : j = (i : Nat)) (hA : At z i s) (h1 : ∀ w t, f s = .ok (w, t) → Q (.int ((i + w.length : Nat) : Int)) H) (h2 : ∀ e, f s = .error e → BadP C (z.length - e.length) H E) : EndS C f [.str z, .int j] H Q E := by
  subst e
  exact ⟨z, i, s, rfl, hA, h1, h2⟩
def sp_char_of (C : Addr) : Sp := fun vs H Q E => ∃ (z S : Str) (i : Nat) (s : List Nat) (p : Nat → Bool), vs = [.str z, .int i, .str S] ∧ At z i s ∧ (∀ c, decide (c ∈ TL.tl S) = p c) ∧ (∀ c t, s = c :: t → p c = true → Q (.str ⟨#[c]⟩) H) ∧ ∀ e, chP p s = .error e → BadP C (z.length - e.length) H E
theorem use_char_of {C : Addr} {z S : Str} {i : Nat} {j : Int} {s : List Nat} {p : Nat → Bool} {H : Hp} {Q : VK} {E : XK} (e : j = (i : Nat)) (hA : At z i s) (hp : ∀ c, decide (c ∈ TL.tl S) = p c) (h1 : ∀ c t, s = c :: t → p c = true → Q (.str ⟨#[c]⟩) H) (h2 : ∀ e, chP p s = .error e → BadP C (z.length - e.length) H E) : sp_char_of C [.str z, .int j, .str S] H Q E := by
  subst e
  exact ⟨z, S, i, s, p, rfl, hA, hp, h1, h2⟩
def sp_name_end (C : Addr) : Sp := EndS C nameP
def sp_written_char_end (C : Addr) : Sp := EndS C wcP
def sp_literal_end (C : Addr) : Sp := fun vs H Q E => ∃ (z : Str) (i : Nat) (s : List Nat), vs = [.str z, .int i] ∧ At z i s ∧ s.head? = some 34 ∧ EndP C z i (quoP s) H Q E
def sp_word_end (C : Addr) : Sp := EndS C wordP
def sp_number_end (C : Addr) : Sp := fun vs H Q E => ∃ (z : Str) (i : Nat) (s : List Nat) (l : Int), vs = [.str z, .int i, .int l] ∧ At z i s ∧ EndP C z i (numP l s) H Q E
theorem use_number_end {C : Addr} {z : Str} {i : Nat} {j l : Int} {s : List Nat} {H : Hp} {Q : VK} {E : XK} (e : j = (i : Nat)) (hA : At z i s) (h1 : ∀ w t, numP l s = .ok (w, t) → Q (.int ((i + w.length : Nat) : Int)) H) (h2 : ∀ e, numP l s = .error e → BadP C (z.length - e.length) H E) : sp_number_end C [.str z, .int j, .int l] H Q E := by
  subst e
  exact ⟨z, i, s, l, rfl, hA, h1, h2⟩
theorem mem1 {S : Str} {a : Nat} (h : TL.tl S = [a]) (c : Nat) : decide (c ∈ TL.tl S) = (c == a) := by
  rw [h]
  by_cases e : c = a
  · rw [e]; simp
  · rw [decide_eq_false (fun h => e (List.mem_singleton.mp h)), beq_false_of_ne e]
section
variable {P : Program} {w : World} {K : PySem.W.Frag} {mg : Str → Option Value} {base : Heap} {aE : Addr}
theorem sup_TreeError : SupScope ["self", "place"] ["self", "place"] (C8.fnScope s_TreeError___init__) := ⟨by decide +kernel, by decide +kernel, by decide +kernel, by decide, by decide, by decide +kernel, by decide +kernel, by decide +kernel, by decide +kernel, by decide +kernel⟩
theorem init_TreeError {fI cda cc aE : Addr} {oc kV doc pm ct : Value} {od an : Option Addr} {osl : Array (Option Value)} (T : Txt mg) (lk : K.lookup fI = some ⟨oc, od, .func (PySem.W.ksFn "__init__" "TreeError.__init__" (C8.fnArgs s_TreeError___init__) (C8.fnBody s_TreeError___init__) (C8.fnScope s_TreeError___init__) .none kV doc pm an (.ref cda) ct cc), osl⟩) (hcd : PySem.W.codeIn K (.ref cda) "TreeError.__init__" = true) (U : SupC P K mg aE cda cc)
    (iC : PySem.W.findIn K (.ref aE) "__init__" = some (some (.ref fI))) (tI : PySem.W.typeIn K (.ref fI) = some (.type "function")) (hm : mg "TreeError" = some (.ref aE)) (nof_place : PySem.W.findIn K (.ref aE) "place" = some none) : OexI P w K mg base 1 "TreeError" aE (sp_TreeError aE) := by
  refine ⟨fI, _, ["self", "place"], U.oex, iC, tI, fn_sup (N := ["self", "place"]) (k := 0) lk hcd sup_TreeError U (by rfl) (by rfl) (by rfl) (fun vs H Q E h => ?_) (fun _ => by rfl) (fun _ => ⟨_, by rfl⟩) (fun _ => by rfl) (fun _ => by rfl) (fun A outer s H vs Q E hr h => ?_), .all fun us hl => match us, hl with | [_, _], _ => rfl, hm⟩
  · obtain ⟨x, n, rfl, _⟩ := h; rfl
  · obtain ⟨x, n, rfl, hn, hx, k⟩ := h
    refine ⟨x, _, _, rfl, hx, (pa_cons (pe_op (op_addK K) pe_str (pe_callTy (call_strU (hu64 hr)) (by rfl) T.n_str (by decide +kernel) (pa_cons (pv 1) pa_nil))) pa_nil), (pss_one (ps_ost (pv 0) (pv 1))), ?_⟩
    show (_ : TA) [some (.ref x), some (.int n)] H _
    have q1 := num_big (n := n) (by omega)
    have q2 : (Str.ofString "tree fault at ").length = 14 := by decide +kernel
    walk_at "rd"
    refine st_int (log_big (by omega)) ?_
    walk_at "rd"
    refine ⟨hx, ?_⟩
    walk_at "rd"
    exact ⟨x, aE, rfl, U.oex, nof_place, .inl ⟨hx, fun d hd hdx => k d hd hdx⟩⟩
theorem cal_char_of {f : Addr} {fd : FuncData} (T : Txt mg) (FD : C8.Def K mg "char_of" s_char_of f fd) (b : Binds K fd ["notation", "place", "chars"] [])
    (c_TreeError : OexI P w K mg base 1 "TreeError" aE (sp_TreeError aE)) : CalX P w K mg base 3 "char_of" (sp_char_of aE) := by
  refine calX FD b sc_char_of (fun vs H Q E h => ?_) (fun cdv A outer s H vs Q E hr h => ?_)
  · obtain ⟨z, S, i, s, p, rfl, _⟩ := h; rfl
  · obtain ⟨z, S, i, s, p, rfl, hA, hp, k1, k2⟩ := h
    refine ⟨_, (pss_cons (ps_if (PW.pt (pw_or (pt_cmpR op_geU (pv 1) (pe_callB (call_lenK K) (by rfl) T.n_len PySem.boot_len (pa_cons (pv 0) pa_nil)) (nomark _)) (pw_or1 (pt_cmpR (op_notInK K) (pe_ix (ix_K K) (pv 0) (pv 1) (fun _ _ => rfl)) (pv 2) rfl)))) (pss_one (ps_raise rfl (takes_of rfl rfl rfl rfl) (pm_x c_TreeError hr (by decide) (by rfl) (pa_cons (pv 1) pa_nil)))) pss_nil)
  (PSs.nox (pss_one (ps_ret (pe_ix (ix_K K) (pv 0) (pv 1) (fun _ _ => rfl)))))), ?_⟩
    show (_ : TS) _ [some (.str z), some (.int i), some (.str S)] H
    have hzl : z.length ≤ sizeLine := sz_le (by have := hA.m; omega)
    have hln := hA.len
    have hm := hA.m
    have bad : ∀ (n : Nat), n = i → BadP aE n H E → ∀ a, H a = none → sp_TreeError aE (.ref a :: ([V.int (i : Nat)] ++ [])) (upd H a (exo a aE none)) (fun v H2 => v = .non ∧ ∃ (d : Addr) (fs : List (Str × V)), H2 a = some (exo a aE (some d)) ∧ H2 d = some (exd d fs) ∧ H d = none ∧ E (.ref aE) (some d) (upd (del H2 a) d (.xd fs))) (fun _ _ _ => False) := by
      intro n en hb
      subst en
      refine mkO1 (vs := [.int (n : Nat)]) [("place", .int n)] hb fun a Q' ha h => ?_
      exact ⟨a, n, rfl, by omega, upd_same, fun d hd hda => h d (by rw [upd_ne hda] at hd; exact hd) hda⟩
    cases s with
    | nil =>
      walk_at "rd"
      have hl0 : ([] : List Nat).length = 0 := rfl
      refine ifDy (by omega) ?_
      walk_at "rd"
      exact bad _ (by omega) (k2 [] rfl)
    | cons c t =>
      have hat : atI z.cps.toList ((i : Nat) : Int) = some c := hA.at_ rfl
      have hl1 : (c :: t).length = t.length + 1 := rfl
      walk_at "rd"
      refine ifDn (by omega) ?_
      walk_at "rd"
      rw [hp c]
      cases hc : p c with
      | false =>
        walk_at "rd"
        exact bad _ (by omega) (k2 (c :: t) (ch_no (by rw [hc]; decide)))
      | true =>
        walk_at "rd"
        exact k1 c t rfl hc
end
end Z
namespace Z
open PySem PySem.Spec L2 ItX
local macro_rules | `(tactic| walk_at "ne") => `(tactic| first
  | with_reducible assumption
  | with_reducible exact Ne.symm (by assumption)
  | exact Frs.ne (by with_reducible assumption) (by walk_at "hp")
  | exact Frs.ne' (by with_reducible assumption) (by walk_at "hp"))
local macro_rules | `(tactic| walk_at "hp") => `(tactic| first
  | with_reducible assumption
  | (with_reducible refine Same.at (by assumption) ?_; walk_at "hp")
  | (with_reducible refine SL.tup (by assumption) ?_; walk_at "hp")
  | (with_reducible refine SL.at (by assumption) (by walk_at "ne") ?_; walk_at "hp"))
local macro_rules | `(tactic| walk_at "sz") => `(tactic| first
  | with_reducible assumption
  | exact Nat.le_of_ble_eq_true rfl
  | (refine sz_le ?_; omega)
  | (refine sz_lt ?_; omega)
  | decide +kernel)
local macro_rules | `(tactic| walk_at "at") => `(tactic| first
  | with_reducible assumption
  | with_reducible exact at0
  | with_reducible exact at1
  | with_reducible exact at2
  | with_reducible exact ixN0)
local macro_rules | `(tactic| walk_at "nn") => `(tactic| first
  | omega
  | decide
  | exact ⟨by decide, by decide⟩
  | exact ⟨by omega, by omega⟩
  | exact ⟨by omega, by omega, by omega, by omega⟩)
local macro_rules | `(tactic| walk_at "rdv") => `(tactic| first
  | (with_reducible refine add_int ?_)
  | (with_reducible refine sub_int ?_)
  | (with_reducible refine neg_int ?_)
  | ((with_reducible refine ix_tpl (xs := ?xs) (v := ?v) ?h1 ?h2 ?_); (case h1 => walk_at "hp"); (case h2 => walk_at "at"))
  | ((with_reducible refine ix_lst (xs := ?xs) (v := ?v) ?h1 ?h2 ?_); (case h1 => walk_at "hp"); (case h2 => walk_at "at"))
  | (with_reducible refine eq_int ?_)
  | (with_reducible refine ne_int ?_)
  | (with_reducible refine lt_int ?_)
  | (with_reducible refine le_int ?_)
  | (with_reducible refine gt_int ?_)
  | (with_reducible refine ge_int ?_)
  | (with_reducible refine eq_str ?_)
  | (with_reducible refine ne_str ?_)
  | (with_reducible refine eq_bl ?_)
  | (with_reducible refine ne_bl ?_)
  | ((with_reducible refine mod_int ?hc ?_); (case hc => walk_at "nn"))
  | ((with_reducible refine div_int ?hc ?_); (case hc => walk_at "nn"))
  | ((with_reducible refine mul_intR ?hc ?_); (case hc => exact ⟨by decide, by decide⟩))
  | ((with_reducible refine mul_intR ?hc ?_); (case hc => exact ⟨by omega, by omega⟩))
  | ((with_reducible refine mul_intL ?hc ?_); (case hc => exact ⟨by omega, by omega⟩))
  | ((with_reducible refine pow_int ?hc ?_); (case hc => exact ⟨by decide, by decide, by decide⟩))
  | ((with_reducible refine add_str ?hc ?_); (case hc => walk_at "sz"))
  | ((with_reducible refine add_lst (xs := ?xs) (ys := ?ys) ?h1 ?h2 ?hc ?_); (case h1 => walk_at "hp"); (case h2 => walk_at "hp"); (case hc => walk_at "sz"))
  | ((with_reducible refine sl_strU ?hc ?_); (case hc => walk_at "sz"))
  | ((with_reducible refine sl_lst (xs := ?xs) ?h1 ?_); (case h1 => walk_at "hp"))
  | (with_reducible refine is_bl ?_)
  | (with_reducible refine isnt_bl ?_)
  | (with_reducible refine is_non ?_)
  | (with_reducible refine isnt_non ?_))
local macro_rules | `(tactic| walk_at "rdc") => `(tactic| first
  | ((with_reducible refine len_lst (xs := ?xs) ?h1 ?_); (case h1 => walk_at "hp"))
  | ((with_reducible refine len_tup (xs := ?xs) ?h1 ?_); (case h1 => walk_at "hp"))
  | ((with_reducible refine len_str ?hc ?_); (case hc => walk_at "sz"))
  | (with_reducible refine int_int ?_)
  | (with_reducible refine max_int ?_)
  | (with_reducible refine min_int ?_)
  | (with_reducible refine abs_int ?_)
  | (with_reducible refine isi_ii ?_)
  | (with_reducible refine isi_ib ?_)
  | (with_reducible refine isi_ss ?_)
  | (with_reducible refine isi_bb ?_)
  | ((with_reducible refine isi_tt (xs := ?xs) ?h1 ?_); (case h1 => walk_at "hp"))
  | ((with_reducible refine isi_ll (xs := ?xs) ?h1 ?_); (case h1 => walk_at "hp"))
  | ((with_reducible refine list_lst (xs := ?xs) ?h1 ?_); (case h1 => walk_at "hp"))
  | ((with_reducible refine list_tup (xs := ?xs) ?h1 ?_); (case h1 => walk_at "hp"))
  | ((with_reducible refine tuple_lst (xs := ?xs) ?h1 ?_); (case h1 => walk_at "hp"))
  | ((with_reducible refine tuple_tup (xs := ?xs) ?h1 ?_); (case h1 => walk_at "hp"))
  | ((with_reducible refine append_lst (xs := ?xs) ?h1 ?hc ?_); (case h1 => walk_at "hp"); (case hc => walk_at "sz"))
  | ((with_reducible refine clear_lst (xs := ?xs) ?h1 ?_); (case h1 => walk_at "hp"))
  | ((with_reducible refine set_lst (xs := ?xs) (k := ?k) ?h1 ?h2 ?_); (case h1 => walk_at "hp"); (case h2 => walk_at "at")))
local macro_rules | `(tactic| walk_at "rd1") => `(tactic| first
  | ((with_reducible refine rVar (v := ?v) ?h ?_); (case h => exact rfl))
  | (with_reducible refine rC ?_)
  | (with_reducible refine rCons ?_)
  | (with_reducible refine rNil ?_)
  | (with_reducible refine rOp ?_)
  | (with_reducible refine rSeq ?_)
  | (with_reducible refine rAsgN ?_)
  | (with_reducible refine rAsgT ?_)
  | (with_reducible refine rAsgS ?_)
  | (with_reducible refine rTest ?_)
  | (with_reducible refine rBl ?_)
  | (with_reducible refine rBl' ?_)
  | (with_reducible refine rInt ?_)
  | (with_reducible refine rInt' ?_)
  | (with_reducible refine rCall ?_)
  | (with_reducible refine rCB ?_)
  | (with_reducible refine rRet ?_)
  | (with_reducible refine rDrop ?_)
  | (with_reducible refine rIfS ?_)
  | (with_reducible refine rTup ?_)
  | (with_reducible refine rLst ?_)
  | (with_reducible refine ⟨Nat.le_of_ble_eq_true rfl, ?_⟩)
  | (with_reducible refine rSl ?_)
  | (with_reducible refine rPart ?_)
  | (with_reducible refine rNoPart ?_)
  | (with_reducible refine rBM ?_)
  | (with_reducible refine rBM0 ?_)
  | ((with_reducible refine tyL (xs := ?xs) ?h1 ?_); (case h1 => walk_at "hp"))
  | (with_reducible refine rM1 ?_)
  | (with_reducible refine rM0 ?_)
  | (with_reducible refine rStr ?_)
  | (with_reducible refine rTru ?_)
  | (with_reducible refine tru_bl ?_)
  | (with_reducible refine tru_int ?_)
  | ((with_reducible refine tru_lst (xs := ?xs) ?h1 ?_); (case h1 => walk_at "hp"))
  | ((with_reducible refine tru_tup (xs := ?xs) ?h1 ?_); (case h1 => walk_at "hp"))
  | ((with_reducible refine tru_str ?hc ?_); (case hc => walk_at "sz"))
  | (with_reducible refine rAnd ?_)
  | (with_reducible refine rOr ?_)
  | (with_reducible refine rNot ?_)
  | (with_reducible refine rAndV ?_)
  | (with_reducible refine rOrV ?_)
  | (with_reducible refine rNotV ?_)
  | (with_reducible refine rIfE ?_)
  | (with_reducible refine rChain ?_)
  | (with_reducible refine rChain3 ?_)
  | (with_reducible refine ifT ?_)
  | (with_reducible refine ifF ?_)
  | (with_reducible refine ifNF ?_)
  | (with_reducible refine ifNT ?_)
  | (with_reducible refine rNext ?_)
  | (with_reducible refine rBrk ?_)
  | (with_reducible refine rCnt ?_)
  | (with_reducible refine rRetN ?_)
  | (with_reducible refine rForR1 ?_)
  | (with_reducible refine rForR2 ?_)
  | (with_reducible refine rForL ?_)
  | ((with_reducible refine rRg1 ?hb ?_); (case hb => walk_at "nn"))
  | ((with_reducible refine rRg2 ?hb ?_); (case hb => walk_at "nn"))
  | ((with_reducible refine rRf (xs := ?xs) ?h1 ?_); (case h1 => walk_at "hp"))
  | (with_reducible refine rLcR1 ?_)
  | (with_reducible refine rLcR2 ?_)
  | (with_reducible refine rLcL ?_)
  | (with_reducible refine gN ?_)
  | (with_reducible refine gNl ?_)
  | (with_reducible refine gC ?_)
  | ((with_reducible refine gT (xs := ?xs) ?h1 ?h2 ?_); (case h1 => walk_at "hp"); (case h2 => exact rfl))
  | (with_reducible refine rUn ?_)
  | walk_at "rdv"
  | walk_at "rdc")
local macro_rules | `(tactic| walk_at "rd") => `(tactic| repeat walk_at "rd1")

local macro_rules | `(tactic| walk_at "rd1") => `(tactic| first
  | (with_reducible refine rCallS ?_)
  | (with_reducible refine rRaise ?_)
  | (with_reducible refine rXf ?_)
  | (with_reducible refine rXi ?_)
  | (with_reducible refine rOst ?_)
  | (with_reducible refine rRevL ?_)
  | ((with_reducible refine revL_end (xs := ?xs) ?h1 ?_); (case h1 => walk_at "hp")))

local macro_rules | `(tactic| walk_at "rd1") => `(tactic| first
  | (with_reducible refine rForR3 ?_)
  | ((with_reducible refine rRgD ?hb ?_); (case hb => walk_at "nn"))
  | (with_reducible refine gS ?_))

local macro_rules | `(tactic| walk_at "rd1") => `(tactic| first
  | (with_reducible refine nin_sign ?_)
  | (with_reducible refine in_sign ?_)
  | (with_reducible refine rForET ?_)
  | (with_reducible refine rForEL ?_)
  | (with_reducible refine rLcRev ?_)
  | ((with_reducible refine ix_str (c := ?c) ?hl ?h2 ?_); (case hl => walk_at "sz"); (case h2 => with_reducible assumption))
  | (with_reducible refine rAsgU ?_)
  | ((with_reducible refine gUl (xs := ?xs) ?h1 ?h2 ?_); (case h1 => walk_at "hp"); (case h2 => exact rfl)))

theorem err_to {α β : Type} {e e' : List Nat} (h : (.error e : Pz α) = .error e') : (.error e : Pz β) = .error e' := by cases h; rfl
theorem name_err {s e : List Nat} (h : chP isLet s = .error e) : nameP s = .error e := by
  cases s with
  | nil => exact err_to h
  | cons c t =>
    by_cases c1 : isLet c = true
    · rw [ch_ok c1] at h; cases h
    · rw [ch_no c1] at h
      rw [show nameP (c :: t) = .error (c :: t) from if_neg c1]
      exact err_to h
section
variable {p : Nat → Bool} {t : List Nat} {j : Nat}
theorem tw_len : (t.takeWhile p).length ≤ t.length := (List.takeWhile_prefix (l := t) p).length_le
theorem tw_at (h : j < (t.takeWhile p).length) : ∃ c, t[j]? = some c ∧ p c = true := by
  have e := List.takeWhile_append_dropWhile (p := p) (l := t)
  have h1 : (t.takeWhile p)[j]? = some (t.takeWhile p)[j] := List.getElem?_eq_getElem h
  refine ⟨_, ?_, List.all_eq_true.mp (List.all_takeWhile (p := p) (l := t)) _ (List.getElem_mem h)⟩
  conv => lhs; rw [← e]
  rw [List.getElem?_append_left h, h1]
theorem tw_stop (h : j = (t.takeWhile p).length) : ∀ c, t[j]? = some c → p c = false := by
  intro c hc
  have e := List.takeWhile_append_dropWhile (p := p) (l := t)
  rw [← e, List.getElem?_append_right (by omega), h, Nat.sub_self] at hc
  cases hd : t.dropWhile p with
  | nil => rw [hd] at hc; cases hc
  | cons b u =>
    rw [hd] at hc
    cases hc
    have h2 := List.head_dropWhile_not p (l := t) (by rw [hd]; exact fun q => nomatch q)
    simpa [hd] using h2
theorem tw_go {c : Nat} (h : j ≤ (t.takeWhile p).length) (hc : t[j]? = some c) (hp : p c = true) : j + 1 ≤ (t.takeWhile p).length := by
  rcases Nat.lt_or_ge j (t.takeWhile p).length with q | q
  · omega
  · have := tw_stop (p := p) (show j = (t.takeWhile p).length by omega) c hc
    rw [hp] at this
    cases this
theorem tw_fin (h : j ≤ (t.takeWhile p).length) (hc : ∀ c, t[j]? = some c → p c = false) : j = (t.takeWhile p).length := by
  rcases Nat.lt_or_ge j (t.takeWhile p).length with q | q
  · obtain ⟨c, h1, h2⟩ := tw_at q
    rw [hc c h1] at h2
    cases h2
  · omega
end
theorem At.drop {z : Str} {i : Nat} {t : List Nat} (h : At z i t) {j : Nat} (hj : j ≤ t.length) : At z (i + j) (t.drop j) := by
  have h1 : At z i (t.take j ++ t.drop j) := by rw [List.take_append_drop]; exact h
  have h2 := h1.next
  rw [List.length_take, Nat.min_eq_left hj] at h2
  exact h2
theorem quo_go {n : Nat} {s s' w0 w r : List Nat} (hq : quoP s = match litP (n + 1) s' with | .error e => .error e | .ok (w', r') => .ok (34 :: (w0 ++ w'), r')) (h0 : s'.head? ≠ some 34) (hw : wcP s' = .ok (w, r)) :
    quoP s = match litP n r with | .error e => .error e | .ok (w', r') => .ok (34 :: ((w0 ++ w) ++ w'), r') := by
  have e1 : litP (n + 1) s' = match litP n r with | .error e => .error e | .ok (w', r') => .ok (w ++ w', r') := by rw [lit_go h0, hw] <;> rfl
  rw [hq, e1]
  cases litP n r with
  | error e => rfl
  | ok a =>
    obtain ⟨w', r'⟩ := a
    show Except.ok (34 :: (w0 ++ (w ++ w')), r') = Except.ok (34 :: ((w0 ++ w) ++ w'), r')
    rw [List.append_assoc]
theorem quo_err {n : Nat} {s s' w0 e : List Nat} (hq : quoP s = match litP (n + 1) s' with | .error e => .error e | .ok (w', r') => .ok (34 :: (w0 ++ w'), r')) (h0 : s'.head? ≠ some 34) (hw : wcP s' = .error e) : quoP s = .error e := by
  rw [hq, lit_go h0, hw]
theorem quo_end {n : Nat} {s s' w0 : List Nat} (hq : quoP s = match litP (n + 1) s' with | .error e => .error e | .ok (w', r') => .ok (34 :: (w0 ++ w'), r')) (h0 : s'.head? = some 34) : quoP s = .ok (34 :: (w0 ++ [34]), s'.tail) := by
  cases s' with
  | nil => cases h0
  | cons c t =>
    cases h0
    rw [hq, lit_end]
    rfl
section
variable {P : Program} {w : World} {K : PySem.W.Frag} {mg : Str → Option Value} {base : Heap} {aE : Addr}
theorem cal_name_end {f : Addr} {fd : FuncData} (T : Txt mg) (FD : C8.Def K mg "name_end" s_name_end f fd) (b : Binds K fd ["notation", "place"] [])
    (c_char_of : CalX P w K mg base 3 "char_of" (sp_char_of aE)) : CalX P w K mg base 4 "name_end" (sp_name_end aE) := by
  refine calX FD b sc_name_end (fun vs H Q E h => ?_) (fun cdv A outer s H vs Q E hr h => ?_)
  · obtain ⟨z, i, s, rfl, _⟩ := h; rfl
  · obtain ⟨z, i, s, rfl, hA, k1, k2⟩ := h
    refine ⟨_, (pss_cons (ps_expr (pe_cx c_char_of (takes_of rfl rfl rfl rfl) hr (by decide) (by rfl) (pa_cons (pv 0) (pa_cons (pv 1) (pa_cons (pe_gs (by rfl) T.c_LETTERS) pa_nil)))))
  (PSs.nox (pss_cons (ps_set (i := 2) sc_name_end.nd rfl (.inl rfl) (pe_op (op_addK K) (pv 1) pe_int))
  (pss_cons (ps_while PassesOwn.never (PW.pt (pw_and (pt_cmpR op_ltU (pv 2) (pe_callB (call_lenK K) (by rfl) T.n_len PySem.boot_len (pa_cons (pv 0) pa_nil)) (nomark _)) (pw_and1 (pt_cmpR (op_inK K) (pe_ix (ix_K K) (pv 0) (pv 2) (fun _ _ => rfl)) (pe_gs (by rfl) T.c_NAME_CHARS) rfl)))) (pss_one (ps_set (i := 2) sc_name_end.nd rfl (.inl rfl) (pe_op (op_addK K) (pv 2) pe_int))))
  (pss_one (ps_ret (pv 2))))))), ?_⟩
    show (_ : TS) _ [some (.str z), some (.int i), none] H
    have hzl : z.length ≤ sizeLine := sz_le (by have := hA.m; omega)
    walk_at "rd"
    refine use_char_of rfl hA mem_let (fun c t hs hc => ?_) (fun e he => k2 e (name_err he))
    subst hs
    have hf : nameP (c :: t) = .ok (c :: t.takeWhile isNmc, t.dropWhile isNmc) := if_pos hc
    have hAt := hA.tail
    have hln := hAt.len
    have hm := hA.m
    walk_at "rd"
    refine whileC (fun m σ' H' => ∃ j : Nat, σ' = [some (.str z), some (.int i), some (.int ((i : Int) + 1 + (j : Nat)))] ∧ H' = H ∧ j ≤ (t.takeWhile isNmc).length ∧ m = t.length - j)
      (fun σ' H' => σ' = [some (.str z), some (.int i), some (.int ((i : Int) + 1 + ((t.takeWhile isNmc).length : Nat)))] ∧ H' = H) (m := t.length) ⟨0, by rw [show ((i : Int) + 1 + (0 : Nat)) = (i : Int) + 1 by omega]; rfl, rfl, Nat.zero_le _, rfl⟩ ?_ ?_
    · rintro nx' hnx m σ' H' ⟨j, rfl, rfl, hj, rfl⟩
      have htl := tw_len (p := isNmc) (t := t)
      have hAj := hAt.drop (j := j) (by omega)
      have hlj := hAj.len
      have fin : (∀ c, t[j]? = some c → isNmc c = false) → nx' [some (.str z), some (.int i), some (.int ((i : Int) + 1 + (j : Nat)))] H' := fun q => by
        have e := tw_fin hj q
        refine hnx _ _ ⟨?_, rfl⟩
        rw [← e]
      cases hd : t.drop j with
      | nil =>
        rw [hd] at hlj
        have hl0 : ([] : List Nat).length = 0 := rfl
        walk_at "rd"
        refine ifDn (by omega) ?_
        walk_at "rd"
        refine fin fun c hc => ?_
        rw [← List.head?_drop, hd] at hc
        cases hc
      | cons b u =>
        rw [hd] at hAj hlj
        have hl1 : (b :: u).length = u.length + 1 := rfl
        have hat : atI z.cps.toList ((i : Int) + 1 + (j : Nat)) = some b := hAj.at_ (by omega)
        have hget : t[j]? = some b := by rw [← List.head?_drop, hd]; rfl
        walk_at "rd"
        refine ifDy (by omega) ?_
        walk_at "rd"
        rw [mem_nmc]
        cases hb : isNmc b with
        | true =>
          refine ifT (wGo ?_)
          have hgo := tw_go hj hget hb
          walk_at "rd"
          exact ⟨t.length - (j + 1), by omega, j + 1, by rw [show ((i : Int) + 1 + (j : Nat) + 1) = (i : Int) + 1 + ((j + 1 : Nat) : Int) by omega]; rfl, rfl, hgo, rfl⟩
        | false =>
          walk_at "rd"
          exact fin fun c hc => by rw [hget] at hc; cases hc; exact hb
    · rintro σ' H' ⟨rfl, rfl⟩
      walk_at "rd"
      have := k1 _ _ hf
      rw [show ((i + (c :: t.takeWhile isNmc).length : Nat) : Int) = (i : Int) + 1 + ((t.takeWhile isNmc).length : Nat) by rw [List.length_cons]; omega] at this
      exact this
theorem cal_written_char_end {f : Addr} {fd : FuncData} (T : Txt mg) (FD : C8.Def K mg "written_char_end" s_written_char_end f fd) (b : Binds K fd ["notation", "place"] [])
    (c_char_of : CalX P w K mg base 3 "char_of" (sp_char_of aE)) : CalX P w K mg base 4 "written_char_end" (sp_written_char_end aE) := by
  refine calX FD b sc_written_char_end (fun vs H Q E h => ?_) (fun cdv A outer s H vs Q E hr h => ?_)
  · obtain ⟨z, i, s, rfl, _⟩ := h; rfl
  · obtain ⟨z, i, s, rfl, hA, k1, k2⟩ := h
    refine ⟨_, (pss_cons (ps_if (pt_cmpR (op_eqK K (hu64 hr)) (pe_slice (sl_K K) (pv 0) (po_some (pv 1)) (po_some (pe_op (op_addK K) (pv 1) pe_int))) pe_str (nomark _)) (pss_cons (ps_expr (pe_cx c_char_of (takes_of rfl rfl rfl rfl) hr (by decide) (by rfl) (pa_cons (pv 0) (pa_cons (pe_op (op_addK K) (pv 1) pe_int) (pa_cons (pe_gs (by rfl) T.c_ESCAPED_CHARS) pa_nil)))))
  (PSs.nox (pss_one (ps_ret (pe_op (op_addK K) (pv 1) pe_int))))) pss_nil)
  (pss_cons (ps_expr (pe_cx c_char_of (takes_of rfl rfl rfl rfl) hr (by decide) (by rfl) (pa_cons (pv 0) (pa_cons (pv 1) (pa_cons (pe_gs (by rfl) T.c_LITERAL_CHARS) pa_nil)))))
  (PSs.nox (pss_one (ps_ret (pe_op (op_addK K) (pv 1) pe_int)))))), ?_⟩
    show (_ : TS) _ [some (.str z), some (.int i)] H
    have hzl : z.length ≤ sizeLine := sz_le (by have := hA.m; omega)
    walk_at "rd"
    rw [hA.slice (c := 92) (by decide +kernel) rfl rfl]
    refine ifD (fun hc => ?_) (fun hc => ?_)
    · cases s with
      | nil => cases hc
      | cons c t =>
        cases hc
        walk_at "rd"
        refine use_char_of (i := i + 1) (by omega) hA.tail mem_esc (fun e u hs he => ?_) (fun e he => k2 e ?_)
        · subst hs
          walk_at "rd"
          have := k1 _ _ (wc_esc he)
          rw [show ((i + ([92, e] : List Nat).length : Nat) : Int) = (i : Int) + 2 by show ((i + 2 : Nat) : Int) = _; omega] at this
          exact this
        · cases t with
          | nil => exact err_to he
          | cons b u =>
            by_cases c1 : isEsc b = true
            · rw [ch_ok c1] at he; cases he
            · rw [ch_no c1] at he
              rw [wc_noesc c1]
              exact err_to he
    · walk_at "rd"
      refine use_char_of rfl hA mem_lit (fun c t hs hl => ?_) (fun e he => k2 e ?_)
      · subst hs
        walk_at "rd"
        have := k1 _ _ (wc_lit (fun e => hc (by rw [e]; rfl)) hl)
        rw [show ((i + ([c] : List Nat).length : Nat) : Int) = (i : Int) + 1 by show ((i + 1 : Nat) : Int) = _; omega] at this
        exact this
      · cases s with
        | nil => exact err_to he
        | cons b u =>
          by_cases c1 : isLit b = true
          · rw [ch_ok c1] at he; cases he
          · rw [ch_no c1] at he
            rw [wc_nolit (fun e => hc (by rw [e]; rfl)) c1]
            exact err_to he
theorem cal_literal_end {f : Addr} {fd : FuncData} (T : Txt mg) (FD : C8.Def K mg "literal_end" s_literal_end f fd) (b : Binds K fd ["notation", "place"] [])
    (c_written_char_end : CalX P w K mg base 4 "written_char_end" (sp_written_char_end aE)) : CalX P w K mg base 5 "literal_end" (sp_literal_end aE) := by
  refine calX FD b sc_literal_end (fun vs H Q E h => ?_) (fun cdv A outer s H vs Q E hr h => ?_)
  · obtain ⟨z, i, s, rfl, _⟩ := h; rfl
  · obtain ⟨z, i, s, rfl, hA, h34, k1, k2⟩ := h
    refine ⟨_, (pss_cons (ps_set (i := 2) sc_literal_end.nd rfl (.inl rfl) (pe_cx c_written_char_end (takes_of rfl rfl rfl rfl) hr (by decide) (by rfl) (pa_cons (pv 0) (pa_cons (pe_op (op_addK K) (pv 1) pe_int) pa_nil))))
  (pss_cons (ps_while (passes_of rfl) (pt_cmpR (op_neK K (hu64 hr)) (pe_slice (sl_K K) (pv 0) (po_some (pv 2)) (po_some (pe_op (op_addK K) (pv 2) pe_int))) pe_str (nomark _)) (pss_one (ps_set (i := 2) sc_literal_end.nd rfl (.inl rfl) (pe_cx c_written_char_end (takes_of rfl rfl rfl rfl) hr (by decide) (by rfl) (pa_cons (pv 0) (pa_cons (pv 2) pa_nil))))))
  (PSs.nox (pss_one (ps_ret (pe_op (op_addK K) (pv 2) pe_int)))))), ?_⟩
    show (_ : TS) _ [some (.str z), some (.int i), none] H
    have hzl : z.length ≤ sizeLine := sz_le (by have := hA.m; omega)
    cases s with
    | nil => cases h34
    | cons c t =>
      cases h34
      have hAt := hA.tail
      walk_at "rd"
      refine use_end_ (f := wcP) (i := i + 1) (by omega) hAt (fun w r hw => ?_) (fun e he => k2 e ?_)
      · have hcut := (wcP_cut hw).1
        have hA1 : At z (i + 1) (w ++ r) := by rw [← hcut]; exact hAt
        have hq0 : quoP (34 :: t) = match litP (r.length + 1) r with | .error e => .error e | .ok (w', r') => .ok (34 :: (w ++ w'), r') := by
          unfold quoP
          rw [show (34 :: t : List Nat).tail = t from rfl, hw] <;> rfl
        walk_at "rd"
        refine whileC (fun m σ' H' => ∃ (n : Nat) (w0 s' : List Nat), σ' = [some (.str z), some (.int i), some (.int ((i + 1 + w0.length : Nat) : Int))] ∧ H' = H ∧ At z (i + 1 + w0.length) s' ∧ (quoP (34 :: t) = match litP n s' with | .error e => .error e | .ok (w', r') => .ok (34 :: (w0 ++ w'), r')) ∧ s'.length < n ∧ m = s'.length)
          (fun σ' H' => ∃ (w0 r' : List Nat), σ' = [some (.str z), some (.int i), some (.int ((i + 1 + w0.length : Nat) : Int))] ∧ H' = H ∧ quoP (34 :: t) = .ok (34 :: (w0 ++ [34]), r')) (m := r.length) ⟨r.length + 1, w, r, rfl, rfl, hA1.next, hq0, Nat.lt_succ_self _, rfl⟩ ?_ ?_
        · rintro nx' hnx m σ' H' ⟨n, w0, s', rfl, rfl, hAs, hq, hn, rfl⟩
          obtain ⟨n, rfl⟩ : ∃ n', n = n' + 1 := ⟨n - 1, by omega⟩
          walk_at "rd"
          rw [hAs.slice (c := 34) (by decide +kernel) rfl rfl]
          refine ifND (fun h0 => ?_) (fun h0 => ?_)
          · refine wGo ?_
            walk_at "rd"
            refine use_end_ (f := wcP) rfl hAs (fun w1 r1 hw1 => ?_) (fun e he => k2 e (quo_err hq h0 he))
            obtain ⟨hc1, hne⟩ := wcP_cut hw1
            have hA2 : At z (i + 1 + w0.length) (w1 ++ r1) := by rw [← hc1]; exact hAs
            have hl1 : s'.length = w1.length + r1.length := by rw [hc1, List.length_append]
            have hwl : 0 < w1.length := List.length_pos_iff.mpr hne
            walk_at "rd"
            refine ⟨r1.length, by omega, n, w0 ++ w1, r1, by rw [List.length_append, ← Nat.add_assoc]; rfl, rfl, by rw [List.length_append, ← Nat.add_assoc]; exact hA2.next, quo_go hq h0 hw1, by omega, rfl⟩
          · exact hnx _ _ ⟨w0, s'.tail, rfl, rfl, quo_end hq h0⟩
        · rintro σ' H' ⟨w0, r', rfl, rfl, hq⟩
          walk_at "rd"
          have := k1 _ _ hq
          rw [show ((i + (34 :: (w0 ++ [34]) : List Nat).length : Nat) : Int) = ((i + 1 + w0.length : Nat) : Int) + 1 by rw [List.length_cons, List.length_append]; show ((i + (w0.length + 1 + 1) : Nat) : Int) = _; omega] at this
          exact this
      · unfold quoP
        rw [show (34 :: t : List Nat).tail = t from rfl, he]
theorem cal_word_end {f : Addr} {fd : FuncData} (T : Txt mg) (FD : C8.Def K mg "word_end" s_word_end f fd) (b : Binds K fd ["notation", "place"] [])
    (c_name_end : CalX P w K mg base 4 "name_end" (sp_name_end aE))
    (c_literal_end : CalX P w K mg base 5 "literal_end" (sp_literal_end aE)) : CalX P w K mg base 6 "word_end" (sp_word_end aE) := by
  refine calX FD b sc_word_end (fun vs H Q E h => ?_) (fun cdv A outer s H vs Q E hr h => ?_)
  · obtain ⟨z, i, s, rfl, _⟩ := h; rfl
  · obtain ⟨z, i, s, rfl, hA, k1, k2⟩ := h
    refine ⟨_, (pss_cons (ps_if (pt_cmpR (op_eqK K (hu64 hr)) (pe_slice (sl_K K) (pv 0) (po_some (pv 1)) (po_some (pe_op (op_addK K) (pv 1) pe_int))) pe_str (nomark _)) (pss_one (ps_ret (pe_cx c_literal_end (takes_of rfl rfl rfl rfl) hr (by decide) (by rfl) (pa_cons (pv 0) (pa_cons (pv 1) pa_nil))))) pss_nil)
  (pss_one (ps_ret (pe_cx c_name_end (takes_of rfl rfl rfl rfl) hr (by decide) (by rfl) (pa_cons (pv 0) (pa_cons (pv 1) pa_nil)))))), ?_⟩
    show (_ : TS) _ [some (.str z), some (.int i)] H
    have hzl : z.length ≤ sizeLine := sz_le (by have := hA.m; omega)
    walk_at "rd"
    rw [hA.slice (c := 34) (by decide +kernel) rfl rfl]
    refine ifD (fun hc => ?_) (fun hc => ?_)
    · have e : wordP s = quoP s := if_pos hc
      rw [e] at k1 k2
      walk_at "rd"
      exact ⟨z, i, s, rfl, hA, hc, k1, k2⟩
    · have e : wordP s = nameP s := if_neg hc
      rw [e] at k1 k2
      walk_at "rd"
      exact ⟨z, i, s, rfl, hA, k1, k2⟩
theorem cal_number_end {f : Addr} {fd : FuncData} (T : Txt mg) (FD : C8.Def K mg "number_end" s_number_end f fd) (b : Binds K fd ["notation", "place", "least"] [])
    (c_char_of : CalX P w K mg base 3 "char_of" (sp_char_of aE)) : CalX P w K mg base 4 "number_end" (sp_number_end aE) := by
  refine calX FD b sc_number_end (fun vs H Q E h => ?_) (fun cdv A outer s H vs Q E hr h => ?_)
  · obtain ⟨z, i, s, l, rfl, _⟩ := h; rfl
  · obtain ⟨z, i, s, l, rfl, hA, k1, k2⟩ := h
    refine ⟨_, (pss_cons (ps_if (PW.pt (pw_and (pt_cmpR op_ltU (pv 2) pe_int (nomark _)) (pw_and1 (pt_cmpR (op_eqK K (hu64 hr)) (pe_slice (sl_K K) (pv 0) (po_some (pv 1)) (po_some (pe_op (op_addK K) (pv 1) pe_int))) pe_str (nomark _))))) (pss_cons (ps_expr (pe_cx c_char_of (takes_of rfl rfl rfl rfl) hr (by decide) (by rfl) (pa_cons (pv 0) (pa_cons (pe_op (op_addK K) (pv 1) pe_int) (pa_cons pe_str pa_nil)))))
  (PSs.nox (pss_one (ps_ret (pe_op (op_addK K) (pv 1) pe_int))))) pss_nil)
  (pss_cons (ps_set (i := 3) sc_number_end.nd rfl (.inl rfl) (pe_cx c_char_of (takes_of rfl rfl rfl rfl) hr (by decide) (by rfl) (pa_cons (pv 0) (pa_cons (pv 1) (pa_cons (pe_gs (by rfl) T.c_DIGITS) pa_nil)))))
  (PSs.nox (pss_cons (ps_set (i := 4) sc_number_end.nd rfl (.inl rfl) (pe_op (op_addK K) (pv 1) pe_int))
  (pss_cons (ps_while PassesOwn.never (PW.pt (pw_and (pt_cmpR (op_neK K (hu64 hr)) (pv 3) pe_str (nomark _)) (pw_and (pt_cmpR op_ltU (pv 4) (pe_op (op_addK K) (pv 1) (pe_gi (by rfl) T.c_MOST_DIGITS)) (nomark _)) (pw_and (pt_cmpR op_ltU (pv 4) (pe_callB (call_lenK K) (by rfl) T.n_len PySem.boot_len (pa_cons (pv 0) pa_nil)) (nomark _)) (pw_and1 (pt_cmpR (op_inK K) (pe_ix (ix_K K) (pv 0) (pv 4) (fun _ _ => rfl)) (pe_gs (by rfl) T.c_DIGITS) rfl)))))) (pss_one (ps_set (i := 4) sc_number_end.nd rfl (.inl rfl) (pe_op (op_addK K) (pv 4) pe_int))))
  (pss_one (ps_ret (pv 4)))))))), ?_⟩
    show (_ : TS) _ [some (.str z), some (.int i), some (.int l), none, none] H
    have hzl : z.length ≤ sizeLine := sz_le (by have := hA.m; omega)
    have hm := hA.m
    refine rSeq ?_
    refine rIfC (fun H' => H' = H ∧ l < 0 ∧ s.head? = some 45) (fun H' => H' = H ∧ ¬ (l < 0 ∧ s.head? = some 45)) ?_ ?_ ?_
    · intro TA TB hA' hB'
      walk_at "rd"
      refine ifD (fun c1 => ?_) (fun c1 => ?_)
      · walk_at "rd"
        rw [hA.slice (c := 45) (by decide +kernel) rfl rfl]
        refine ifD (fun c2 => ?_) (fun c2 => ?_)
        · exact hA' _ ⟨rfl, c1, c2⟩
        · exact hB' _ ⟨rfl, fun q => c2 q.2⟩
      · walk_at "rd"
        exact hB' _ ⟨rfl, fun q => c1 q.1⟩
    · rintro H' ⟨rfl, hl, h45⟩
      cases s with
      | nil => cases h45
      | cons c t =>
        cases h45
        walk_at "rd"
        refine use_char_of (i := i + 1) (p := fun c => c == 49) (by omega) hA.tail (mem1 (by decide +kernel)) (fun c t hs hc => ?_) (fun e he => k2 e ?_)
        · subst hs
          have hc' : c = 49 := beq_iff_eq.mp hc
          subst hc'
          walk_at "rd"
          have := k1 [45, 49] t (by rw [num_minus hl]; exact if_pos rfl)
          rw [show ((i + ([45, 49] : List Nat).length : Nat) : Int) = (i : Int) + 2 by show ((i + 2 : Nat) : Int) = _; omega] at this
          exact this
        · rw [num_minus hl]
          cases t with
          | nil => exact err_to he
          | cons b u =>
            by_cases c1 : b = 49
            · subst c1
              rw [ch_ok (by rfl)] at he; cases he
            · rw [ch_no (by simpa using c1)] at he
              show (if b = 49 then _ else Except.error (b :: u)) = _
              rw [if_neg c1]
              exact err_to he
    · rintro H' ⟨rfl, hno⟩
      walk_at "rd"
      refine use_char_of rfl hA mem_dgt (fun c t hs hc => ?_) (fun e he => k2 e ?_)
      · subst hs
        have hAt := hA.tail
        have hln := hAt.len
        walk_at "rd"
        have hdw : (t.take 8).length ≤ t.length := by rw [List.length_take]; omega
        have htl := tw_len (p := isDgt) (t := t.take 8)
        have htl8 : (t.take 8).length ≤ 8 := by rw [List.length_take]; omega
        refine whileC (fun m σ' H'' => ∃ j : Nat, σ' = [some (.str z), some (.int i), some (.int l), some (.str ⟨#[c]⟩), some (.int ((i : Int) + 1 + (j : Nat)))] ∧ H'' = H' ∧ j ≤ ((t.take 8).takeWhile isDgt).length ∧ (c = 48 → j = 0) ∧ m = t.length - j)
          (fun σ' H'' => ∃ j : Nat, σ' = [some (.str z), some (.int i), some (.int l), some (.str ⟨#[c]⟩), some (.int ((i : Int) + 1 + (j : Nat)))] ∧ H'' = H' ∧ (c = 48 → j = 0) ∧ (c ≠ 48 → j = ((t.take 8).takeWhile isDgt).length)) (m := t.length) ⟨0, by rw [show ((i : Int) + 1 + (0 : Nat)) = (i : Int) + 1 by omega]; rfl, rfl, Nat.zero_le _, fun _ => rfl, rfl⟩ ?_ ?_
        · rintro nx' hnx m σ' H'' ⟨j, rfl, rfl, hj, hj0, rfl⟩
          have fin : (c ≠ 48 → ∀ b, (t.take 8)[j]? = some b → isDgt b = false) → nx' [some (.str z), some (.int i), some (.int l), some (.str ⟨#[c]⟩), some (.int ((i : Int) + 1 + (j : Nat)))] H'' := fun q => hnx _ _ ⟨j, rfl, rfl, hj0, fun h => tw_fin hj (q h)⟩
          walk_at "rd"
          rw [dec_sign (a := 48) (by decide +kernel)]
          refine ifND (fun c48 => ?_) (fun c48 => ?_)
          · walk_at "rd"
            refine ifD (fun c9 => ?_) (fun c9 => ?_)
            · walk_at "rd"
              refine ifD (fun cl => ?_) (fun cl => ?_)
              · have hjl : j < t.length := by omega
                have hget : t[j]? = some t[j] := List.getElem?_eq_getElem hjl
                have hAj := hAt.drop (j := j) (by omega)
                have hat : atI z.cps.toList ((i : Int) + 1 + (j : Nat)) = some t[j] := at_of (j := i + 1 + j) (by omega) (by
                  have := hAj.get
                  rw [List.head?_drop, hget] at this
                  exact this)
                have hget8 : (t.take 8)[j]? = some t[j] := by rw [List.getElem?_take_of_lt (by omega)]; exact hget
                walk_at "rd"
                rw [mem_dgt]
                cases hb : isDgt t[j] with
                | true =>
                  refine ifT (wGo ?_)
                  have hgo := tw_go hj hget8 hb
                  walk_at "rd"
                  exact ⟨t.length - (j + 1), by omega, j + 1, by rw [show ((i : Int) + 1 + (j : Nat) + 1) = (i : Int) + 1 + ((j + 1 : Nat) : Int) by omega]; rfl, rfl, hgo, fun q => absurd q c48, rfl⟩
                | false =>
                  walk_at "rd"
                  exact fin fun _ b hb' => by rw [hget8] at hb'; cases hb'; exact hb
              · walk_at "rd"
                refine fin fun _ b hb' => ?_
                have := (List.getElem?_eq_some_iff.mp hb').1
                omega
            · walk_at "rd"
              refine fin fun _ b hb' => ?_
              have := (List.getElem?_eq_some_iff.mp hb').1
              omega
          · walk_at "rd"
            exact fin fun q => absurd c48 q
        · rintro σ' H'' ⟨j, rfl, rfl, h48, hn48⟩
          walk_at "rd"
          by_cases e : c = 48
          · have := k1 _ _ (by rw [e]; exact num_zero)
            rw [h48 e]
            rw [show ((i + ([48] : List Nat).length : Nat) : Int) = (i : Int) + 1 + (0 : Nat) by show ((i + 1 : Nat) : Int) = _; omega] at this
            exact this
          · have := k1 _ _ (num_dgt hc e)
            rw [hn48 e]
            rw [show ((i + (c :: (t.take 8).takeWhile isDgt).length : Nat) : Int) = (i : Int) + 1 + (((t.take 8).takeWhile isDgt).length : Nat) by rw [List.length_cons]; omega] at this
            exact this
      · cases s with
        | nil => exact err_to he
        | cons b u =>
          by_cases c1 : isDgt b = true
          · rw [ch_ok c1] at he; cases he
          · rw [ch_no c1] at he
            rw [num_no c1 (fun q => hno ⟨q.1, by rw [q.2]; rfl⟩)]
            exact err_to he
end
end Z
namespace Z
open PySem PySem.Spec L2 ItX
local macro_rules | `(tactic| walk_at "ne") => `(tactic| first
  | with_reducible assumption
  | with_reducible exact Ne.symm (by assumption)
  | exact Frs.ne (by with_reducible assumption) (by walk_at "hp")
  | exact Frs.ne' (by with_reducible assumption) (by walk_at "hp"))
local macro_rules | `(tactic| walk_at "hp") => `(tactic| first
  | with_reducible assumption
  | (with_reducible refine Same.at (by assumption) ?_; walk_at "hp")
  | (with_reducible refine SL.tup (by assumption) ?_; walk_at "hp")
  | (with_reducible refine SL.at (by assumption) (by walk_at "ne") ?_; walk_at "hp"))
local macro_rules | `(tactic| walk_at "sz") => `(tactic| first
  | with_reducible assumption
  | exact Nat.le_of_ble_eq_true rfl
  | (refine sz_le ?_; omega)
  | (refine sz_lt ?_; omega)
  | decide +kernel)
local macro_rules | `(tactic| walk_at "at") => `(tactic| first
  | with_reducible assumption
  | with_reducible exact at0
  | with_reducible exact at1
  | with_reducible exact at2
  | with_reducible exact ixN0)
local macro_rules | `(tactic| walk_at "nn") => `(tactic| first
  | omega
  | decide
  | exact ⟨by decide, by decide⟩
  | exact ⟨by omega, by omega⟩
  | exact ⟨by omega, by omega, by omega, by omega⟩)
local macro_rules | `(tactic| walk_at "rdv") => `(tactic| first
  | (with_reducible refine add_int ?_)
  | (with_reducible refine sub_int ?_)
  | (with_reducible refine neg_int ?_)
  | ((with_reducible refine ix_tpl (xs := ?xs) (v := ?v) ?h1 ?h2 ?_); (case h1 => walk_at "hp"); (case h2 => walk_at "at"))
  | ((with_reducible refine ix_lst (xs := ?xs) (v := ?v) ?h1 ?h2 ?_); (case h1 => walk_at "hp"); (case h2 => walk_at "at"))
  | (with_reducible refine eq_int ?_)
  | (with_reducible refine ne_int ?_)
  | (with_reducible refine lt_int ?_)
  | (with_reducible refine le_int ?_)
  | (with_reducible refine gt_int ?_)
  | (with_reducible refine ge_int ?_)
  | (with_reducible refine eq_str ?_)
  | (with_reducible refine ne_str ?_)
  | (with_reducible refine eq_bl ?_)
  | (with_reducible refine ne_bl ?_)
  | ((with_reducible refine mod_int ?hc ?_); (case hc => walk_at "nn"))
  | ((with_reducible refine div_int ?hc ?_); (case hc => walk_at "nn"))
  | ((with_reducible refine mul_intR ?hc ?_); (case hc => exact ⟨by decide, by decide⟩))
  | ((with_reducible refine mul_intR ?hc ?_); (case hc => exact ⟨by omega, by omega⟩))
  | ((with_reducible refine mul_intL ?hc ?_); (case hc => exact ⟨by omega, by omega⟩))
  | ((with_reducible refine pow_int ?hc ?_); (case hc => exact ⟨by decide, by decide, by decide⟩))
  | ((with_reducible refine add_str ?hc ?_); (case hc => walk_at "sz"))
  | ((with_reducible refine add_lst (xs := ?xs) (ys := ?ys) ?h1 ?h2 ?hc ?_); (case h1 => walk_at "hp"); (case h2 => walk_at "hp"); (case hc => walk_at "sz"))
  | ((with_reducible refine sl_strU ?hc ?_); (case hc => walk_at "sz"))
  | ((with_reducible refine sl_lst (xs := ?xs) ?h1 ?_); (case h1 => walk_at "hp"))
  | (with_reducible refine is_bl ?_)
  | (with_reducible refine isnt_bl ?_)
  | (with_reducible refine is_non ?_)
  | (with_reducible refine isnt_non ?_))
local macro_rules | `(tactic| walk_at "rdc") => `(tactic| first
  | ((with_reducible refine len_lst (xs := ?xs) ?h1 ?_); (case h1 => walk_at "hp"))
  | ((with_reducible refine len_tup (xs := ?xs) ?h1 ?_); (case h1 => walk_at "hp"))
  | ((with_reducible refine len_str ?hc ?_); (case hc => walk_at "sz"))
  | (with_reducible refine int_int ?_)
  | (with_reducible refine max_int ?_)
  | (with_reducible refine min_int ?_)
  | (with_reducible refine abs_int ?_)
  | (with_reducible refine isi_ii ?_)
  | (with_reducible refine isi_ib ?_)
  | (with_reducible refine isi_ss ?_)
  | (with_reducible refine isi_bb ?_)
  | ((with_reducible refine isi_tt (xs := ?xs) ?h1 ?_); (case h1 => walk_at "hp"))
  | ((with_reducible refine isi_ll (xs := ?xs) ?h1 ?_); (case h1 => walk_at "hp"))
  | ((with_reducible refine list_lst (xs := ?xs) ?h1 ?_); (case h1 => walk_at "hp"))
  | ((with_reducible refine list_tup (xs := ?xs) ?h1 ?_); (case h1 => walk_at "hp"))
  | ((with_reducible refine tuple_lst (xs := ?xs) ?h1 ?_); (case h1 => walk_at "hp"))
  | ((with_reducible refine tuple_tup (xs := ?xs) ?h1 ?_); (case h1 => walk_at "hp"))
  | ((with_reducible refine append_lst (xs := ?xs) ?h1 ?hc ?_); (case h1 => walk_at "hp"); (case hc => walk_at "sz"))
  | ((with_reducible refine clear_lst (xs := ?xs) ?h1 ?_); (case h1 => walk_at "hp"))
  | ((with_reducible refine set_lst (xs := ?xs) (k := ?k) ?h1 ?h2 ?_); (case h1 => walk_at "hp"); (case h2 => walk_at "at")))
local macro_rules | `(tactic| walk_at "rd1") => `(tactic| first
  | ((with_reducible refine rVar (v := ?v) ?h ?_); (case h => exact rfl))
  | (with_reducible refine rC ?_)
  | (with_reducible refine rCons ?_)
  | (with_reducible refine rNil ?_)
  | (with_reducible refine rOp ?_)
  | (with_reducible refine rSeq ?_)
  | (with_reducible refine rAsgN ?_)
  | (with_reducible refine rAsgT ?_)
  | (with_reducible refine rAsgS ?_)
  | (with_reducible refine rTest ?_)
  | (with_reducible refine rBl ?_)
  | (with_reducible refine rBl' ?_)
  | (with_reducible refine rInt ?_)
  | (with_reducible refine rInt' ?_)
  | (with_reducible refine rCall ?_)
  | (with_reducible refine rCB ?_)
  | (with_reducible refine rRet ?_)
  | (with_reducible refine rDrop ?_)
  | (with_reducible refine rIfS ?_)
  | (with_reducible refine rTup ?_)
  | (with_reducible refine rLst ?_)
  | (with_reducible refine ⟨Nat.le_of_ble_eq_true rfl, ?_⟩)
  | (with_reducible refine rSl ?_)
  | (with_reducible refine rPart ?_)
  | (with_reducible refine rNoPart ?_)
  | (with_reducible refine rBM ?_)
  | (with_reducible refine rBM0 ?_)
  | ((with_reducible refine tyL (xs := ?xs) ?h1 ?_); (case h1 => walk_at "hp"))
  | (with_reducible refine rM1 ?_)
  | (with_reducible refine rM0 ?_)
  | (with_reducible refine rStr ?_)
  | (with_reducible refine rTru ?_)
  | (with_reducible refine tru_bl ?_)
  | (with_reducible refine tru_int ?_)
  | ((with_reducible refine tru_lst (xs := ?xs) ?h1 ?_); (case h1 => walk_at "hp"))
  | ((with_reducible refine tru_tup (xs := ?xs) ?h1 ?_); (case h1 => walk_at "hp"))
  | ((with_reducible refine tru_str ?hc ?_); (case hc => walk_at "sz"))
  | (with_reducible refine rAnd ?_)
  | (with_reducible refine rOr ?_)
  | (with_reducible refine rNot ?_)
  | (with_reducible refine rAndV ?_)
  | (with_reducible refine rOrV ?_)
  | (with_reducible refine rNotV ?_)
  | (with_reducible refine rIfE ?_)
  | (with_reducible refine rChain ?_)
  | (with_reducible refine rChain3 ?_)
  | (with_reducible refine ifT ?_)
  | (with_reducible refine ifF ?_)
  | (with_reducible refine ifNF ?_)
  | (with_reducible refine ifNT ?_)
  | (with_reducible refine rNext ?_)
  | (with_reducible refine rBrk ?_)
  | (with_reducible refine rCnt ?_)
  | (with_reducible refine rRetN ?_)
  | (with_reducible refine rForR1 ?_)
  | (with_reducible refine rForR2 ?_)
  | (with_reducible refine rForL ?_)
  | ((with_reducible refine rRg1 ?hb ?_); (case hb => walk_at "nn"))
  | ((with_reducible refine rRg2 ?hb ?_); (case hb => walk_at "nn"))
  | ((with_reducible refine rRf (xs := ?xs) ?h1 ?_); (case h1 => walk_at "hp"))
  | (with_reducible refine rLcR1 ?_)
  | (with_reducible refine rLcR2 ?_)
  | (with_reducible refine rLcL ?_)
  | (with_reducible refine gN ?_)
  | (with_reducible refine gNl ?_)
  | (with_reducible refine gC ?_)
  | ((with_reducible refine gT (xs := ?xs) ?h1 ?h2 ?_); (case h1 => walk_at "hp"); (case h2 => exact rfl))
  | (with_reducible refine rUn ?_)
  | walk_at "rdv"
  | walk_at "rdc")
local macro_rules | `(tactic| walk_at "rd") => `(tactic| repeat walk_at "rd1")

local macro_rules | `(tactic| walk_at "rd1") => `(tactic| first
  | (with_reducible refine rCallS ?_)
  | (with_reducible refine rRaise ?_)
  | (with_reducible refine rXf ?_)
  | (with_reducible refine rXi ?_)
  | (with_reducible refine rOst ?_)
  | (with_reducible refine rRevL ?_)
  | ((with_reducible refine revL_end (xs := ?xs) ?h1 ?_); (case h1 => walk_at "hp")))

local macro_rules | `(tactic| walk_at "rd1") => `(tactic| first
  | (with_reducible refine rForR3 ?_)
  | ((with_reducible refine rRgD ?hb ?_); (case hb => walk_at "nn"))
  | (with_reducible refine gS ?_))

local macro_rules | `(tactic| walk_at "rd1") => `(tactic| first
  | (with_reducible refine nin_sign ?_)
  | (with_reducible refine in_sign ?_)
  | (with_reducible refine rForET ?_)
  | (with_reducible refine rForEL ?_)
  | (with_reducible refine rLcRev ?_)
  | ((with_reducible refine ix_str (c := ?c) ?hl ?h2 ?_); (case hl => walk_at "sz"); (case h2 => with_reducible assumption))
  | (with_reducible refine rAsgU ?_)
  | ((with_reducible refine gUl (xs := ?xs) ?h1 ?h2 ?_); (case h1 => walk_at "hp"); (case h2 => exact rfl)))

theorem WantX.sm {C : Addr} {fs : List (Str × V)} {H H1 : Hp} {E : XK} (h : WantX C fs H E) (s : Same H H1) : WantX C fs H1 E := fun d H' hd s' e => h d H' (Same.fre s hd) (Same.trans s s') e
theorem At.back {z : Str} {i : Nat} {w r : List Nat} (h : At z i (w ++ r)) : At z (z.length - r.length) r := by
  have h1 := h.next
  have := h1.len
  rw [show z.length - r.length = i + w.length by omega]
  exact h1
theorem At.cutW {z : Str} {i : Nat} {w r : List Nat} (h : At z i (w ++ r)) {j j' : Int} (e : j = (i : Nat)) (e' : j' = ((i + w.length : Nat) : Int)) : TL.tl (cutS z (some j) (some j')) = w := by
  rw [tl_cutS, cut_mid (by omega) (by omega), e', e, Int.toNat_natCast, Int.toNat_natCast, List.drop_take, h.d, show i + w.length - i = w.length by omega, List.take_left']
  rfl
def wsV (ws : List (List Nat)) : List V := ws.map fun w => V.str ⟨w.toArray⟩
def dtV (d : Dt) : List V := [.str d.k, .str d.s, .int d.st, .int d.ld, .int d.wd, .int d.lk, .int d.al, .int d.pp]
theorem six_len {ns : List Int} (h : ns.length = 6) (a b : List Nat) : [V.str ⟨a.toArray⟩, .str ⟨b.toArray⟩] ++ ns.map V.int = dtV (mkDt a b ns) := by
  match ns, h with
  | [n1, n2, n3, n4, n5, n6], _ => rfl
def sp_read_head (C : Addr) : Sp := fun vs H Q E => ∃ (z : Str) (i : Nat) (s : List Nat), vs = [.str z, .int i] ∧ At z i s ∧ (∀ d r, headP s = .ok (d, r) → ∀ (t l : Addr) (H' : Hp), Same H H' → Frs H l → H' t = some (.tup [.ref l, .int ((z.length - r.length : Nat) : Int)]) → H' l = some (.lst (dtV d)) → Q (.ref t) H') ∧ ∀ e, headP s = .error e → BadP C (z.length - e.length) H E
theorem use_read_head {C : Addr} {z : Str} {i : Nat} {j : Int} {s : List Nat} {H : Hp} {Q : VK} {E : XK} (e : j = (i : Nat)) (hA : At z i s) (h1 : ∀ d r, headP s = .ok (d, r) → ∀ (t l : Addr) (H' : Hp), Same H H' → Frs H l → H' t = some (.tup [.ref l, .int ((z.length - r.length : Nat) : Int)]) → H' l = some (.lst (dtV d)) → Q (.ref t) H') (h2 : ∀ e, headP s = .error e → BadP C (z.length - e.length) H E) : sp_read_head C [.str z, .int j] H Q E := by
  subst e
  exact ⟨z, i, s, rfl, hA, h1, h2⟩
section
variable {P : Program} {w : World} {K : PySem.W.Frag} {mg : Str → Option Value} {base : Heap} {aE : Addr}
theorem cal_read_head {f : Addr} {fd : FuncData} (T : Txt mg) (FD : C8.Def K mg "read_head" s_read_head f fd) (b : Binds K fd ["notation", "place"] [])
    (c_char_of : CalX P w K mg base 3 "char_of" (sp_char_of aE))
    (c_word_end : CalX P w K mg base 6 "word_end" (sp_word_end aE))
    (c_number_end : CalX P w K mg base 4 "number_end" (sp_number_end aE))
    {aT_LEAST_NUMBERS : Addr} (tg_LEAST_NUMBERS : TupG K mg "LEAST_NUMBERS" [.int (-1), .int (0), .int (0), .int (0), .int (-1), .int (0)] aT_LEAST_NUMBERS) : CalX P w K mg base 7 "read_head" (sp_read_head aE) := by
  refine calX FD b sc_read_head (fun vs H Q E h => ?_) (fun cdv A outer s H vs Q E hr h => ?_)
  · obtain ⟨z, i, s, rfl, _⟩ := h; rfl
  · obtain ⟨z, i, s, rfl, hA, k1, k2⟩ := h
    refine ⟨_, (pss_cons (ps_expr (pe_cx c_char_of (takes_of rfl rfl rfl rfl) hr (by decide) (by rfl) (pa_cons (pv 0) (pa_cons (pv 1) (pa_cons pe_str pa_nil)))))
  (pss_cons (ps_set (i := 2) sc_read_head.nd rfl (.inl rfl) (pe_lst pa_nil))
  (pss_cons (ps_set (i := 3) sc_read_head.nd rfl (.inl rfl) (pe_op (op_addK K) (pv 1) pe_int))
  (pss_cons (ps_for (passes_of rfl) rfl (pi_range1 rfl T.n_range (pa_cons pe_int pa_nil)) (pg_name (i := 4) sc_read_head.nd rfl (.inl rfl)) (pss_cons (ps_set (i := 5) sc_read_head.nd rfl (.inl rfl) (pe_cx c_word_end (takes_of rfl rfl rfl rfl) hr (by decide) (by rfl) (pa_cons (pv 0) (pa_cons (pv 3) pa_nil))))
  (pss_cons (ps_expr (pe_bm F.plainAttrs_list F.slot_list_append F.type_list_append mt_append (pv 2) (pa_cons (pe_slice (sl_K K) (pv 0) (po_some (pv 3)) (po_some (pv 5))) pa_nil)))
  (pss_cons (ps_expr (pe_cx c_char_of (takes_of rfl rfl rfl rfl) hr (by decide) (by rfl) (pa_cons (pv 0) (pa_cons (pv 5) (pa_cons pe_str pa_nil)))))
  (PSs.nox (pss_one (ps_set (i := 3) sc_read_head.nd rfl (.inl rfl) (pe_op (op_addK K) (pv 5) pe_int))))))))
  (pss_cons (ps_for (passes_of rfl) rfl (pi_enumT (K := K) (by rfl) T.n_enumerate (pa_cons (pe_gt (K := K) (by rfl) tg_LEAST_NUMBERS) pa_nil)) (pg_tup rfl (pgs_cons (pg_name (i := 6) sc_read_head.nd rfl (.inl rfl)) (pgs_cons (pg_name (i := 7) sc_read_head.nd rfl (.inl rfl)) pgs_nil))) (C8.pss_cut (ps_if (pt_cmpR op_gtU (pv 6) pe_int (nomark _)) (pss_cons (ps_expr (pe_cx c_char_of (takes_of rfl rfl rfl rfl) hr (by decide) (by rfl) (pa_cons (pv 0) (pa_cons (pv 3) (pa_cons pe_str pa_nil)))))
  (PSs.nox (pss_one (ps_set (i := 3) sc_read_head.nd rfl (.inl rfl) (pe_op (op_addK K) (pv 3) pe_int))))) pss_nil)
  (pss_cons (ps_set (i := 5) sc_read_head.nd rfl (.inl rfl) (pe_cx c_number_end (takes_of rfl rfl rfl rfl) hr (by decide) (by rfl) (pa_cons (pv 0) (pa_cons (pv 3) (pa_cons (pv 7) pa_nil)))))
  (PSs.nox (pss_cons (ps_expr (pe_bm F.plainAttrs_list F.slot_list_append F.type_list_append mt_append (pv 2) (pa_cons (pe_callTy call_int_str (by rfl) T.n_int (by decide +kernel) (pa_cons (pe_slice (sl_K K) (pv 0) (po_some (pv 3)) (po_some (pv 5))) pa_nil)) pa_nil)))
  (pss_one (ps_set (i := 3) sc_read_head.nd rfl (.inl rfl) (pv 5))))))))
  (PSs.nox (pss_one (ps_ret (pe_tup (pa_cons (pv 2) (pa_cons (pv 3) pa_nil))))))))))), ?_⟩
    show (_ : TS) _ [some (.str z), some (.int i), none, none, none, none, none, none] H
    have hzl : z.length ≤ sizeLine := sz_le (by have := hA.m; omega)
    walk_at "rd"
    refine use_char_of (p := fun c => c == 40) rfl hA (mem1 (by decide +kernel)) (fun c s1 hs hc => ?_) (fun e he => k2 e (by unfold headP; rw [he]))
    subst hs
    have hh : headP (c :: s1) = hdW [] s1 := by unfold headP; rw [ch_ok (p := fun c => c == 40) hc]; rfl
    rw [hh] at k1 k2
    have hA1 := hA.tail
    walk_at "rd"
    refine newO_gen fun wl H1 g1 h01 h1 => ?_
    walk_at "rd"
    refine loopR_by (fun k σ' H' => ∃ (ws : List (List Nat)) (st : Nat) (s' : List Nat) (o4 o5 : Option V), σ' = [some (.str z), some (.int i), some (.ref wl), some (.int st), o4, o5, none, none] ∧ Same H H' ∧ H' wl = some (.lst (wsV ws)) ∧ ws.length = k ∧ At z st s' ∧ hdW [] s1 = hdW ws s') ?_ ?_ ?_
    · exact ⟨[], i + 1, s1, none, none, rfl, h01, h1, rfl, hA1, rfl⟩
    · rintro k σ' H2 hk ⟨ws, st, s', o4, o5, rfl, h02, h2, hwl, hAs, hE⟩
      have hstep := hdW_step (ws := ws) (by omega) s'
      rw [← hE] at hstep
      walk_at "rd"
      refine use_end_ (f := wordP) rfl hAs (fun w r hw => ?_) (fun e he => (k2 e (by rw [hstep, he])).sm h02)
      obtain ⟨hcut, _⟩ := wordP_cut hw
      rw [hw] at hstep
      simp only at hstep
      have hAw : At z st (w ++ r) := by rw [← hcut]; exact hAs
      have hvl : (wsV ws).length = k := by unfold wsV; rw [List.length_map, hwl]
      walk_at "rd"
      refine putO_gen h2 fun H3 s3 h3 => ?_
      have h03 : Same H H3 := SL.same h02 s3 g1
      walk_at "rd"
      refine use_char_of (p := fun c => c == 32) rfl hAw.next (mem1 (by decide +kernel)) (fun c r' hs hc => ?_) (fun e he => (k2 e (by rw [hstep, he])).sm h03)
      subst hs
      rw [ch_ok (p := fun c => c == 32) hc] at hstep
      walk_at "rd"
      refine ⟨ws ++ [w], st + w.length + 1, r', _, _, rfl, h03, ?_, by rw [List.length_append]; show ws.length + 1 = _; omega, hAw.next.tail, hstep⟩
      rw [h3]
      unfold wsV
      rw [List.map_append]
      congr 3
      show [V.str _] = [V.str _]
      congr 2
      exact TL.ext_tl (hAw.cutW rfl rfl)
    · rintro σ' H2 ⟨ws, st, s', o4, o5, rfl, h02, h2, hwl, hAs, hE⟩
      match ws, hwl, h2, hE with
      | [a, b], _, h2, hE =>
        rw [hE] at k1 k2
        replace h2 : H2 wl = some (.lst [.str ⟨a.toArray⟩, .str ⟨b.toArray⟩]) := h2
        clear hE
        walk_at "rd"
        refine ⟨_, _, rfl, tg_LEAST_NUMBERS.is _, ?_⟩
        refine loopET_by (xs := [.int (-1), .int 0, .int 0, .int 0, .int (-1), .int 0]) (fun k σ' H' => ∃ (ns : List Int) (st : Nat) (s'' : List Nat) (o5 o6 o7 : Option V), σ' = [some (.str z), some (.int i), some (.ref wl), some (.int st), o4, o5, o6, o7] ∧ Same H H' ∧ H' wl = some (.lst ([.str ⟨a.toArray⟩, .str ⟨b.toArray⟩] ++ ns.map V.int)) ∧ ns.length = k ∧ At z st s'' ∧
          (head3 a b s' = match numsP (decide (k = 0)) (six.drop k) s'' with | .error e => .error e | .ok (ns', r) => .ok (mkDt a b (ns ++ ns'), r))) ?_ ?_ ?_ ?_
        · exact ⟨[], st, s', _, _, _, rfl, h02, h2, rfl, hAs, rfl⟩
        · intro i' σ' H' _
          exact tg_LEAST_NUMBERS.is _
        · rintro k x σ' H3 hx ⟨ns, st, s'', o5, o6, o7, rfl, h03, h3, hnl, hAs, hE⟩ T H4 gT h34 hT
          have hk6 : k < 6 := (List.getElem?_eq_some_iff.mp hx).1
          obtain ⟨l, rfl, hl⟩ : ∃ l : Int, x = .int l ∧ six.drop k = l :: six.drop (k + 1) := by
            have : k = 0 ∨ k = 1 ∨ k = 2 ∨ k = 3 ∨ k = 4 ∨ k = 5 := by omega
            rcases this with rfl | rfl | rfl | rfl | rfl | rfl <;> (cases hx; exact ⟨_, rfl, rfl⟩)
          have h04 : Same H H4 := Same.trans h03 h34
          have h4 := h34 _ _ h3
          have hE0 := hE
          rw [hl, nums_cons] at hE
          walk_at "rd"
          refine rCut (fun σ' H' => ∃ (st1 : Nat) (sa : List Nat), σ' = [some (.str z), some (.int i), some (.ref wl), some (.int st1), o4, o5, some (.int k), some (.int l)] ∧ H' = H4 ∧ At z st1 sa ∧ (if decide (k = 0) = true then .ok s'' else chP (· == 32) s'' : Pz (List Nat)) = .ok sa) ?_ ?_
          · walk_at "rd"
            refine ifD (fun hc => ?_) (fun hc => ?_)
            · have hk0 : decide (k = 0) = false := decide_eq_false (by omega)
              walk_at "rd"
              refine use_char_of (p := fun c => c == 32) rfl hAs (mem1 (by decide +kernel)) (fun c r' hs hc => ?_) (fun e he => (k2 e ?_).sm h04)
              · subst hs
                walk_at "rd"
                exact ⟨st + 1, r', rfl, rfl, hAs.tail, by rw [hk0, ch_ok (p := fun c => c == 32) hc]; rfl⟩
              · show head3 a b s' = _
                rw [hE, hk0]
                simp only [Bool.false_eq_true, if_false, he]
            · walk_at "rd"
              exact ⟨st, s'', rfl, rfl, hAs, by rw [decide_eq_true (show k = 0 by omega)]; rfl⟩
          · rintro σ' H' ⟨st1, sa, rfl, rfl, hAa, hsa⟩
            rw [hsa] at hE
            simp only at hE
            walk_at "rd"
            refine use_number_end rfl hAa (fun w r hw => ?_) (fun e he => (k2 e ?_).sm h04)
            · obtain ⟨hcut, _⟩ := numP_cut hw
              have hAw : At z st1 (w ++ r) := by rw [← hcut]; exact hAa
              obtain ⟨v1, v2⟩ := numP_val hw (hAw.cutW (j := (st1 : Nat)) (j' := ((st1 + w.length : Nat) : Int)) rfl rfl)
              have hvl : ([V.str ⟨a.toArray⟩, .str ⟨b.toArray⟩] ++ ns.map V.int).length = 2 + k := by rw [List.length_append, List.length_map, hnl]; rfl
              rw [hw] at hE
              simp only at hE
              walk_at "rd"
              refine int_strT v1 v2 ?_
              walk_at "rd"
              refine putO_gen h4 fun H5 s5 h5 => ?_
              walk_at "rd"
              refine ⟨ns ++ [valL w], st1 + w.length, r, _, _, _, rfl, SL.same h04 s5 g1, by rw [h5, List.map_append, List.append_assoc]; rfl, by rw [List.length_append]; show ns.length + 1 = _; omega, hAw.next, ?_⟩
              rw [hE, decide_eq_false (Nat.succ_ne_zero k)]
              cases numsP false (six.drop (k + 1)) r with
              | error e => rfl
              | ok q =>
                obtain ⟨ns', r'⟩ := q
                show Except.ok (mkDt a b (ns ++ (valL w :: ns')), r') = Except.ok (mkDt a b ((ns ++ [valL w]) ++ ns'), r')
                rw [List.append_assoc]
                rfl
            · show head3 a b s' = _
              rw [hE, he]
        · rintro σ' H3 ⟨ns, st, s'', o5, o6, o7, rfl, h03, h3, hnl, hAs, hE⟩
          replace hnl : ns.length = 6 := hnl
          have hE2 : head3 a b s' = .ok (mkDt a b ns, s'') := by
            rw [hE]
            show Except.ok (mkDt a b (ns ++ []), s'') = _
            rw [List.append_nil]
          walk_at "rd"
          refine newO_gen fun t H4 g4 h34 h4 => ?_
          have hln := hAs.len
          refine k1 _ _ hE2 t wl H4 (Same.trans h03 h34) g1 ?_ ?_
          · rw [h4, show z.length - s''.length = st by omega]
          · rw [← six_len hnl]
            exact h34 _ _ h3
end
end Z
namespace Z
open PySem PySem.Spec L2
/-! ## the reader, as steps -/
abbrev Ks := List (Dt × Fo)
def kFo : Ks → Fo
  | [] => .nil
  | e :: t => .cons e.1 e.2 (kFo t)
abbrev Stk := List (Dt × Ks)
/-- from here the reader comes to R; true: a head is next -/
inductive Run (R : Pz (Dt × Fo)) : Bool → List Nat → Stk → Prop where
  | err {s e : List Nat} {st : Stk} : headP s = .error e → R = .error e → Run R true s st
  | ok {s r : List Nat} {d : Dt} {st : Stk} : headP s = .ok (d, r) → Run R false r ((d, []) :: st) → Run R true s st
  | up {t : List Nat} {d d2 : Dt} {ks ks2 : Ks} {st : Stk} : Run R false t ((d2, ks2 ++ [(d, kFo ks)]) :: st) → Run R false (41 :: t) ((d, ks) :: (d2, ks2) :: st)
  | done {d : Dt} {ks : Ks} : R = .ok (d, kFo ks) → Run R false [41] [(d, ks)]
  | more {t : List Nat} {d : Dt} {ks : Ks} : t ≠ [] → R = .error t → Run R false (41 :: t) [(d, ks)]
  | bad {s e : List Nat} {st : Stk} : chP (fun c => c == 32 || c == 41) s = .error e → R = .error e → Run R false s st
  | next {t : List Nat} {st : Stk} : Run R true t st → Run R false (32 :: t) st
theorem Run.head {R : Pz (Dt × Fo)} {s : List Nat} {st : Stk} (h : Run R true s st) : (∃ e, headP s = .error e ∧ R = .error e) ∨ ∃ d r, headP s = .ok (d, r) ∧ Run R false r ((d, []) :: st) := by
  cases h with
  | err h1 h2 => exact .inl ⟨_, h1, h2⟩
  | ok h1 h2 => exact .inr ⟨_, _, h1, h2⟩
theorem Run.close {R : Pz (Dt × Fo)} {t : List Nat} {d : Dt} {ks : Ks} {st : Stk} (h : Run R false (41 :: t) ((d, ks) :: st)) :
    (∃ d2 ks2 st2, st = (d2, ks2) :: st2 ∧ Run R false t ((d2, ks2 ++ [(d, kFo ks)]) :: st2)) ∨ (st = [] ∧ t = [] ∧ R = .ok (d, kFo ks)) ∨ (st = [] ∧ t ≠ [] ∧ R = .error t) := by
  cases h with
  | up h => exact .inl ⟨_, _, _, rfl, h⟩
  | done h => exact .inr (.inl ⟨rfl, rfl, h⟩)
  | more h1 h2 => exact .inr (.inr ⟨rfl, h1, h2⟩)
  | bad h1 h2 => rw [ch_ok (by decide)] at h1; cases h1
theorem Run.blank {R : Pz (Dt × Fo)} {t : List Nat} {st : Stk} (h : Run R false (32 :: t) st) : Run R true t st := by
  cases h with
  | bad h1 h2 => rw [ch_ok (by decide)] at h1; cases h1
  | next h => exact h
theorem Run.fault {R : Pz (Dt × Fo)} {s e : List Nat} {st : Stk} (h : Run R false s st) (he : chP (fun c => c == 32 || c == 41) s = .error e) : R = .error e := by
  cases h with
  | up h => rw [ch_ok (by decide)] at he; cases he
  | done h => rw [ch_ok (by decide)] at he; cases he
  | more h1 h2 => rw [ch_ok (by decide)] at he; cases he
  | bad h1 h2 => rw [h1] at he; cases he; exact h2
  | next h => rw [ch_ok (by decide)] at he; cases he
theorem mem2 {S : Str} {a b : Nat} (h : TL.tl S = [a, b]) (c : Nat) : decide (c ∈ TL.tl S) = (c == a || c == b) := by
  rw [h]
  by_cases e : c = a
  · rw [e]; simp
  · by_cases e2 : c = b
    · rw [e2]; simp
    · rw [decide_eq_false (fun h => (List.mem_cons.mp h).elim e fun h => e2 (List.mem_singleton.mp h)), beq_false_of_ne e, beq_false_of_ne e2]
      rfl
theorem at_last {α : Type} {xs : List α} {x : α} : atI (xs ++ [x]) (-1) = some x := by
  have h : ixN (xs ++ [x]).length (-1) = some xs.length := by
    unfold ixN
    rw [List.length_append]
    simp
    omega
  unfold atI
  rw [h]
  simp
end Z
namespace Z
open PySem PySem.Spec L2 ItX
local macro_rules | `(tactic| walk_at "ne") => `(tactic| first
  | with_reducible assumption
  | with_reducible exact Ne.symm (by assumption)
  | exact Frs.ne (by with_reducible assumption) (by walk_at "hp")
  | exact Frs.ne' (by with_reducible assumption) (by walk_at "hp"))
local macro_rules | `(tactic| walk_at "hp") => `(tactic| first
  | with_reducible assumption
  | (with_reducible refine Same.at (by assumption) ?_; walk_at "hp")
  | (with_reducible refine SL.tup (by assumption) ?_; walk_at "hp")
  | (with_reducible refine SL.at (by assumption) (by walk_at "ne") ?_; walk_at "hp"))
local macro_rules | `(tactic| walk_at "sz") => `(tactic| first
  | with_reducible assumption
  | exact Nat.le_of_ble_eq_true rfl
  | (refine sz_le ?_; omega)
  | (refine sz_lt ?_; omega)
  | decide +kernel)
local macro_rules | `(tactic| walk_at "at") => `(tactic| first
  | with_reducible assumption
  | with_reducible exact at0
  | with_reducible exact at1
  | with_reducible exact at2
  | with_reducible exact ixN0)
local macro_rules | `(tactic| walk_at "nn") => `(tactic| first
  | omega
  | decide
  | exact ⟨by decide, by decide⟩
  | exact ⟨by omega, by omega⟩
  | exact ⟨by omega, by omega, by omega, by omega⟩)
local macro_rules | `(tactic| walk_at "rdv") => `(tactic| first
  | (with_reducible refine add_int ?_)
  | (with_reducible refine sub_int ?_)
  | (with_reducible refine neg_int ?_)
  | ((with_reducible refine ix_tpl (xs := ?xs) (v := ?v) ?h1 ?h2 ?_); (case h1 => walk_at "hp"); (case h2 => walk_at "at"))
  | ((with_reducible refine ix_lst (xs := ?xs) (v := ?v) ?h1 ?h2 ?_); (case h1 => walk_at "hp"); (case h2 => walk_at "at"))
  | (with_reducible refine eq_int ?_)
  | (with_reducible refine ne_int ?_)
  | (with_reducible refine lt_int ?_)
  | (with_reducible refine le_int ?_)
  | (with_reducible refine gt_int ?_)
  | (with_reducible refine ge_int ?_)
  | (with_reducible refine eq_str ?_)
  | (with_reducible refine ne_str ?_)
  | (with_reducible refine eq_bl ?_)
  | (with_reducible refine ne_bl ?_)
  | ((with_reducible refine mod_int ?hc ?_); (case hc => walk_at "nn"))
  | ((with_reducible refine div_int ?hc ?_); (case hc => walk_at "nn"))
  | ((with_reducible refine mul_intR ?hc ?_); (case hc => exact ⟨by decide, by decide⟩))
  | ((with_reducible refine mul_intR ?hc ?_); (case hc => exact ⟨by omega, by omega⟩))
  | ((with_reducible refine mul_intL ?hc ?_); (case hc => exact ⟨by omega, by omega⟩))
  | ((with_reducible refine pow_int ?hc ?_); (case hc => exact ⟨by decide, by decide, by decide⟩))
  | ((with_reducible refine add_str ?hc ?_); (case hc => walk_at "sz"))
  | ((with_reducible refine add_lst (xs := ?xs) (ys := ?ys) ?h1 ?h2 ?hc ?_); (case h1 => walk_at "hp"); (case h2 => walk_at "hp"); (case hc => walk_at "sz"))
  | ((with_reducible refine sl_strU ?hc ?_); (case hc => walk_at "sz"))
  | ((with_reducible refine sl_lst (xs := ?xs) ?h1 ?_); (case h1 => walk_at "hp"))
  | (with_reducible refine is_bl ?_)
  | (with_reducible refine isnt_bl ?_)
  | (with_reducible refine is_non ?_)
  | (with_reducible refine isnt_non ?_))
local macro_rules | `(tactic| walk_at "rdc") => `(tactic| first
  | ((with_reducible refine len_lst (xs := ?xs) ?h1 ?_); (case h1 => walk_at "hp"))
  | ((with_reducible refine len_tup (xs := ?xs) ?h1 ?_); (case h1 => walk_at "hp"))
  | ((with_reducible refine len_str ?hc ?_); (case hc => walk_at "sz"))
  | (with_reducible refine int_int ?_)
  | (with_reducible refine max_int ?_)
  | (with_reducible refine min_int ?_)
  | (with_reducible refine abs_int ?_)
  | (with_reducible refine isi_ii ?_)
  | (with_reducible refine isi_ib ?_)
  | (with_reducible refine isi_ss ?_)
  | (with_reducible refine isi_bb ?_)
  | ((with_reducible refine isi_tt (xs := ?xs) ?h1 ?_); (case h1 => walk_at "hp"))
  | ((with_reducible refine isi_ll (xs := ?xs) ?h1 ?_); (case h1 => walk_at "hp"))
  | ((with_reducible refine list_lst (xs := ?xs) ?h1 ?_); (case h1 => walk_at "hp"))
  | ((with_reducible refine list_tup (xs := ?xs) ?h1 ?_); (case h1 => walk_at "hp"))
  | ((with_reducible refine tuple_lst (xs := ?xs) ?h1 ?_); (case h1 => walk_at "hp"))
  | ((with_reducible refine tuple_tup (xs := ?xs) ?h1 ?_); (case h1 => walk_at "hp"))
  | ((with_reducible refine append_lst (xs := ?xs) ?h1 ?hc ?_); (case h1 => walk_at "hp"); (case hc => walk_at "sz"))
  | ((with_reducible refine clear_lst (xs := ?xs) ?h1 ?_); (case h1 => walk_at "hp"))
  | ((with_reducible refine set_lst (xs := ?xs) (k := ?k) ?h1 ?h2 ?_); (case h1 => walk_at "hp"); (case h2 => walk_at "at")))
local macro_rules | `(tactic| walk_at "rd1") => `(tactic| first
  | ((with_reducible refine rVar (v := ?v) ?h ?_); (case h => exact rfl))
  | (with_reducible refine rC ?_)
  | (with_reducible refine rCons ?_)
  | (with_reducible refine rNil ?_)
  | (with_reducible refine rOp ?_)
  | (with_reducible refine rSeq ?_)
  | (with_reducible refine rAsgN ?_)
  | (with_reducible refine rAsgT ?_)
  | (with_reducible refine rAsgS ?_)
  | (with_reducible refine rTest ?_)
  | (with_reducible refine rBl ?_)
  | (with_reducible refine rBl' ?_)
  | (with_reducible refine rInt ?_)
  | (with_reducible refine rInt' ?_)
  | (with_reducible refine rCall ?_)
  | (with_reducible refine rCB ?_)
  | (with_reducible refine rRet ?_)
  | (with_reducible refine rDrop ?_)
  | (with_reducible refine rIfS ?_)
  | (with_reducible refine rTup ?_)
  | (with_reducible refine rLst ?_)
  | (with_reducible refine ⟨Nat.le_of_ble_eq_true rfl, ?_⟩)
  | (with_reducible refine rSl ?_)
  | (with_reducible refine rPart ?_)
  | (with_reducible refine rNoPart ?_)
  | (with_reducible refine rBM ?_)
  | (with_reducible refine rBM0 ?_)
  | ((with_reducible refine tyL (xs := ?xs) ?h1 ?_); (case h1 => walk_at "hp"))
  | (with_reducible refine rM1 ?_)
  | (with_reducible refine rM0 ?_)
  | (with_reducible refine rStr ?_)
  | (with_reducible refine rTru ?_)
  | (with_reducible refine tru_bl ?_)
  | (with_reducible refine tru_int ?_)
  | ((with_reducible refine tru_lst (xs := ?xs) ?h1 ?_); (case h1 => walk_at "hp"))
  | ((with_reducible refine tru_tup (xs := ?xs) ?h1 ?_); (case h1 => walk_at "hp"))
  | ((with_reducible refine tru_str ?hc ?_); (case hc => walk_at "sz"))
  | (with_reducible refine rAnd ?_)
  | (with_reducible refine rOr ?_)
  | (with_reducible refine rNot ?_)
  | (with_reducible refine rAndV ?_)
  | (with_reducible refine rOrV ?_)
  | (with_reducible refine rNotV ?_)
  | (with_reducible refine rIfE ?_)
  | (with_reducible refine rChain ?_)
  | (with_reducible refine rChain3 ?_)
  | (with_reducible refine ifT ?_)
  | (with_reducible refine ifF ?_)
  | (with_reducible refine ifNF ?_)
  | (with_reducible refine ifNT ?_)
  | (with_reducible refine rNext ?_)
  | (with_reducible refine rBrk ?_)
  | (with_reducible refine rCnt ?_)
  | (with_reducible refine rRetN ?_)
  | (with_reducible refine rForR1 ?_)
  | (with_reducible refine rForR2 ?_)
  | (with_reducible refine rForL ?_)
  | ((with_reducible refine rRg1 ?hb ?_); (case hb => walk_at "nn"))
  | ((with_reducible refine rRg2 ?hb ?_); (case hb => walk_at "nn"))
  | ((with_reducible refine rRf (xs := ?xs) ?h1 ?_); (case h1 => walk_at "hp"))
  | (with_reducible refine rLcR1 ?_)
  | (with_reducible refine rLcR2 ?_)
  | (with_reducible refine rLcL ?_)
  | (with_reducible refine gN ?_)
  | (with_reducible refine gNl ?_)
  | (with_reducible refine gC ?_)
  | ((with_reducible refine gT (xs := ?xs) ?h1 ?h2 ?_); (case h1 => walk_at "hp"); (case h2 => exact rfl))
  | (with_reducible refine rUn ?_)
  | walk_at "rdv"
  | walk_at "rdc")
local macro_rules | `(tactic| walk_at "rd") => `(tactic| repeat walk_at "rd1")

local macro_rules | `(tactic| walk_at "rd1") => `(tactic| first
  | (with_reducible refine rCallS ?_)
  | (with_reducible refine rRaise ?_)
  | (with_reducible refine rXf ?_)
  | (with_reducible refine rXi ?_)
  | (with_reducible refine rOst ?_)
  | (with_reducible refine rRevL ?_)
  | ((with_reducible refine revL_end (xs := ?xs) ?h1 ?_); (case h1 => walk_at "hp")))

local macro_rules | `(tactic| walk_at "rd1") => `(tactic| first
  | (with_reducible refine rForR3 ?_)
  | ((with_reducible refine rRgD ?hb ?_); (case hb => walk_at "nn"))
  | (with_reducible refine gS ?_))

local macro_rules | `(tactic| walk_at "rd1") => `(tactic| first
  | (with_reducible refine rFld ?_)
  | (with_reducible refine rSFld ?_)
  | (with_reducible refine rMake ?_)
  | (with_reducible refine rMeth ?_)
  | (with_reducible refine rForT ?_)
  | (with_reducible refine rLcT ?_)
  | (with_reducible refine rLcO ?_)
  | (with_reducible refine rForO ?_)
  | (with_reducible refine rLstY ?_)
  | ((with_reducible refine rRt (xs := ?xs) ?h1 ?_); (case h1 => walk_at "hp"))
  | ((with_reducible refine listY_lst (xs := ?xs) ?h1 ?_); (case h1 => walk_at "hp"))
  | ((with_reducible refine listY_tup (xs := ?xs) ?h1 ?_); (case h1 => walk_at "hp")))

structure F_Node (K : PySem.W.Frag) (mg : Str → Option Value) (C : Addr) : Prop where
  u : ClsF K mg C "Node"
  n_kind : NoAttr K C "kind"
  n_symbol : NoAttr K C "symbol"
  n_state : NoAttr K C "state"
  n_lead : NoAttr K C "lead"
  n_width : NoAttr K C "width"
  n_look : NoAttr K C "look"
  n_alternative : NoAttr K C "alternative"
  n_nodes : NoAttr K C "nodes"
  n_popped : NoAttr K C "popped"
/-! ## nodes as objects -/
def nodF (d : Dt) (ns : V) : List (Str × V) := [("kind", .str d.k), ("symbol", .str d.s), ("state", .int d.st), ("lead", .int d.ld), ("width", .int d.wd), ("look", .int d.lk), ("alternative", .int d.al), ("nodes", ns), ("popped", .int d.pp)]
section
variable {d : Dt} {ns : V}
theorem nodF_kind : (nodF d ns).lookup ("kind" : Str) = some (.str d.k) := lke
theorem nodF_symbol : (nodF d ns).lookup ("symbol" : Str) = some (.str d.s) := (lkn (by decide +kernel) lke)
theorem nodF_state : (nodF d ns).lookup ("state" : Str) = some (.int d.st) := (lkn (by decide +kernel) (lkn (by decide +kernel) lke))
theorem nodF_lead : (nodF d ns).lookup ("lead" : Str) = some (.int d.ld) := (lkn (by decide +kernel) (lkn (by decide +kernel) (lkn (by decide +kernel) lke)))
theorem nodF_width : (nodF d ns).lookup ("width" : Str) = some (.int d.wd) := (lkn (by decide +kernel) (lkn (by decide +kernel) (lkn (by decide +kernel) (lkn (by decide +kernel) lke))))
theorem nodF_look : (nodF d ns).lookup ("look" : Str) = some (.int d.lk) := (lkn (by decide +kernel) (lkn (by decide +kernel) (lkn (by decide +kernel) (lkn (by decide +kernel) (lkn (by decide +kernel) lke)))))
theorem nodF_alternative : (nodF d ns).lookup ("alternative" : Str) = some (.int d.al) := (lkn (by decide +kernel) (lkn (by decide +kernel) (lkn (by decide +kernel) (lkn (by decide +kernel) (lkn (by decide +kernel) (lkn (by decide +kernel) lke))))))
theorem nodF_nodes : (nodF d ns).lookup ("nodes" : Str) = some (ns) := (lkn (by decide +kernel) (lkn (by decide +kernel) (lkn (by decide +kernel) (lkn (by decide +kernel) (lkn (by decide +kernel) (lkn (by decide +kernel) (lkn (by decide +kernel) lke)))))))
theorem nodF_popped : (nodF d ns).lookup ("popped" : Str) = some (.int d.pp) := (lkn (by decide +kernel) (lkn (by decide +kernel) (lkn (by decide +kernel) (lkn (by decide +kernel) (lkn (by decide +kernel) (lkn (by decide +kernel) (lkn (by decide +kernel) (lkn (by decide +kernel) lke))))))))
theorem putN {f : Str} {v : V} {l : List (Str × V)} (ks : List Str) (e : l.map Prod.fst = ks) (h : (ks.all fun k => !decide (k = f)) = true) : putF f v l = l ++ [(f, v)] := by
  refine putF_new ?_
  rw [← e, List.all_map] at h
  exact h
end
theorem SL.ins {l p C dx : Addr} {H H' : Hp} {fs : List (Str × V)} (s : SL l H H') (h : H p = some (.ins C dx fs)) : H' p = some (.ins C dx fs) := (KpS.sl s).ins h
section
variable {K : PySem.W.Frag} {mg : Str → Option Value} {C p dx : Addr} {H : Hp} {d : Dt} {ns : V} {R : V → Prop}
theorem fN_kind (u : F_Node K mg C) (hp : H p = some (.ins C dx (nodF d ns))) (k : R (.str d.k)) : ∃ a C dx fs v, V.ref p = .ref a ∧ H a = some (.ins C dx fs) ∧ Cls K C ∧ NoAttr K C "kind" ∧ fs.lookup ("kind" : Str) = some v ∧ R v := fld_end hp u.u u.n_kind nodF_kind k
theorem fN_symbol (u : F_Node K mg C) (hp : H p = some (.ins C dx (nodF d ns))) (k : R (.str d.s)) : ∃ a C dx fs v, V.ref p = .ref a ∧ H a = some (.ins C dx fs) ∧ Cls K C ∧ NoAttr K C "symbol" ∧ fs.lookup ("symbol" : Str) = some v ∧ R v := fld_end hp u.u u.n_symbol nodF_symbol k
theorem fN_state (u : F_Node K mg C) (hp : H p = some (.ins C dx (nodF d ns))) (k : R (.int d.st)) : ∃ a C dx fs v, V.ref p = .ref a ∧ H a = some (.ins C dx fs) ∧ Cls K C ∧ NoAttr K C "state" ∧ fs.lookup ("state" : Str) = some v ∧ R v := fld_end hp u.u u.n_state nodF_state k
theorem fN_lead (u : F_Node K mg C) (hp : H p = some (.ins C dx (nodF d ns))) (k : R (.int d.ld)) : ∃ a C dx fs v, V.ref p = .ref a ∧ H a = some (.ins C dx fs) ∧ Cls K C ∧ NoAttr K C "lead" ∧ fs.lookup ("lead" : Str) = some v ∧ R v := fld_end hp u.u u.n_lead nodF_lead k
theorem fN_width (u : F_Node K mg C) (hp : H p = some (.ins C dx (nodF d ns))) (k : R (.int d.wd)) : ∃ a C dx fs v, V.ref p = .ref a ∧ H a = some (.ins C dx fs) ∧ Cls K C ∧ NoAttr K C "width" ∧ fs.lookup ("width" : Str) = some v ∧ R v := fld_end hp u.u u.n_width nodF_width k
theorem fN_look (u : F_Node K mg C) (hp : H p = some (.ins C dx (nodF d ns))) (k : R (.int d.lk)) : ∃ a C dx fs v, V.ref p = .ref a ∧ H a = some (.ins C dx fs) ∧ Cls K C ∧ NoAttr K C "look" ∧ fs.lookup ("look" : Str) = some v ∧ R v := fld_end hp u.u u.n_look nodF_look k
theorem fN_alternative (u : F_Node K mg C) (hp : H p = some (.ins C dx (nodF d ns))) (k : R (.int d.al)) : ∃ a C dx fs v, V.ref p = .ref a ∧ H a = some (.ins C dx fs) ∧ Cls K C ∧ NoAttr K C "alternative" ∧ fs.lookup ("alternative" : Str) = some v ∧ R v := fld_end hp u.u u.n_alternative nodF_alternative k
theorem fN_nodes (u : F_Node K mg C) (hp : H p = some (.ins C dx (nodF d ns))) (k : R (ns)) : ∃ a C dx fs v, V.ref p = .ref a ∧ H a = some (.ins C dx fs) ∧ Cls K C ∧ NoAttr K C "nodes" ∧ fs.lookup ("nodes" : Str) = some v ∧ R v := fld_end hp u.u u.n_nodes nodF_nodes k
theorem fN_popped (u : F_Node K mg C) (hp : H p = some (.ins C dx (nodF d ns))) (k : R (.int d.pp)) : ∃ a C dx fs v, V.ref p = .ref a ∧ H a = some (.ins C dx fs) ∧ Cls K C ∧ NoAttr K C "popped" ∧ fs.lookup ("popped" : Str) = some v ∧ R v := fld_end hp u.u u.n_popped nodF_popped k
end
/-- a row of nodes -/
def NodesAt (K : PySem.W.Frag) (C : Addr) (H : Hp) : List V → Fo → Prop
  | vs, .nil => vs = []
  | vs, .cons d k r => ∃ (p dx q : Addr) (us t : List V), vs = .ref p :: t ∧ H p = some (.ins C dx (nodF d (.ref q))) ∧ SqT K H q us ∧ NodesAt K C H us k ∧ NodesAt K C H t r
def NodeAt (K : PySem.W.Frag) (C : Addr) (H : Hp) (v : V) (d : Dt) (k : Fo) : Prop := ∃ (p dx q : Addr) (us : List V), v = .ref p ∧ H p = some (.ins C dx (nodF d (.ref q))) ∧ SqT K H q us ∧ NodesAt K C H us k
section
variable {K : PySem.W.Frag} {C : Addr} {H H' : Hp}
theorem NodesAt.kp (s : KpS H H') : ∀ {f : Fo} {vs : List V}, NodesAt K C H vs f → NodesAt K C H' vs f
  | .nil, _, h => h
  | .cons _ _ _, _, h => let ⟨p, dx, q, us, t, e, h1, h2, h3, h4⟩ := h; ⟨p, dx, q, us, t, e, s.ins h1, sqt_kp s h2, NodesAt.kp s h3, NodesAt.kp s h4⟩
theorem NodeAt.kp (s : KpS H H') {v : V} {d : Dt} {k : Fo} (h : NodeAt K C H v d k) : NodeAt K C H' v d k := let ⟨p, dx, q, us, e, h1, h2, h3⟩ := h; ⟨p, dx, q, us, e, s.ins h1, sqt_kp s h2, NodesAt.kp s h3⟩
theorem NodesAt.len : ∀ {f : Fo} {vs : List V}, NodesAt K C H vs f → vs.length = f.len
  | .nil, _, h => by rw [show _ = [] from h]; rfl
  | .cons _ _ _, _, h => by
    obtain ⟨p, dx, q, us, t, rfl, h1, h2, h3, h4⟩ := h
    rw [List.length_cons, NodesAt.len h4]
    rfl
theorem NodesAt.cons {v : V} {t : List V} {d : Dt} {k r : Fo} (h : NodeAt K C H v d k) (ht : NodesAt K C H t r) : NodesAt K C H (v :: t) (.cons d k r) := by
  obtain ⟨p, dx, q, us, rfl, h1, h2, h3⟩ := h
  exact ⟨p, dx, q, us, t, rfl, h1, h2, h3, ht⟩
end
/-! ## rows as tuples -/
def rwV (r : Rw) : List V := [.int r.lv, .str r.d.k, .str r.d.s, .int r.d.st, .int r.d.ld, .int r.d.wd, .int r.d.lk, .int r.d.al, .int r.d.pp]
def RowAt (H : Hp) (v : V) (r : Rw) : Prop := ∃ p, v = .ref p ∧ H p = some (.tup (rwV r))
abbrev Rows (H : Hp) : List V → List Rw → Prop := Paired (RowAt H)
theorem RowAt.ts {H H' : Hp} {v : V} {r : Rw} (s : TpS H H') (h : RowAt H v r) : RowAt H' v r := let ⟨p, e, q⟩ := h; ⟨p, e, s _ _ q⟩
theorem Rows.ts {H H' : Hp} {vs : List V} {rs : List Rw} (s : TpS H H') (h : Rows H vs rs) : Rows H' vs rs := Paired.imp (fun _ _ r => r.ts s) h
/-- a list of rows -/
def RowsIn (H : Hp) (p : Addr) (rows : List Rw) : Prop := ∃ vs, H p = some (.lst vs) ∧ Rows H vs rows
/-! ## promises -/
def sp_Node_init (K : PySem.W.Frag) (C : Addr) : Sp := fun vs H Q _ => ∃ (x dx : Addr) (d : Dt) (q : Addr) (us : List V), vs = [.ref x, .str d.k, .str d.s, .int d.st, .int d.ld, .int d.wd, .int d.lk, .int d.al, .ref q, .int d.pp] ∧ H x = some (.ins C dx []) ∧ SqT K H q us ∧ Q .non (upd H x (.ins C dx (nodF d (.ref q))))
def W_Node4 (C aNil : Addr) : List V → List V → Hp → VK → Prop := fun vs zs H Q => ∃ d : Dt, vs = [.str d.k, .str d.s] ∧ zs = [.int d.st, .int d.ld, .int d.wd, .int d.lk] ∧ d.al = -1 ∧ d.pp = 0 ∧ newI C (nodF d (.ref aNil)) H Q
def W_Node6 (K : PySem.W.Frag) (C : Addr) : List V → List V → Hp → VK → Prop := fun vs zs H Q => ∃ (d : Dt) (q : Addr) (us : List V), vs = [.str d.k, .str d.s] ∧ zs = [.int d.st, .int d.ld, .int d.wd, .int d.lk, .int d.al, .ref q] ∧ d.pp = 0 ∧ SqT K H q us ∧ newI C (nodF d (.ref q)) H Q
def W_Node7 (K : PySem.W.Frag) (C : Addr) : List V → List V → Hp → VK → Prop := fun vs zs H Q => ∃ (d : Dt) (q : Addr) (us : List V), vs = [.str d.k, .str d.s] ∧ zs = [.int d.st, .int d.ld, .int d.wd, .int d.lk, .int d.al, .ref q, .int d.pp] ∧ SqT K H q us ∧ newI C (nodF d (.ref q)) H Q
theorem sqt_new {K : PySem.W.Frag} {H : Hp} {x dx : Addr} {o1 o2 : HO} {q : Addr} {us : List V} (hx : H x = none) (hd : H dx = none) (h : SqT K H q us) : SqT K (upd (upd H dx o1) x o2) q us := by
  refine sqt_kp (fun a o e _ => ?_) h
  rw [upd_ne (ne_of_none e hx), upd_ne (ne_of_none e hd)]
  exact e
theorem mk_Node4 {K : PySem.W.Frag} {C aNil : Addr} (nil : ∀ H, SqT K H aNil []) : ∀ vs zs H1 Q, W_Node4 C aNil vs zs H1 Q → vs.length = 2 ∧ zs.length = 4 ∧ ∀ x dx, H1 x = none → H1 dx = none → dx ≠ x →
    sp_Node_init K C (gKW [.int (-1), .ref aNil, .int (0)] (.ref x :: vs) zs) (upd (upd H1 dx (.own x)) x (.ins C dx [])) (fun v H3 => v = .non ∧ Q (.ref x) H3) C8.E0 := by
  rintro vs zs H1 Q ⟨d, rfl, rfl, ha, hp, h⟩
  refine ⟨rfl, rfl, fun x dx hx hd hdx => ⟨x, dx, d, aNil, [], ?_, upd_same, nil _, rfl, h x dx _ hx (same_ins hx hd hdx) upd_same⟩⟩
  rw [ha, hp]
  rfl
theorem mk_Node6 {K : PySem.W.Frag} {C : Addr} : ∀ vs zs H1 Q, W_Node6 K C vs zs H1 Q → vs.length = 2 ∧ zs.length = 6 ∧ ∀ x dx, H1 x = none → H1 dx = none → dx ≠ x →
    sp_Node_init K C (gKW [.int (0)] (.ref x :: vs) zs) (upd (upd H1 dx (.own x)) x (.ins C dx [])) (fun v H3 => v = .non ∧ Q (.ref x) H3) C8.E0 := by
  rintro vs zs H1 Q ⟨d, q, us, rfl, rfl, hp, hq, h⟩
  refine ⟨rfl, rfl, fun x dx hx hd hdx => ⟨x, dx, d, q, us, ?_, upd_same, sqt_new hx hd hq, rfl, h x dx _ hx (same_ins hx hd hdx) upd_same⟩⟩
  rw [hp]
  rfl
theorem mk_Node7 {K : PySem.W.Frag} {C : Addr} : ∀ vs zs H1 Q, W_Node7 K C vs zs H1 Q → vs.length = 2 ∧ zs.length = 7 ∧ ∀ x dx, H1 x = none → H1 dx = none → dx ≠ x →
    sp_Node_init K C (gKW [] (.ref x :: vs) zs) (upd (upd H1 dx (.own x)) x (.ins C dx [])) (fun v H3 => v = .non ∧ Q (.ref x) H3) C8.E0 := by
  rintro vs zs H1 Q ⟨d, q, us, rfl, rfl, hq, h⟩
  exact ⟨rfl, rfl, fun x dx hx hd hdx => ⟨x, dx, d, q, us, rfl, upd_same, sqt_new hx hd hq, rfl, h x dx _ hx (same_ins hx hd hdx) upd_same⟩⟩
section
variable {P : Program} {w : World} {K : PySem.W.Frag} {mg : Str → Option Value} {base : Heap} {aNode aNil : Addr}
theorem fni_Node {f : Addr} {fd : FuncData} (T : Txt mg) (FU : C8.Fun K "__init__" "Node.__init__" s_Node___init__ f fd) (u_Node : F_Node K mg aNode) : FnOk P w K mg base C8.CX0 1 f fd ["self", "kind", "symbol", "state", "lead", "width", "look", "alternative", "nodes", "popped"] (sp_Node_init K aNode) := by
  refine C8.fn0 FU sc_Node___init__ (fun vs H Q E h => ?_) (fun cdv A outer s H vs Q E hr h => ?_)
  · obtain ⟨x, dx, d, q, us, rfl, _⟩ := h; rfl
  · obtain ⟨x, dx, d, q, us, rfl, hx, hq, k⟩ := h
    refine ⟨_, (pss_cons (ps_fldK (K := K) (pv 0) (pv 1) rfl)
  (pss_cons (ps_fldK (K := K) (pv 0) (pv 2) rfl)
  (pss_cons (ps_fldK (K := K) (pv 0) (pv 3) rfl)
  (pss_cons (ps_fldK (K := K) (pv 0) (pv 4) rfl)
  (pss_cons (ps_fldK (K := K) (pv 0) (pv 5) rfl)
  (pss_cons (ps_fldK (K := K) (pv 0) (pv 6) rfl)
  (pss_cons (ps_fldK (K := K) (pv 0) (pv 7) rfl)
  (pss_cons (ps_fldK (K := K) (pv 0) (pe_callTy (call_tupleK K) (by rfl) T.n_tuple (by decide +kernel) (pa_cons (pv 8) pa_nil)) rfl)
  (pss_one (ps_fldK (K := K) (pv 0) (pv 9) rfl)))))))))), ?_⟩
    show (_ : TS) _ [some (.ref x), some (.str d.k), some (.str d.s), some (.int d.st), some (.int d.ld), some (.int d.wd), some (.int d.lk), some (.int d.al), some (.ref q), some (.int d.pp)] H
    walk_at "rd"
    refine ⟨x, aNode, dx, _, rfl, hx, u_Node.u.cl, u_Node.n_kind, by show 0 < 1000; omega, ?_⟩
    rw [putN [] rfl (by decide +kernel)]
    walk_at "rd"
    refine ⟨x, aNode, dx, _, rfl, upd_same, u_Node.u.cl, u_Node.n_symbol, by show 1 < 1000; omega, ?_⟩
    rw [putN ["kind"] rfl (by decide +kernel), upd_upd]
    walk_at "rd"
    refine ⟨x, aNode, dx, _, rfl, upd_same, u_Node.u.cl, u_Node.n_state, by show 2 < 1000; omega, ?_⟩
    rw [putN ["kind", "symbol"] rfl (by decide +kernel), upd_upd]
    walk_at "rd"
    refine ⟨x, aNode, dx, _, rfl, upd_same, u_Node.u.cl, u_Node.n_lead, by show 3 < 1000; omega, ?_⟩
    rw [putN ["kind", "symbol", "state"] rfl (by decide +kernel), upd_upd]
    walk_at "rd"
    refine ⟨x, aNode, dx, _, rfl, upd_same, u_Node.u.cl, u_Node.n_width, by show 4 < 1000; omega, ?_⟩
    rw [putN ["kind", "symbol", "state", "lead"] rfl (by decide +kernel), upd_upd]
    walk_at "rd"
    refine ⟨x, aNode, dx, _, rfl, upd_same, u_Node.u.cl, u_Node.n_look, by show 5 < 1000; omega, ?_⟩
    rw [putN ["kind", "symbol", "state", "lead", "width"] rfl (by decide +kernel), upd_upd]
    walk_at "rd"
    refine ⟨x, aNode, dx, _, rfl, upd_same, u_Node.u.cl, u_Node.n_alternative, by show 6 < 1000; omega, ?_⟩
    rw [putN ["kind", "symbol", "state", "lead", "width", "look"] rfl (by decide +kernel), upd_upd]
    walk_at "rd"
    refine tuple_sqt (sqt_up hq hx) ?_
    walk_at "rd"
    refine ⟨x, aNode, dx, _, rfl, upd_same, u_Node.u.cl, u_Node.n_nodes, by show 7 < 1000; omega, ?_⟩
    rw [putN ["kind", "symbol", "state", "lead", "width", "look", "alternative"] rfl (by decide +kernel), upd_upd]
    walk_at "rd"
    refine ⟨x, aNode, dx, _, rfl, upd_same, u_Node.u.cl, u_Node.n_popped, by show 8 < 1000; omega, ?_⟩
    rw [putN ["kind", "symbol", "state", "lead", "width", "look", "alternative", "nodes"] rfl (by decide +kernel), upd_upd]
    exact k
end
end Z
namespace Z
open PySem PySem.Spec L2 ItX
local macro_rules | `(tactic| walk_at "ne") => `(tactic| first
  | with_reducible assumption
  | with_reducible exact Ne.symm (by assumption)
  | exact Frs.ne (by with_reducible assumption) (by walk_at "hp")
  | exact Frs.ne' (by with_reducible assumption) (by walk_at "hp"))
local macro_rules | `(tactic| walk_at "hp") => `(tactic| first
  | with_reducible assumption
  | (with_reducible refine Same.at (by assumption) ?_; walk_at "hp")
  | (with_reducible refine SL.tup (by assumption) ?_; walk_at "hp")
  | (with_reducible refine SL.at (by assumption) (by walk_at "ne") ?_; walk_at "hp"))
local macro_rules | `(tactic| walk_at "sz") => `(tactic| first
  | with_reducible assumption
  | exact Nat.le_of_ble_eq_true rfl
  | (refine sz_le ?_; omega)
  | (refine sz_lt ?_; omega)
  | decide +kernel)
local macro_rules | `(tactic| walk_at "at") => `(tactic| first
  | with_reducible assumption
  | with_reducible exact at0
  | with_reducible exact at1
  | with_reducible exact at2
  | with_reducible exact ixN0)
local macro_rules | `(tactic| walk_at "nn") => `(tactic| first
  | omega
  | decide
  | exact ⟨by decide, by decide⟩
  | exact ⟨by omega, by omega⟩
  | exact ⟨by omega, by omega, by omega, by omega⟩)
local macro_rules | `(tactic| walk_at "rdv") => `(tactic| first
  | (with_reducible refine add_int ?_)
  | (with_reducible refine sub_int ?_)
  | (with_reducible refine neg_int ?_)
  | ((with_reducible refine ix_tpl (xs := ?xs) (v := ?v) ?h1 ?h2 ?_); (case h1 => walk_at "hp"); (case h2 => walk_at "at"))
  | ((with_reducible refine ix_lst (xs := ?xs) (v := ?v) ?h1 ?h2 ?_); (case h1 => walk_at "hp"); (case h2 => walk_at "at"))
  | (with_reducible refine eq_int ?_)
  | (with_reducible refine ne_int ?_)
  | (with_reducible refine lt_int ?_)
  | (with_reducible refine le_int ?_)
  | (with_reducible refine gt_int ?_)
  | (with_reducible refine ge_int ?_)
  | (with_reducible refine eq_str ?_)
  | (with_reducible refine ne_str ?_)
  | (with_reducible refine eq_bl ?_)
  | (with_reducible refine ne_bl ?_)
  | ((with_reducible refine mod_int ?hc ?_); (case hc => walk_at "nn"))
  | ((with_reducible refine div_int ?hc ?_); (case hc => walk_at "nn"))
  | ((with_reducible refine mul_intR ?hc ?_); (case hc => exact ⟨by decide, by decide⟩))
  | ((with_reducible refine mul_intR ?hc ?_); (case hc => exact ⟨by omega, by omega⟩))
  | ((with_reducible refine mul_intL ?hc ?_); (case hc => exact ⟨by omega, by omega⟩))
  | ((with_reducible refine pow_int ?hc ?_); (case hc => exact ⟨by decide, by decide, by decide⟩))
  | ((with_reducible refine add_str ?hc ?_); (case hc => walk_at "sz"))
  | ((with_reducible refine add_lst (xs := ?xs) (ys := ?ys) ?h1 ?h2 ?hc ?_); (case h1 => walk_at "hp"); (case h2 => walk_at "hp"); (case hc => walk_at "sz"))
  | ((with_reducible refine sl_strU ?hc ?_); (case hc => walk_at "sz"))
  | ((with_reducible refine sl_lst (xs := ?xs) ?h1 ?_); (case h1 => walk_at "hp"))
  | (with_reducible refine is_bl ?_)
  | (with_reducible refine isnt_bl ?_)
  | (with_reducible refine is_non ?_)
  | (with_reducible refine isnt_non ?_))
local macro_rules | `(tactic| walk_at "rdc") => `(tactic| first
  | ((with_reducible refine len_lst (xs := ?xs) ?h1 ?_); (case h1 => walk_at "hp"))
  | ((with_reducible refine len_tup (xs := ?xs) ?h1 ?_); (case h1 => walk_at "hp"))
  | ((with_reducible refine len_str ?hc ?_); (case hc => walk_at "sz"))
  | (with_reducible refine int_int ?_)
  | (with_reducible refine max_int ?_)
  | (with_reducible refine min_int ?_)
  | (with_reducible refine abs_int ?_)
  | (with_reducible refine isi_ii ?_)
  | (with_reducible refine isi_ib ?_)
  | (with_reducible refine isi_ss ?_)
  | (with_reducible refine isi_bb ?_)
  | ((with_reducible refine isi_tt (xs := ?xs) ?h1 ?_); (case h1 => walk_at "hp"))
  | ((with_reducible refine isi_ll (xs := ?xs) ?h1 ?_); (case h1 => walk_at "hp"))
  | ((with_reducible refine list_lst (xs := ?xs) ?h1 ?_); (case h1 => walk_at "hp"))
  | ((with_reducible refine list_tup (xs := ?xs) ?h1 ?_); (case h1 => walk_at "hp"))
  | ((with_reducible refine tuple_lst (xs := ?xs) ?h1 ?_); (case h1 => walk_at "hp"))
  | ((with_reducible refine tuple_tup (xs := ?xs) ?h1 ?_); (case h1 => walk_at "hp"))
  | ((with_reducible refine append_lst (xs := ?xs) ?h1 ?hc ?_); (case h1 => walk_at "hp"); (case hc => walk_at "sz"))
  | ((with_reducible refine clear_lst (xs := ?xs) ?h1 ?_); (case h1 => walk_at "hp"))
  | ((with_reducible refine set_lst (xs := ?xs) (k := ?k) ?h1 ?h2 ?_); (case h1 => walk_at "hp"); (case h2 => walk_at "at")))
local macro_rules | `(tactic| walk_at "rd1") => `(tactic| first
  | ((with_reducible refine rVar (v := ?v) ?h ?_); (case h => exact rfl))
  | (with_reducible refine rC ?_)
  | (with_reducible refine rCons ?_)
  | (with_reducible refine rNil ?_)
  | (with_reducible refine rOp ?_)
  | (with_reducible refine rSeq ?_)
  | (with_reducible refine rAsgN ?_)
  | (with_reducible refine rAsgT ?_)
  | (with_reducible refine rAsgS ?_)
  | (with_reducible refine rTest ?_)
  | (with_reducible refine rBl ?_)
  | (with_reducible refine rBl' ?_)
  | (with_reducible refine rInt ?_)
  | (with_reducible refine rInt' ?_)
  | (with_reducible refine rCall ?_)
  | (with_reducible refine rCB ?_)
  | (with_reducible refine rRet ?_)
  | (with_reducible refine rDrop ?_)
  | (with_reducible refine rIfS ?_)
  | (with_reducible refine rTup ?_)
  | (with_reducible refine rLst ?_)
  | (with_reducible refine ⟨Nat.le_of_ble_eq_true rfl, ?_⟩)
  | (with_reducible refine rSl ?_)
  | (with_reducible refine rPart ?_)
  | (with_reducible refine rNoPart ?_)
  | (with_reducible refine rBM ?_)
  | (with_reducible refine rBM0 ?_)
  | ((with_reducible refine tyL (xs := ?xs) ?h1 ?_); (case h1 => walk_at "hp"))
  | (with_reducible refine rM1 ?_)
  | (with_reducible refine rM0 ?_)
  | (with_reducible refine rStr ?_)
  | (with_reducible refine rTru ?_)
  | (with_reducible refine tru_bl ?_)
  | (with_reducible refine tru_int ?_)
  | ((with_reducible refine tru_lst (xs := ?xs) ?h1 ?_); (case h1 => walk_at "hp"))
  | ((with_reducible refine tru_tup (xs := ?xs) ?h1 ?_); (case h1 => walk_at "hp"))
  | ((with_reducible refine tru_str ?hc ?_); (case hc => walk_at "sz"))
  | (with_reducible refine rAnd ?_)
  | (with_reducible refine rOr ?_)
  | (with_reducible refine rNot ?_)
  | (with_reducible refine rAndV ?_)
  | (with_reducible refine rOrV ?_)
  | (with_reducible refine rNotV ?_)
  | (with_reducible refine rIfE ?_)
  | (with_reducible refine rChain ?_)
  | (with_reducible refine rChain3 ?_)
  | (with_reducible refine ifT ?_)
  | (with_reducible refine ifF ?_)
  | (with_reducible refine ifNF ?_)
  | (with_reducible refine ifNT ?_)
  | (with_reducible refine rNext ?_)
  | (with_reducible refine rBrk ?_)
  | (with_reducible refine rCnt ?_)
  | (with_reducible refine rRetN ?_)
  | (with_reducible refine rForR1 ?_)
  | (with_reducible refine rForR2 ?_)
  | (with_reducible refine rForL ?_)
  | ((with_reducible refine rRg1 ?hb ?_); (case hb => walk_at "nn"))
  | ((with_reducible refine rRg2 ?hb ?_); (case hb => walk_at "nn"))
  | ((with_reducible refine rRf (xs := ?xs) ?h1 ?_); (case h1 => walk_at "hp"))
  | (with_reducible refine rLcR1 ?_)
  | (with_reducible refine rLcR2 ?_)
  | (with_reducible refine rLcL ?_)
  | (with_reducible refine gN ?_)
  | (with_reducible refine gNl ?_)
  | (with_reducible refine gC ?_)
  | ((with_reducible refine gT (xs := ?xs) ?h1 ?h2 ?_); (case h1 => walk_at "hp"); (case h2 => exact rfl))
  | (with_reducible refine rUn ?_)
  | walk_at "rdv"
  | walk_at "rdc")
local macro_rules | `(tactic| walk_at "rd") => `(tactic| repeat walk_at "rd1")

local macro_rules | `(tactic| walk_at "rd1") => `(tactic| first
  | (with_reducible refine rCallS ?_)
  | (with_reducible refine rRaise ?_)
  | (with_reducible refine rXf ?_)
  | (with_reducible refine rXi ?_)
  | (with_reducible refine rOst ?_)
  | (with_reducible refine rRevL ?_)
  | ((with_reducible refine revL_end (xs := ?xs) ?h1 ?_); (case h1 => walk_at "hp")))

local macro_rules | `(tactic| walk_at "rd1") => `(tactic| first
  | (with_reducible refine rForR3 ?_)
  | ((with_reducible refine rRgD ?hb ?_); (case hb => walk_at "nn"))
  | (with_reducible refine gS ?_))

local macro_rules | `(tactic| walk_at "rd1") => `(tactic| first
  | (with_reducible refine rFld ?_)
  | (with_reducible refine rSFld ?_)
  | (with_reducible refine rMake ?_)
  | (with_reducible refine rMeth ?_)
  | (with_reducible refine rForT ?_)
  | (with_reducible refine rLcT ?_)
  | (with_reducible refine rLcO ?_)
  | (with_reducible refine rForO ?_)
  | (with_reducible refine rLstY ?_)
  | ((with_reducible refine rRt (xs := ?xs) ?h1 ?_); (case h1 => walk_at "hp"))
  | ((with_reducible refine listY_lst (xs := ?xs) ?h1 ?_); (case h1 => walk_at "hp"))
  | ((with_reducible refine listY_tup (xs := ?xs) ?h1 ?_); (case h1 => walk_at "hp")))

local macro_rules | `(tactic| walk_at "hp") => `(tactic| first
  | (with_reducible refine SL.ins (by assumption) ?_; walk_at "hp"))
local macro_rules | `(tactic| walk_at "at") => `(tactic| first
  | with_reducible exact at3
  | with_reducible exact at4
  | with_reducible exact at5
  | with_reducible exact at6
  | with_reducible exact at7
  | with_reducible exact at8)
local macro_rules | `(tactic| walk_at "rd1") => `(tactic| first
  | (with_reducible refine rMkWK ?_)
  | (with_reducible refine rForS ?_)
  | (with_reducible refine rDGet ?_)
  | (with_reducible refine rDPut ?_)
  | (with_reducible refine rIts ?_)
  | (with_reducible refine rLstRg ?_)
  | ((with_reducible refine reverse_lst (xs := ?xs) ?h1 ?_); (case h1 => walk_at "hp"))
  | ((with_reducible refine extend_lst (xs := ?xs) (ys := ?ys) ?h1 ?h2 ?hc ?_); (case h1 => walk_at "hp"); (case h2 => walk_at "hp"); (case hc => walk_at "sz"))
  | ((with_reducible refine fN_kind (mg := ?mg) (C := ?C) (dx := ?dx) (d := ?d) (ns := ?ns) ?hu ?hp ?_); (case hu => with_reducible assumption); (case hp => walk_at "hp"))
  | ((with_reducible refine fN_symbol (mg := ?mg) (C := ?C) (dx := ?dx) (d := ?d) (ns := ?ns) ?hu ?hp ?_); (case hu => with_reducible assumption); (case hp => walk_at "hp"))
  | ((with_reducible refine fN_state (mg := ?mg) (C := ?C) (dx := ?dx) (d := ?d) (ns := ?ns) ?hu ?hp ?_); (case hu => with_reducible assumption); (case hp => walk_at "hp"))
  | ((with_reducible refine fN_lead (mg := ?mg) (C := ?C) (dx := ?dx) (d := ?d) (ns := ?ns) ?hu ?hp ?_); (case hu => with_reducible assumption); (case hp => walk_at "hp"))
  | ((with_reducible refine fN_width (mg := ?mg) (C := ?C) (dx := ?dx) (d := ?d) (ns := ?ns) ?hu ?hp ?_); (case hu => with_reducible assumption); (case hp => walk_at "hp"))
  | ((with_reducible refine fN_look (mg := ?mg) (C := ?C) (dx := ?dx) (d := ?d) (ns := ?ns) ?hu ?hp ?_); (case hu => with_reducible assumption); (case hp => walk_at "hp"))
  | ((with_reducible refine fN_alternative (mg := ?mg) (C := ?C) (dx := ?dx) (d := ?d) (ns := ?ns) ?hu ?hp ?_); (case hu => with_reducible assumption); (case hp => walk_at "hp"))
  | ((with_reducible refine fN_nodes (mg := ?mg) (C := ?C) (dx := ?dx) (d := ?d) (ns := ?ns) ?hu ?hp ?_); (case hu => with_reducible assumption); (case hp => walk_at "hp"))
  | ((with_reducible refine fN_popped (mg := ?mg) (C := ?C) (dx := ?dx) (d := ?d) (ns := ?ns) ?hu ?hp ?_); (case hu => with_reducible assumption); (case hp => walk_at "hp")))

local macro_rules | `(tactic| walk_at "rd1") => `(tactic| first
  | (with_reducible refine nin_sign ?_)
  | (with_reducible refine in_sign ?_)
  | (with_reducible refine rForET ?_)
  | (with_reducible refine rForEL ?_)
  | (with_reducible refine rLcRev ?_)
  | ((with_reducible refine ix_str (c := ?c) ?hl ?h2 ?_); (case hl => walk_at "sz"); (case h2 => with_reducible assumption))
  | (with_reducible refine rAsgU ?_)
  | ((with_reducible refine gUl (xs := ?xs) ?h1 ?h2 ?_); (case h1 => walk_at "hp"); (case h2 => exact rfl)))

/-! ## the tree reader, walked -/
def NdAt (K : PySem.W.Frag) (C : Addr) (H : Hp) (v : V) (e : Dt × Fo) : Prop := NodeAt K C H v e.1 e.2
theorem nodes_ks {K : PySem.W.Frag} {C : Addr} {H : Hp} : ∀ {us : List V} {ks : Ks}, Paired (NdAt K C H) us ks → NodesAt K C H us (kFo ks)
  | _, _, .nil => rfl
  | _, _, .cons r t => NodesAt.cons r (nodes_ks t)
structure Frm where
  t : Addr
  l : Addr
  q : Addr
  us : List V
structure FrAt (K : PySem.W.Frag) (C : Addr) (H : Hp) (f : Frm) (e : Dt × Ks) : Prop where
  ht : H f.t = some (.tup [.ref f.l, .ref f.q])
  hl : H f.l = some (.lst (dtV e.1))
  hq : H f.q = some (.lst f.us)
  hu : Paired (NdAt K C H) f.us e.2
theorem FrAt.sm {K : PySem.W.Frag} {C : Addr} {H H' : Hp} {f : Frm} {e : Dt × Ks} (h : FrAt K C H f e) (s : Same H H') : FrAt K C H' f e := ⟨s _ _ h.ht, s _ _ h.hl, s _ _ h.hq, Paired.imp (fun _ _ r => NodeAt.kp (KpS.same s) r) h.hu⟩
theorem FrAt.sl {K : PySem.W.Frag} {C x : Addr} {H H' : Hp} {f : Frm} {e : Dt × Ks} (h : FrAt K C H f e) (s : SL x H H') (h1 : f.l ≠ x) (h2 : f.q ≠ x) : FrAt K C H' f e := ⟨s.tup h.ht, s.at h1 h.hl, s.at h2 h.hq, Paired.imp (fun _ _ r => NodeAt.kp (KpS.sl s) r) h.hu⟩
/-- the lists of the frames are apart -/
structure Dst (ab : Addr) (fs : List Frm) : Prop where
  ab : ∀ f ∈ fs, f.l ≠ ab ∧ f.q ≠ ab
  nd : (fs.map (·.q)).Nodup
  lq : ∀ f ∈ fs, ∀ g ∈ fs, f.l ≠ g.q
theorem Dst.tail {ab : Addr} {f : Frm} {fs : List Frm} (h : Dst ab (f :: fs)) : Dst ab fs := ⟨fun g hg => h.ab g (List.mem_cons_of_mem _ hg), (List.nodup_cons.mp h.nd).2, fun g hg k hk => h.lq g (List.mem_cons_of_mem _ hg) k (List.mem_cons_of_mem _ hk)⟩
theorem Dst.apart {ab : Addr} {f g : Frm} {fs : List Frm} (h : Dst ab (f :: fs)) (hg : g ∈ fs) : g.q ≠ f.q ∧ g.l ≠ f.q :=
  ⟨fun e => (List.nodup_cons.mp h.nd).1 (List.mem_map.mpr ⟨g, hg, e⟩), h.lq g (List.mem_cons_of_mem _ hg) f (List.mem_cons_self ..)⟩
theorem Paired.mem_l {α β : Type} {F : α → β → Prop} : ∀ {xs : List α} {ys : List β}, Paired F xs ys → ∀ x ∈ xs, ∃ y, F x y
  | _, _, .nil, x, h => nomatch h
  | _, _, .cons r t, x, h => by
    rcases List.mem_cons.mp h with rfl | h
    · exact ⟨_, r⟩
    · exact Paired.mem_l t x h
theorem Paired.imp_m {α β : Type} {F G : α → β → Prop} : ∀ {xs : List α} {ys : List β}, (∀ x ∈ xs, ∀ y, F x y → G x y) → Paired F xs ys → Paired G xs ys
  | _, _, _, .nil => .nil
  | _, _, h, .cons r t => .cons (h _ (List.mem_cons_self ..) _ r) (Paired.imp_m (fun x hx => h x (List.mem_cons_of_mem _ hx)) t)
theorem Dst.upd {ab : Addr} {f : Frm} {fs : List Frm} (h : Dst ab (f :: fs)) (us : List V) : Dst ab (⟨f.t, f.l, f.q, us⟩ :: fs) := by
  refine ⟨fun g hg => ?_, h.nd, fun g hg k hk => ?_⟩
  · rcases List.mem_cons.mp hg with rfl | hg
    · exact h.ab f (List.mem_cons_self ..)
    · exact h.ab g (List.mem_cons_of_mem _ hg)
  · rcases List.mem_cons.mp hg with rfl | hg
    · rcases List.mem_cons.mp hk with rfl | hk
      · exact h.lq f (List.mem_cons_self ..) f (List.mem_cons_self ..)
      · exact h.lq f (List.mem_cons_self ..) k (List.mem_cons_of_mem _ hk)
    · rcases List.mem_cons.mp hk with rfl | hk
      · exact h.lq g (List.mem_cons_of_mem _ hg) f (List.mem_cons_self ..)
      · exact h.lq g (List.mem_cons_of_mem _ hg) k (List.mem_cons_of_mem _ hk)
def szS (st : Stk) : Nat := (st.map fun e => 1 + e.2.length).sum
theorem szS_cons (d : Dt) (ks : Ks) (st : Stk) : szS ((d, ks) :: st) = 1 + ks.length + szS st := by unfold szS; rw [List.map_cons, List.sum_cons]
theorem szS_len (st : Stk) : st.length ≤ szS st := by
  induction st with
  | nil => exact Nat.zero_le _
  | cons e st ih => obtain ⟨d, ks⟩ := e; rw [szS_cons, List.length_cons]; omega
def abV (fs : List Frm) : List V := (fs.map fun f => V.ref f.t).reverse
theorem abV_len (fs : List Frm) : (abV fs).length = fs.length := by unfold abV; rw [List.length_reverse, List.length_map]
theorem abV_cons (f : Frm) (fs : List Frm) : abV (f :: fs) = abV fs ++ [.ref f.t] := by unfold abV; rw [List.map_cons, List.reverse_cons]
def sp_built_node (K : PySem.W.Frag) (C : Addr) : Sp := fun vs H Q _ => ∃ (l q : Addr) (d : Dt) (us : List V), vs = [.ref l, .ref q] ∧ H l = some (.lst (dtV d)) ∧ H q = some (.lst us) ∧ ∀ (p dx t : Addr) (H' : Hp), Same H H' → H' p = some (.ins C dx (nodF d (.ref t))) → H' t = some (.tup us) → Q (.ref p) H'
theorem use_built {K : PySem.W.Frag} {C l q : Addr} {d : Dt} {us : List V} {H : Hp} {Q : VK} {E : XK} (h1 : H l = some (.lst (dtV d))) (h2 : H q = some (.lst us)) (h : ∀ (p dx t : Addr) (H' : Hp), Same H H' → H' p = some (.ins C dx (nodF d (.ref t))) → H' t = some (.tup us) → Q (.ref p) H') : sp_built_node K C [.ref l, .ref q] H Q E := ⟨l, q, d, us, rfl, h1, h2, h⟩
def sp_read_tree (K : PySem.W.Frag) (C aE : Addr) : Sp := fun vs H Q E => ∃ (z : Str) (R : Pz (Dt × Fo)), vs = [.str z] ∧ z.length ≤ 9000000 ∧ Run R true (TL.tl z) [] ∧ (∀ d k, R = .ok (d, k) → ∀ v H', Same H H' → NodeAt K C H' v d k → Q v H') ∧ ∀ e, R = .error e → BadP aE (z.length - e.length) H E
section
variable {P : Program} {w : World} {K : PySem.W.Frag} {mg : Str → Option Value} {base : Heap} {aE aNode aNil : Addr}
theorem cal_built_node {f : Addr} {fd : FuncData} (T : Txt mg) (FD : C8.Def K mg "built_node" s_built_node f fd) (b : Binds K fd ["words", "nodes"] [])
    (c_Node_init7 : MakK P w K mg base 1 "Node" aNode 2 ["state", "lead", "width", "look", "alternative", "nodes", "popped"] (sp_Node_init K aNode) (gKW [])) : C8.Cal P w K mg base 3 "built_node" (sp_built_node K aNode) [] := by
  refine C8.cal0 FD b .nil sc_built_node (fun vs H Q E h => ?_) (fun cdv A outer s H vs Q E hr h => ?_)
  · obtain ⟨l, q, d, us, rfl, _⟩ := h; rfl
  · obtain ⟨l, q, d, us, rfl, hl, hq, k⟩ := h
    refine ⟨_, (pss_cons (ps_asg (pv 0) (pg_unlK (K := K) rfl (pgs_cons (pg_name (i := 2) sc_built_node.nd rfl (.inl rfl)) (pgs_cons (pg_name (i := 3) sc_built_node.nd rfl (.inl rfl)) (pgs_cons (pg_name (i := 4) sc_built_node.nd rfl (.inl rfl)) (pgs_cons (pg_name (i := 5) sc_built_node.nd rfl (.inl rfl)) (pgs_cons (pg_name (i := 6) sc_built_node.nd rfl (.inl rfl)) (pgs_cons (pg_name (i := 7) sc_built_node.nd rfl (.inl rfl)) (pgs_cons (pg_name (i := 8) sc_built_node.nd rfl (.inl rfl)) (pgs_cons (pg_name (i := 9) sc_built_node.nd rfl (.inl rfl)) pgs_nil))))))))))
  (pss_one (ps_ret (pe_mkIK (W := W_Node7 K aNode) c_Node_init7 hr (by decide) (by rfl) (pa_cons (pv 2) (pa_cons (pv 3) pa_nil)) (pk_cons (pv 4) (pk_cons (pv 5) (pk_cons (pv 6) (pk_cons (pv 7) (pk_cons (pv 8) (pk_cons (pe_callTy (call_tupleK K) (by rfl) T.n_tuple (by decide +kernel) (pa_cons (pv 1) pa_nil)) (pk_cons (pv 9) pk_nil))))))) mk_Node7)))), ?_⟩
    show (_ : TS) _ [some (.ref l), some (.ref q), none, none, none, none, none, none, none, none] H
    replace hl : H l = some (.lst [.str d.k, .str d.s, .int d.st, .int d.ld, .int d.wd, .int d.lk, .int d.al, .int d.pp]) := hl
    walk_at "rd"
    refine newO_gen fun t H1 g1 s1 h1 => ?_
    walk_at "rd"
    refine ⟨d, t, _, rfl, rfl, SqT.of h1, ?_⟩
    refine newI_gen fun p dx H2 g2 s2 h2 => ?_
    exact k p dx t H2 (Same.trans s1 s2) h2 (s2 _ _ h1)
theorem cal_read_tree {f : Addr} {fd : FuncData} (T : Txt mg) (FD : C8.Def K mg "read_tree" s_read_tree f fd) (b : Binds K fd ["notation"] [])
    (c_read_head : CalX P w K mg base 7 "read_head" (sp_read_head aE))
    (c_char_of : CalX P w K mg base 3 "char_of" (sp_char_of aE))
    (c_built_node : C8.Cal P w K mg base 3 "built_node" (sp_built_node K aNode) [])
    (c_TreeError : OexI P w K mg base 1 "TreeError" aE (sp_TreeError aE)) : CalX P w K mg base 8 "read_tree" (sp_read_tree K aNode aE) := by
  refine calX FD b sc_read_tree (fun vs H Q E h => ?_) (fun cdv A outer s H vs Q E hr h => ?_)
  · obtain ⟨z, R, rfl, _⟩ := h; rfl
  · obtain ⟨z, R, rfl, hm, hR, k1, k2⟩ := h
    refine ⟨_, (pss_cons (ps_set (i := 1) sc_read_tree.nd rfl (.inl rfl) (pe_lst pa_nil))
  (pss_cons (ps_set (i := 2) sc_read_tree.nd rfl (.inl rfl) pe_int)
  (pss_one (ps_while (passes_of rfl) (pt_truK K pe_bl (by intro _; rfl)) (pss_cons (ps_asg (pe_cx c_read_head (takes_of rfl rfl rfl rfl) hr (by decide) (by rfl) (pa_cons (pv 0) (pa_cons (pv 2) pa_nil))) (pg_tup rfl (pgs_cons (pg_name (i := 3) sc_read_tree.nd rfl (.inl rfl)) (pgs_cons (pg_name (i := 2) sc_read_tree.nd rfl (.inl rfl)) pgs_nil))))
  (pss_cons (ps_expr (pe_bm F.plainAttrs_list F.slot_list_append F.type_list_append mt_append (pv 1) (pa_cons (pe_tup (pa_cons (pv 3) (pa_cons (pe_lst pa_nil) pa_nil))) pa_nil)))
  (pss_cons (ps_while (passes_of rfl) (pt_cmpR (op_eqK K (hu64 hr)) (pe_cx c_char_of (takes_of rfl rfl rfl rfl) hr (by decide) (by rfl) (pa_cons (pv 0) (pa_cons (pv 2) (pa_cons pe_str pa_nil)))) pe_str (nomark _)) (pss_cons (ps_asg (pe_bm0 F.plainAttrs_list F.slot_list_pop F.type_list_pop mt_pop (pv 1)) (pg_tup rfl (pgs_cons (pg_name (i := 3) sc_read_tree.nd rfl (.inl rfl)) (pgs_cons (pg_name (i := 4) sc_read_tree.nd rfl (.inl rfl)) pgs_nil))))
  (pss_cons (ps_set (i := 5) sc_read_tree.nd rfl (.inl rfl) (C8.pe_c c_built_node hr (by decide) (by rfl) (pa_cons (pv 3) (pa_cons (pv 4) pa_nil))))
  (pss_cons (ps_set (i := 2) sc_read_tree.nd rfl (.inl rfl) (pe_op (op_addK K) (pv 2) pe_int))
  (pss_cons (ps_if (pt_not (pt_truK K (pv 1) (by intro _; rfl))) (pss_cons (ps_if (pt_cmpR op_ltU (pv 2) (pe_callB (call_lenK K) (by rfl) T.n_len PySem.boot_len (pa_cons (pv 0) pa_nil)) (nomark _)) (pss_one (ps_raise rfl (takes_of rfl rfl rfl rfl) (pm_x c_TreeError hr (by decide) (by rfl) (pa_cons (pv 2) pa_nil)))) pss_nil)
  (PSs.nox (pss_one (ps_ret (pv 5))))) pss_nil)
  (PSs.nox (pss_one (ps_expr (pe_bm F.plainAttrs_list F.slot_list_append F.type_list_append mt_append (pe_ix (ix_K K) (pe_ix (ix_K K) (pv 1) (pe_un un_neg pe_int) (fun _ _ => rfl)) pe_int (fun _ _ => rfl)) (pa_cons (pv 5) pa_nil))))))))))
  (PSs.nox (pss_one (ps_set (i := 2) sc_read_tree.nd rfl (.inl rfl) (pe_op (op_addK K) (pv 2) pe_int))))))))))), ?_⟩
    show (_ : TS) _ [some (.str z), none, none, none, none, none] H
    have hzl : z.length ≤ sizeLine := sz_le (by omega)
    walk_at "rd"
    refine newO_gen fun ab H1 gab s1 h1 => ?_
    walk_at "rd"
    refine whileC (fun m σ' H' => ∃ (i : Nat) (s : List Nat) (st : Stk) (fs : List Frm) (o3 o4 o5 : Option V), σ' = [some (.str z), some (.ref ab), some (.int i), o3, o4, o5] ∧ At z i s ∧ Same H H' ∧ H' ab = some (.lst (abV fs)) ∧ Paired (FrAt K aNode H') fs st ∧ Dst ab fs ∧ (∀ f ∈ fs, Frs H f.q) ∧ szS st + s.length ≤ 9000000 ∧ Run R true s st ∧ m = s.length) (fun _ _ => False) (m := (TL.tl z).length) ?_ ?_ (fun _ _ q => q.elim)
    · have hA := At.all (z := z) (by omega)
      refine ⟨0, TL.tl z, [], [], none, none, none, rfl, hA, s1, h1, .nil, ⟨fun f h => (nomatch h), List.nodup_nil, fun f h => (nomatch h)⟩, fun f h => (nomatch h), ?_, hR, rfl⟩
      rw [← TL.len_tl]
      show 0 + _ ≤ _
      omega
    · rintro nx' hnx m σ' H2 ⟨i, s, st, fs, o3, o4, o5, rfl, hA, s2, h2, hF, hD, hNw, hsz, hRun, rfl⟩
      walk_at "rd"
      refine wGo ?_
      walk_at "rd"
      refine use_read_head rfl hA (fun d r hd t l H3 s3 gl ht hl => ?_) (fun e he => ?_)
      · rcases hRun.head with ⟨e, he, _⟩ | ⟨d', r', hd', hRun⟩
        · rw [he] at hd; cases hd
        · rw [hd] at hd'
          cases hd'
          obtain ⟨c, w, hcut⟩ := headP_cut hd
          have hA2 : At z i ((c :: w) ++ r) := by rw [List.cons_append, ← hcut]; exact hA
          have hAr := hA2.back
          have hlen : s.length = 1 + w.length + r.length := by rw [hcut, List.length_cons, List.length_append]; omega
          have h3 := s3 _ _ h2
          have hlab : l ≠ ab := gl.ne' h2
          walk_at "rd"
          refine newO_gen fun q H4 gq s4 h4 => ?_
          have hl4 := s4 _ _ hl
          have h4ab := s4 _ _ h3
          walk_at "rd"
          refine newO_gen fun tp H5 g5 s5 h5 => ?_
          have h5ab := s5 _ _ h4ab
          have hFl := Paired.len hF
          have hbl := abV_len fs
          have hsl := szS_len st
          have hq0 : Frs H q := Same.fre s2 (Same.fre s3 gq)
          walk_at "rd"
          refine putO_gen h5ab fun H6 s6 h6 => ?_
          have s25 : Same H2 H5 := Same.trans (Same.trans s3 s4) s5
          have hqab : q ≠ ab := gq.ne' h3
          have s06 : Same H H6 := SL.same (Same.trans s2 s25) s6 gab
          have hFr : ∀ f ∈ fs, f.l ≠ ab ∧ f.q ≠ ab := hD.ab
          have hold : ∀ f ∈ fs, (∃ o, H2 f.l = some o) ∧ ∃ o, H2 f.q = some o := fun f hf => by
            obtain ⟨e, he⟩ := Paired.mem_l hF f hf
            exact ⟨⟨_, he.hl⟩, _, he.hq⟩
          have gq2 : Frs H2 q := Same.fre s3 gq
          have hqnl : ∀ f ∈ fs, f.l ≠ q ∧ f.q ≠ q := fun f hf => by
            obtain ⟨⟨o1, e1⟩, o2, e2⟩ := hold f hf
            exact ⟨gq2.ne e1, gq2.ne e2⟩
          have hlnq : ∀ f ∈ fs, f.q ≠ l := fun f hf => by
            obtain ⟨_, o2, e2⟩ := hold f hf
            exact gl.ne e2
          have hlq : l ≠ q := gq.ne hl
          have hF6 : Paired (FrAt K aNode H6) fs st := Paired.imp_m (fun f hf e he => (he.sm s25).sl s6 (hFr f hf).1 (hFr f hf).2) hF
          have hnew : FrAt K aNode H6 ⟨tp, l, q, []⟩ (d, []) := ⟨s6.tup h5, s6.at hlab (s5 _ _ hl4), s6.at hqab (s5 _ _ h4), .nil⟩
          have hD6 : Dst ab (⟨tp, l, q, []⟩ :: fs) := by
            refine ⟨fun f hf => ?_, List.nodup_cons.mpr ⟨fun h => ?_, hD.nd⟩, fun f hf g hg => ?_⟩
            · rcases List.mem_cons.mp hf with rfl | hf
              · exact ⟨hlab, hqab⟩
              · exact hFr f hf
            · obtain ⟨f, hf, e⟩ := List.mem_map.mp h
              exact (hqnl f hf).2 e
            · rcases List.mem_cons.mp hf with rfl | hf
              · rcases List.mem_cons.mp hg with rfl | hg
                · exact hlq
                · exact (hlnq g hg).symm
              · rcases List.mem_cons.mp hg with rfl | hg
                · exact (hqnl f hf).1
                · exact hD.lq f hf g hg
          have hNw6 : ∀ f ∈ (⟨tp, l, q, []⟩ :: fs : List Frm), Frs H f.q := fun f hf => by
            rcases List.mem_cons.mp hf with rfl | hf
            · exact hq0
            · exact hNw f hf
          rw [← abV_cons ⟨tp, l, q, []⟩ fs] at h6
          clear hqnl hlnq hold hFr hF hD hbl s6 s5 s4 s3 gq gq2 g5 gl h5 h4 ht hl hl4 h3 h4ab h5ab h2
          walk_at "rd"
          refine whileC (fun m σ' H' => ∃ (i : Nat) (s' : List Nat) (st : Stk) (fs : List Frm) (o3 o4 o5 : Option V), σ' = [some (.str z), some (.ref ab), some (.int i), o3, o4, o5] ∧ At z i s' ∧ Same H H' ∧ H' ab = some (.lst (abV fs)) ∧ Paired (FrAt K aNode H') fs st ∧ Dst ab fs ∧ (∀ f ∈ fs, Frs H f.q) ∧ szS st + s'.length ≤ 9000000 ∧ Run R false s' st ∧ s'.length ≤ r.length ∧ m = s'.length)
            (fun σ' H' => ∃ (i : Nat) (s' : List Nat) (st : Stk) (fs : List Frm) (o3 o4 o5 : Option V), σ' = [some (.str z), some (.ref ab), some (.int i), o3, o4, o5] ∧ At z i (32 :: s') ∧ Same H H' ∧ H' ab = some (.lst (abV fs)) ∧ Paired (FrAt K aNode H') fs st ∧ Dst ab fs ∧ (∀ f ∈ fs, Frs H f.q) ∧ szS st + s'.length ≤ 9000000 ∧ Run R true s' st ∧ s'.length < r.length) (m := r.length) ?_ ?_ ?_
          · exact ⟨_, r, (d, []) :: st, ⟨tp, l, q, []⟩ :: fs, _, _, _, rfl, hAr, s06, h6, .cons hnew hF6, hD6, hNw6, by rw [szS_cons]; show 1 + 0 + _ + _ ≤ _; omega, hRun, Nat.le_refl _, rfl⟩
          · clear hF6 hnew hD6 h6 s06 hRun hAr
            rintro nx2 hnx2 m σ' H7 ⟨i7, s7, st7, fs7, p3, p4, p5, rfl, hA7, s07, h7, hF7, hD7, hNw7, hsz7, hRun7, hle7, rfl⟩
            have hln7 := hA7.len
            walk_at "rd"
            refine use_char_of (p := fun c => c == 32 || c == 41) rfl hA7 (mem2 (by decide +kernel)) (fun c t7 hs hc => ?_) (fun e he => (k2 e (hRun7.fault he)).sm s07)
            subst hs
            have hl7 : (c :: t7).length = t7.length + 1 := rfl
            walk_at "rd"
            rw [dec_sign (a := 41) (by decide +kernel)]
            refine ifD (fun hc41 => ?_) (fun hc41 => ?_)
            · subst hc41
              refine wGo ?_
              cases hF7 with
              | nil => cases hRun7 with
                | bad q1 q2 => rw [ch_ok (p := fun c => c == 32 || c == 41) (by decide)] at q1; cases q1
              | @cons f e fs8 st8 hf hF8 =>
                obtain ⟨de, ke⟩ := e
                rw [abV_cons] at h7
                have hft := hf.ht
                have hfl := hf.hl
                have hfq := hf.hq
                have hlast : (abV fs8 ++ [V.ref f.t])[(abV fs8 ++ [V.ref f.t]).length - 1]? = some (V.ref f.t) := by
                  rw [List.length_append, List.getElem?_append_right (by show (abV fs8).length ≤ (abV fs8).length + 1 - 1; omega)]
                  rw [show (abV fs8).length + [V.ref f.t].length - 1 - (abV fs8).length = 0 by show (abV fs8).length + 1 - 1 - _ = 0; omega]
                  rfl
                walk_at "rd"
                refine pop_lst h7 hlast ?_
                refine putO_gen h7 fun H8 s8 h8 => ?_
                rw [List.dropLast_concat] at h8
                have s08 : Same H H8 := SL.same s07 s8 gab
                obtain ⟨hfla, hfqa⟩ := hD7.ab f (List.mem_cons_self ..)
                have hf8 := hf.sl s8 hfla hfqa
                have hft8 := hf8.ht
                have hF8 : Paired (FrAt K aNode H8) fs8 st8 := Paired.imp_m (fun g hg e he => he.sl s8 (hD7.ab g (List.mem_cons_of_mem _ hg)).1 (hD7.ab g (List.mem_cons_of_mem _ hg)).2) hF8
                walk_at "rd"
                refine use_built hf8.hl hf8.hq fun p dx tt H9 s9 hp9 ht9 => ?_
                have s09 : Same H H9 := Same.trans s08 s9
                have h9 := s9 _ _ h8
                have hN : NodeAt K aNode H9 (.ref p) de (kFo ke) := ⟨p, dx, tt, f.us, rfl, hp9, SqT.of ht9, nodes_ks (Paired.imp (fun _ _ r => NodeAt.kp (KpS.same s9) r) hf8.hu)⟩
                have hA8 := hA7.tail
                have hln8 := hA8.len
                walk_at "rd"
                rcases hRun7.close with ⟨d2, ks2, st2, e2, hRun8⟩ | ⟨e2, e3, hRe⟩ | ⟨e2, e3, hRe⟩
                · subst e2
                  cases hF8 with
                  | @cons f2 e2 fs9 st9 hf2 hF9 =>
                    rw [show (abV (f2 :: fs9)).isEmpty = false by rw [abV_cons]; simp]
                    rw [abV_cons] at h9
                    simp only [Bool.not_false, Bool.not_true]
                    walk_at "rd"
                    have hf29 := hf2.sm s9
                    have hft9 := hf29.ht
                    have hfq9 := hf29.hq
                    have hlst := at_last (xs := abV fs9) (x := V.ref f2.t)
                    have hul := Paired.len hf29.hu
                    rw [szS_cons, szS_cons] at hsz7
                    have hD8 := hD7.tail
                    obtain ⟨hl2a, hq2a⟩ := hD8.ab f2 (List.mem_cons_self ..)
                    refine ix_lst h9 hlst ?_
                    walk_at "rd"
                    replace hul : f2.us.length = ks2.length := hul
                    refine append_lst hfq9 (sz_lt (by omega)) ?_
                    refine putO_gen hfq9 fun H10 s10 h10 => ?_
                    refine ⟨t7.length, by omega, i7 + 1, t7, (d2, ks2 ++ [(de, kFo ke)]) :: st2, ⟨f2.t, f2.l, f2.q, f2.us ++ [.ref p]⟩ :: fs9, _, _, _, rfl, hA8, SL.same s09 s10 (hNw7 f2 (List.mem_cons_of_mem _ (List.mem_cons_self ..))), ?_, .cons ⟨s10.tup hft9, s10.at (hD8.lq f2 (List.mem_cons_self ..) f2 (List.mem_cons_self ..)) hf29.hl, h10, Paired.snoc (Paired.imp (fun _ _ r => NodeAt.kp (KpS.sl s10) r) hf29.hu) (NodeAt.kp (KpS.sl s10) hN)⟩ (Paired.imp_m (fun g hg e he => (he.sm s9).sl s10 (hD8.apart hg).2 (hD8.apart hg).1) hF9), hD8.upd _, ?_, ?_, hRun8, by omega, rfl⟩
                    · rw [abV_cons]
                      exact s10.at hq2a.symm h9
                    · intro g hg
                      rcases List.mem_cons.mp hg with rfl | hg
                      · exact hNw7 f2 (List.mem_cons_of_mem _ (List.mem_cons_self ..))
                      · exact hNw7 g (List.mem_cons_of_mem _ (List.mem_cons_of_mem _ hg))
                    · rw [szS_cons, List.length_append]
                      show 1 + (ks2.length + 1) + _ + _ ≤ _
                      omega
                · subst e2
                  subst e3
                  cases hF8
                  have hl0 : ([] : List Nat).length = 0 := rfl
                  rw [show (!!(abV ([] : List Frm)).isEmpty) = true from rfl]
                  walk_at "rd"
                  refine ifDn (by omega) ?_
                  walk_at "rd"
                  exact k1 _ _ hRe _ _ s09 hN
                · subst e2
                  cases hF8
                  have hl1 : 0 < t7.length := List.length_pos_iff.mpr e3
                  rw [show (!!(abV ([] : List Frm)).isEmpty) = true from rfl]
                  walk_at "rd"
                  refine ifDy (by omega) ?_
                  walk_at "rd"
                  have hb := (k2 _ hRe).sm s09
                  rw [show z.length - t7.length = i7 + 1 by omega] at hb
                  refine mkO1 (vs := [.int ((i7 + 1 : Nat) : Int)]) [("place", .int ((i7 + 1 : Nat) : Int))] hb fun a Q' ha h => ?_
                  exact ⟨a, i7 + 1, rfl, by omega, upd_same, fun d hd hda => h d (by rw [upd_ne hda] at hd; exact hd) hda⟩
            · have hc32 : c = 32 := by
                rcases Bool.or_eq_true _ _ ▸ hc with q | q
                · exact beq_iff_eq.mp q
                · exact absurd (beq_iff_eq.mp q) hc41
              subst hc32
              walk_at "rd"
              exact hnx2 _ _ ⟨i7, t7, st7, fs7, _, _, _, rfl, hA7, s07, h7, hF7, hD7, hNw7, by omega, hRun7.blank, by omega⟩
          · rintro σ' H7 ⟨i7, s7, st7, fs7, p3, p4, p5, rfl, hA7, s07, h7, hF7, hD7, hNw7, hsz7, hRun7, hle7⟩
            walk_at "rd"
            exact ⟨s7.length, by omega, i7 + 1, s7, st7, fs7, _, _, _, rfl, hA7.tail, s07, h7, hF7, hD7, hNw7, by omega, hRun7, rfl⟩
      · rcases hRun.head with ⟨e', he', hRe⟩ | ⟨d', r', hd', _⟩
        · rw [he] at he'
          cases he'
          exact (k2 e hRe).sm s2
        · rw [he] at hd'
          cases hd'
end
end Z
namespace Z
open PySem PySem.Spec L2
/-! ## the written form -/
def numI (n : Int) : List Nat := TL.tl (Str.ofString (toString n))
def hdW8 (d : Dt) : List (List Nat) := [TL.tl d.k, TL.tl d.s, numI d.st, numI d.ld, numI d.wd, numI d.lk, numI d.al, numI d.pp]
def hdL (d : Dt) : List Nat := TL.joinL [32] (hdW8 d)
def kidsW : Fo → List Nat
  | .nil => []
  | .cons d k r => 32 :: 40 :: (hdL d ++ (kidsW k ++ (41 :: kidsW r)))
def nodeW (d : Dt) (k : Fo) : List Nat := 40 :: (hdL d ++ (kidsW k ++ [41]))
def fks : Fo → Ks
  | .nil => []
  | .cons d k r => (d, k) :: fks r
theorem kFo_fks : ∀ f : Fo, kFo (fks f) = f
  | .nil => rfl
  | .cons d k r => by show Fo.cons d k (kFo (fks r)) = _; rw [kFo_fks r]
/-! ### words are read -/
theorem wst_ge (m c : Nat) (h : 2 ≤ m) : 2 ≤ wst m c := by
  unfold wst
  rw [if_neg (by omega), if_neg (by omega)]
  split
  · split
    · decide
    · split <;> decide
  · split
    · split
      · decide
      · split
        · decide
        · split <;> decide
    · split
      · split <;> decide
      · decide
theorem wrun_ge : ∀ {w : List Nat} {m : Nat}, 2 ≤ m → 2 ≤ wrun m w
  | [], _, h => h
  | c :: t, m, h => by rw [wrun_cons]; exact wrun_ge (wst_ge m c h)
theorem run1 : ∀ {t : List Nat}, wrun 1 t = 1 → ∀ c ∈ t, isNmc c = true
  | [], _, c, h => nomatch h
  | b :: t, h, c, hc => by
    rw [wrun_cons] at h
    by_cases e : isNmc b = true
    · rw [wst_1n e] at h
      rcases List.mem_cons.mp hc with rfl | hc
      · exact e
      · exact run1 h c hc
    · rw [show wst 1 b = 9 from if_neg e, wrun_9] at h
      cases h
theorem run0 {c : Nat} {t : List Nat} (h : wrun 0 (c :: t) = 1) : isLet c = true ∧ ∀ b ∈ t, isNmc b = true := by
  rw [wrun_cons] at h
  by_cases e : isLet c = true
  · rw [wst_0l e] at h
    exact ⟨e, run1 h⟩
  · have : 2 ≤ wst 0 c := by
      show 2 ≤ (if isLet c = true then 1 else if c = 34 then 2 else 9)
      rw [if_neg e]
      split <;> decide
    have := wrun_ge (w := t) this
    omega
/-- the next sign is none of a name -/
abbrev Sep (rest : List Nat) : Prop := ∀ c, rest.head? = some c → isNmc c = false
theorem name_reads {w rest : List Nat} (h : wrun 0 w = 1) (hs : Sep rest) : nameP (w ++ rest) = .ok (w, rest) := by
  cases w with
  | nil => cases h
  | cons c t =>
    obtain ⟨h1, h2⟩ := run0 h
    have e : nameP (c :: (t ++ rest)) = .ok (c :: (t ++ rest).takeWhile isNmc, (t ++ rest).dropWhile isNmc) := if_pos h1
    show nameP (c :: (t ++ rest)) = _
    have tw : (t ++ rest).takeWhile isNmc = t ∧ (t ++ rest).dropWhile isNmc = rest := by
      rw [List.takeWhile_append_of_pos h2, List.dropWhile_append_of_pos h2]
      cases rest with
      | nil => exact ⟨List.append_nil t, rfl⟩
      | cons b u =>
        have hb := hs b rfl
        rw [List.takeWhile_cons_of_neg (by rw [hb]; decide), List.dropWhile_cons_of_neg (by rw [hb]; decide)]
        exact ⟨List.append_nil t, rfl⟩
    rw [e, tw.1, tw.2]
theorem run5 : ∀ {w : List Nat}, wrun 5 w = 5 → w = []
  | [], _ => rfl
  | c :: t, h => by rw [wrun_cons, wst_5, wrun_9] at h; cases h
theorem lit_reads : ∀ (n : Nat) {w rest : List Nat}, w.length < n → wrun 3 w = 5 → litP n (w ++ rest) = .ok (w, rest)
  | 0, _, _, h, _ => absurd h (Nat.not_lt_zero _)
  | n + 1, [], rest, _, h => by cases h
  | n + 1, c :: t, rest, hl, h => by
    rw [wrun_cons] at h
    have hl' : t.length < n := by rw [List.length_cons] at hl; omega
    show litP (n + 1) (c :: (t ++ rest)) = _
    by_cases e34 : c = 34
    · subst e34
      have e := run5 h
      subst e
      rw [lit_end]
      rfl
    · rw [lit_go (s := c :: (t ++ rest)) (fun q => e34 (Option.some.inj (show some c = some 34 from q)))]
      by_cases e92 : c = 92
      · subst e92
        cases t with
        | nil => cases h
        | cons e u =>
          rw [wrun_cons] at h
          by_cases he : isEsc e = true
          · rw [show wst (wst 3 92) e = 3 from if_pos he] at h
            rw [show wcP (92 :: ((e :: u) ++ rest)) = .ok ([92, e], u ++ rest) from wc_esc he]
            have ih := lit_reads n (w := u) (rest := rest) (by rw [List.length_cons] at hl'; omega) h
            simp only [ih]
            rfl
          · rw [show wst (wst 3 92) e = 9 from if_neg he, wrun_9] at h
            cases h
      · by_cases hc : isLit c = true
        · rw [wst_3l hc] at h
          rw [wc_lit e92 hc]
          have ih := lit_reads n (w := t) (rest := rest) hl' h
          simp only [ih]
          rfl
        · have : wst 3 c = 9 := by
            show (if c = 92 then 4 else if c = 34 then 5 else if isLit c = true then 3 else 9) = 9
            rw [if_neg e92, if_neg e34, if_neg hc]
          rw [this, wrun_9] at h
          cases h
theorem quo_reads {t rest : List Nat} (h : wrun 2 t = 5) : quoP (34 :: (t ++ rest)) = .ok (34 :: t, rest) := by
  cases t with
  | nil => cases h
  | cons c u =>
    rw [wrun_cons] at h
    have go : ∀ {w u' : List Nat}, c :: u = w ++ u' → wcP (c :: (u ++ rest)) = .ok (w, u' ++ rest) → wrun 3 u' = 5 → quoP (34 :: ((c :: u) ++ rest)) = .ok (34 :: (c :: u), rest) := by
      intro w u' e1 e2 e3
      unfold quoP
      rw [show (34 :: ((c :: u) ++ rest) : List Nat).tail = c :: (u ++ rest) from rfl, e2]
      have := lit_reads ((u' ++ rest).length + 1) (w := u') (rest := rest) (by rw [List.length_append]; omega) e3
      simp only [this]
      rw [← e1]
    by_cases e92 : c = 92
    · subst e92
      cases u with
      | nil => cases h
      | cons e u2 =>
        rw [wrun_cons] at h
        by_cases he : isEsc e = true
        · rw [show wst (wst 2 92) e = 3 from if_pos he] at h
          exact go (w := [92, e]) (u' := u2) rfl (wc_esc he) h
        · rw [show wst (wst 2 92) e = 9 from if_neg he, wrun_9] at h
          cases h
    · by_cases hc : isLit c = true
      · rw [wst_2l hc] at h
        exact go (w := [c]) (u' := u) rfl (wc_lit e92 hc) h
      · have : wst 2 c = 9 := by
          show (if c = 92 then 4 else if isLit c = true then 3 else 9) = 9
          rw [if_neg e92, if_neg hc]
        rw [this, wrun_9] at h
        cases h
theorem word_reads {x : Str} {rest : List Nat} (h : Wd x) (hs : Sep rest) : wordP (TL.tl x ++ rest) = .ok (TL.tl x, rest) := by
  rcases h with h | h
  · have hr := name_reads h hs
    cases hx : TL.tl x with
    | nil => rw [hx] at h; cases h
    | cons c t =>
      rw [hx] at h hr
      have hl := (run0 h).1
      refine (if_neg fun q => ?_).trans hr
      have e : c = 34 := Option.some.inj (show some c = some 34 from q)
      rw [e] at hl
      revert hl
      decide
  · cases hx : TL.tl x with
    | nil => rw [hx] at h; cases h
    | cons c t =>
      rw [hx, wrun_cons] at h
      by_cases e : c = 34
      · subst e
        exact (if_pos rfl).trans (quo_reads h)
      · exfalso
        by_cases hl : isLet c = true
        · rw [wst_0l hl] at h
          have key : ∀ (u : List Nat) (m : Nat), (m = 1 ∨ m = 9) → wrun m u = 1 ∨ wrun m u = 9 := by
            intro u
            induction u with
            | nil => exact fun m hm => hm
            | cons b u ih =>
              intro m hm
              rw [wrun_cons]
              refine ih _ ?_
              rcases hm with rfl | rfl
              · show (if isNmc b = true then 1 else 9) = 1 ∨ (if isNmc b = true then 1 else 9) = 9
                split
                · exact .inl rfl
                · exact .inr rfl
              · exact .inr rfl
          rcases key t 1 (.inl rfl) with q | q <;> (rw [q] at h; cases h)
        · rw [show wst 0 c = 9 by show (if isLet c = true then 1 else if c = 34 then 2 else 9) = 9; rw [if_neg hl, if_neg e], wrun_9] at h
          cases h
/-! ### numbers are read -/
theorem numI_nat (n : Nat) : numI (n : Int) = TL.numL n := TL.tl_num n
theorem numL_head : ∀ (n : Nat), 10 ≤ n → (TL.numL n).head? ≠ some 48 := by
  intro n
  induction n using Nat.strongRecOn with
  | _ n ih =>
    intro h
    rw [TL.numL_step h]
    by_cases h2 : n / 10 < 10
    · rw [TL.numL_lt h2]
      intro q
      have : 48 + n / 10 = 48 := Option.some.inj q
      omega
    · have := ih (n / 10) (by omega) (by omega)
      cases hx : TL.numL (n / 10) with
      | nil => exact absurd hx (TL.numL_ne _)
      | cons c t => rw [hx] at this; exact this
theorem num_reads' {l n : Int} {rest : List Nat} (hl : l = -1 ∨ l = 0) (h : lim l n) (hs : ∀ c, rest.head? = some c → isDgt c = false) : numP l (numI n ++ rest) = .ok (numI n, rest) ∧ valL (numI n) = n := by
  rcases Int.lt_or_le n 0 with hn | hn
  · have e : n = -1 := by have := h.1; omega
    have el : l < 0 := by have := h.1; omega
    subst e
    have e1 : numI (-1) = [45, 49] := by decide +kernel
    rw [e1]
    refine ⟨?_, rfl⟩
    show numP l (45 :: 49 :: rest) = _
    rw [num_minus el]
    exact if_pos rfl
  · obtain ⟨m, rfl⟩ := Int.eq_ofNat_of_zero_le hn
    have hm : m ≤ 999999999 := by have := h.2; omega
    rw [numI_nat]
    have hd := TL.numL_digits m
    have hv := TL.numL_val m
    have hlen := TL.numL_len (n := m) (k := 9) (by decide) (by omega)
    refine ⟨?_, by rw [val_dgt hd, hv]⟩
    by_cases h10 : m < 10
    · rw [TL.numL_lt h10]
      by_cases h0 : m = 0
      · subst h0
        exact num_zero
      · have hc : isDgt (48 + m) = true := dgt_iff.mpr ⟨by omega, by omega⟩
        show numP l ((48 + m) :: rest) = _
        have tw : (rest.take 8).takeWhile isDgt = [] := by
          cases rest with
          | nil => rfl
          | cons c t => exact List.takeWhile_cons_of_neg (by rw [hs c rfl]; decide)
        rw [num_dgt hc (by omega), tw]
        rfl
    · have hh := numL_head m (by omega)
      cases hx : TL.numL m with
      | nil => exact absurd hx (TL.numL_ne _)
      | cons c t =>
        rw [hx] at hd hlen hh
        have hc : isDgt c = true := dgt_iff.mpr (hd c (List.mem_cons_self ..))
        have ht : ∀ b ∈ t, isDgt b = true := fun b hb => dgt_iff.mpr (hd b (List.mem_cons_of_mem _ hb))
        have hl8 : t.length ≤ 8 := by rw [List.length_cons] at hlen; omega
        show numP l (c :: (t ++ rest)) = _
        rw [num_dgt hc (fun e => hh (by rw [e]; rfl))]
        have tw : ((t ++ rest).take 8).takeWhile isDgt = t := by
          rw [List.take_append, List.take_of_length_le hl8]
          rw [List.takeWhile_append_of_pos ht]
          have : ((rest.take (8 - t.length)).takeWhile isDgt) = [] := by
            cases hr : rest.take (8 - t.length) with
            | nil => rfl
            | cons b u =>
              have hb : rest.head? = some b := by
                cases rest with
                | nil => simp at hr
                | cons b' u' =>
                  cases hk : 8 - t.length with
                  | zero => rw [hk] at hr; simp at hr
                  | succ k => rw [hk, List.take_succ_cons] at hr; injection hr with hr _; rw [hr]; rfl
              exact List.takeWhile_cons_of_neg (by rw [hs b hb]; decide)
          rw [this, List.append_nil]
        rw [tw, List.drop_append, List.drop_eq_nil_of_le (Nat.le_refl _), Nat.sub_self]
        rfl
/-! ### a head is read -/
structure WdOk (d : Dt) : Prop where
  k : Wd d.k
  s : Wd d.s
  st : lim (-1) d.st
  ld : lim 0 d.ld
  wd : lim 0 d.wd
  lk : lim 0 d.lk
  al : lim (-1) d.al
  pp : lim 0 d.pp
theorem DtOk.w {d : Dt} (h : DtOk d) : WdOk d := ⟨h.k.1.1, h.s.1.1, h.st, h.ld, h.wd, h.lk, h.al, h.pp⟩
abbrev Stop (rest : List Nat) : Prop := ∀ c, rest.head? = some c → isDgt c = false
theorem stop32 (rest : List Nat) : Stop (32 :: rest) := fun c h => by cases h; decide
theorem sep32 (rest : List Nat) : Sep (32 :: rest) := fun c h => by cases h; decide
theorem nums_reads : ∀ {ls : List Int} {ns : List Int} {b : Bool} {rest : List Nat}, Paired (fun n l => lim l n ∧ (l = -1 ∨ l = 0)) ns ls → ls ≠ [] → Stop rest → numsP b ls ((if b = true then [] else [32]) ++ (TL.joinL [32] (ns.map numI) ++ rest)) = .ok (ns, rest)
  | _, _, _, _, .nil, h, _ => absurd rfl h
  | [l], [n], b, rest, .cons r .nil, _, hs => by
    rw [nums_cons]
    have e1 : (if b = true then .ok ((if b = true then [] else [32]) ++ (TL.joinL [32] ([n].map numI) ++ rest)) else chP (· == 32) ((if b = true then [] else [32]) ++ (TL.joinL [32] ([n].map numI) ++ rest)) : Pz (List Nat)) = .ok (numI n ++ rest) := by cases b <;> rfl
    rw [e1]
    obtain ⟨h1, h2⟩ := num_reads' r.2 r.1 hs
    simp only [h1, nums_nil, h2]
  | l :: l2 :: ls, n :: n2 :: ns, b, rest, .cons r (.cons r2 t), _, hs => by
    rw [nums_cons]
    have ej : TL.joinL [32] ((n :: n2 :: ns).map numI) ++ rest = numI n ++ (32 :: (TL.joinL [32] ((n2 :: ns).map numI) ++ rest)) := by
      show (numI n ++ ([32] ++ TL.joinL [32] ((n2 :: ns).map numI))) ++ rest = _
      simp
    rw [ej]
    have e1 : (if b = true then .ok ((if b = true then [] else [32]) ++ (numI n ++ (32 :: (TL.joinL [32] ((n2 :: ns).map numI) ++ rest)))) else chP (· == 32) ((if b = true then [] else [32]) ++ (numI n ++ (32 :: (TL.joinL [32] ((n2 :: ns).map numI) ++ rest)))) : Pz (List Nat)) = .ok (numI n ++ (32 :: (TL.joinL [32] ((n2 :: ns).map numI) ++ rest))) := by cases b <;> rfl
    rw [e1]
    obtain ⟨h1, h2⟩ := num_reads' (rest := 32 :: (TL.joinL [32] ((n2 :: ns).map numI) ++ rest)) r.2 r.1 (stop32 _)
    have ih := nums_reads (ls := l2 :: ls) (ns := n2 :: ns) (b := false) (rest := rest) (.cons r2 t) (fun q => nomatch q) hs
    replace ih : numsP false (l2 :: ls) (32 :: (TL.joinL [32] ((n2 :: ns).map numI) ++ rest)) = .ok (n2 :: ns, rest) := ih
    simp only [h1, ih, h2]
theorem head_reads {d : Dt} {rest : List Nat} (h : WdOk d) (hs : Stop rest) : headP (40 :: (hdL d ++ rest)) = .ok (d, rest) := by
  have ej : hdL d ++ rest = TL.tl d.k ++ (32 :: (TL.tl d.s ++ (32 :: (TL.joinL [32] ([d.st, d.ld, d.wd, d.lk, d.al, d.pp].map numI) ++ rest)))) := by
    show (TL.tl d.k ++ ([32] ++ (TL.tl d.s ++ ([32] ++ TL.joinL [32] ([d.st, d.ld, d.wd, d.lk, d.al, d.pp].map numI))))) ++ rest = _
    simp
  have hn := nums_reads (ls := six) (ns := [d.st, d.ld, d.wd, d.lk, d.al, d.pp]) (b := true) (rest := rest) (.cons ⟨h.st, .inl rfl⟩ (.cons ⟨h.ld, .inr rfl⟩ (.cons ⟨h.wd, .inr rfl⟩ (.cons ⟨h.lk, .inr rfl⟩ (.cons ⟨h.al, .inl rfl⟩ (.cons ⟨h.pp, .inr rfl⟩ .nil)))))) (fun q => nomatch q) hs
  replace hn : numsP true six (TL.joinL [32] ([d.st, d.ld, d.wd, d.lk, d.al, d.pp].map numI) ++ rest) = .ok ([d.st, d.ld, d.wd, d.lk, d.al, d.pp], rest) := hn
  have h3 : head3 (TL.tl d.k) (TL.tl d.s) (TL.joinL [32] ([d.st, d.ld, d.wd, d.lk, d.al, d.pp].map numI) ++ rest) = .ok (d, rest) := by
    unfold head3
    rw [hn]
    rfl
  have h2 : head2 (TL.tl d.k) (TL.tl d.s ++ (32 :: (TL.joinL [32] ([d.st, d.ld, d.wd, d.lk, d.al, d.pp].map numI) ++ rest))) = .ok (d, rest) := by
    unfold head2
    rw [word_reads h.s (sep32 _)]
    exact h3
  unfold headP
  rw [ej, ch_ok (by decide)]
  show head1 _ = _
  unfold head1
  rw [word_reads h.k (sep32 _)]
  exact h2
/-! ### a tree is read -/
def FoW : Fo → Prop
  | .nil => True
  | .cons d k r => WdOk d ∧ FoW k ∧ FoW r
theorem FoOk.w : ∀ {f : Fo}, (∀ {L : Int}, ∀ x ∈ rowsF L f, DtOk x.d) → FoW f
  | .nil, _ => trivial
  | .cons d k r, h => ⟨(h (L := 0) ⟨0, d⟩ (List.mem_cons_self ..)).w, FoOk.w fun {L} x hx => h (L := L - 1) x (List.mem_cons_of_mem _ (List.mem_append.mpr (.inl (by rw [show L - 1 + 1 = L by omega]; exact hx)))), FoOk.w fun {L} x hx => h (L := L) x (List.mem_cons_of_mem _ (List.mem_append.mpr (.inr hx)))⟩
theorem kids_stop (f : Fo) (rest : List Nat) : Stop (kidsW f ++ (41 :: rest)) := fun c h => by
  cases f with
  | nil => cases h; decide
  | cons d k r => cases h; decide
theorem run_kids {R : Pz (Dt × Fo)} : ∀ {f : Fo} {rest : List Nat} {d : Dt} {ks : Ks} {st : Stk}, FoW f → Run R false rest ((d, ks ++ fks f) :: st) → Run R false (kidsW f ++ rest) ((d, ks) :: st)
  | .nil, rest, d, ks, st, _, h => by
    rw [show ks ++ fks .nil = ks from List.append_nil ks] at h
    exact h
  | .cons d1 k r, rest, d, ks, st, hf, h => by
    obtain ⟨hd, hk, hr⟩ := hf
    have e : kidsW (.cons d1 k r) ++ rest = 32 :: 40 :: (hdL d1 ++ (kidsW k ++ (41 :: (kidsW r ++ rest)))) := by
      show (32 :: 40 :: (hdL d1 ++ (kidsW k ++ (41 :: kidsW r)))) ++ rest = _
      simp
    rw [e]
    refine .next (.ok (head_reads hd (kids_stop k _)) (run_kids hk ?_))
    refine .up ?_
    rw [List.nil_append, kFo_fks]
    refine run_kids hr ?_
    rw [List.append_assoc]
    exact h
theorem run_node {d : Dt} {k : Fo} (hd : WdOk d) (hk : FoW k) : Run (.ok (d, k)) true (nodeW d k) [] := by
  refine .ok (head_reads hd (kids_stop k [])) (run_kids hk (.done ?_))
  rw [List.nil_append, kFo_fks]
end Z
namespace Z
open PySem PySem.Spec L2
/-! ## forests whose rows are in order -/
def FoOk : Fo → Prop
  | .nil => True
  | .cons d k r => DtOk d ∧ FoOk k ∧ FoOk r
theorem foOk_of : ∀ {f : Fo} {L : Int}, (∀ x ∈ rowsF L f, DtOk x.d) → FoOk f
  | .nil, _, _ => trivial
  | .cons d k r, L, h => ⟨h ⟨L, d⟩ (List.mem_cons_self ..), foOk_of fun x hx => h x (List.mem_cons_of_mem _ (List.mem_append.mpr (.inl hx))), foOk_of fun x hx => h x (List.mem_cons_of_mem _ (List.mem_append.mpr (.inr hx)))⟩
theorem roots_ok {L : Int} : ∀ {f : Fo}, FoOk f → ∀ e ∈ rootsF L f, DtOk e.2.1 ∧ FoOk e.2.2
  | .nil, _, e, h => nomatch h
  | .cons d k r, h, e, he => by
    rcases List.mem_cons.mp he with rfl | he
    · exact ⟨h.1, h.2.1⟩
    · exact roots_ok h.2.2 e he
end Z
namespace Z
open PySem PySem.Spec L2
/-! ## the text of rows -/
def pT (p : Int) : List Rw → List Nat
  | [] => []
  | x :: xs => List.replicate (p + 1 - x.lv).toNat 41 ++ (32 :: 40 :: (hdL x.d ++ pT x.lv xs))
def wT (p : Int) (xs : List Rw) : List Nat := pT p xs ++ List.replicate (lastL p xs + 1).toNat 41
theorem wT_nil (p : Int) : wT p [] = List.replicate (p + 1).toNat 41 := rfl
theorem wT_cons (p : Int) (x : Rw) (xs : List Rw) : wT p (x :: xs) = List.replicate (p + 1 - x.lv).toNat 41 ++ (32 :: 40 :: (hdL x.d ++ wT x.lv xs)) := by
  unfold wT
  show (List.replicate (p + 1 - x.lv).toNat 41 ++ (32 :: 40 :: (hdL x.d ++ pT x.lv xs))) ++ _ = _
  simp [lastL]
theorem rep_split {a b c : Nat} (h : c = a + b) : List.replicate c 41 = List.replicate a 41 ++ List.replicate b 41 := by rw [h, List.replicate_append_replicate]
theorem wT_forest : ∀ {f : Fo} {L p : Int} {T : List Rw}, 0 ≤ L → L - 1 ≤ p → (∀ y, T.head? = some y → y.lv ≤ L) → wT p (rowsF L f ++ T) = List.replicate (p + 1 - L).toNat 41 ++ (kidsW f ++ wT (L - 1) T)
  | .nil, L, p, T, h0, hp, hT => by
    show wT p T = List.replicate (p + 1 - L).toNat 41 ++ wT (L - 1) T
    cases T with
    | nil =>
      rw [wT_nil, wT_nil]
      exact rep_split (by omega)
    | cons y ys =>
      have := hT y rfl
      rw [wT_cons, wT_cons, ← List.append_assoc]
      congr 1
      exact rep_split (by omega)
  | .cons d k r, L, p, T, h0, hp, hT => by
    have hT2 : ∀ y, (rowsF L r ++ T).head? = some y → y.lv ≤ L := by
      cases r with
      | nil => exact hT
      | cons d' k' r' => intro y hy; cases hy; exact Int.le_refl _
    have ih1 := wT_forest (f := k) (L := L + 1) (p := L) (T := rowsF L r ++ T) (by omega) (by omega) (fun y hy => by have := hT2 y hy; omega)
    have ih2 := wT_forest (f := r) (L := L) (p := L) (T := T) h0 (by omega) hT
    rw [show (L + 1 - (L + 1)).toNat = 0 by omega, show L + 1 - 1 = L by omega] at ih1
    rw [show (L + 1 - L).toNat = 1 by omega] at ih2
    have e : rowsF L (.cons d k r) ++ T = ⟨L, d⟩ :: (rowsF (L + 1) k ++ (rowsF L r ++ T)) := by
      show (⟨L, d⟩ :: (rowsF (L + 1) k ++ rowsF L r)) ++ T = _
      simp
    rw [e, wT_cons]
    show List.replicate (p + 1 - L).toNat 41 ++ (32 :: 40 :: (hdL d ++ wT L (rowsF (L + 1) k ++ (rowsF L r ++ T)))) = _
    rw [ih1, ih2]
    congr 1
    show 32 :: 40 :: (hdL d ++ ([] ++ (kidsW k ++ ([41] ++ (kidsW r ++ wT (L - 1) T))))) = (32 :: 40 :: (hdL d ++ (kidsW k ++ (41 :: kidsW r)))) ++ wT (L - 1) T
    simp
theorem wT_tree (d : Dt) (k : Fo) : wT (-1) (⟨0, d⟩ :: rowsF 1 k) = 32 :: nodeW d k := by
  have h := wT_forest (f := k) (L := 1) (p := 0) (T := []) (by decide) (by decide) (fun y h => nomatch h)
  rw [List.append_nil] at h
  rw [wT_cons]
  show List.replicate ((-1 : Int) + 1 - 0).toNat 41 ++ (32 :: 40 :: (hdL d ++ wT 0 (rowsF 1 k))) = _
  rw [h]
  rfl
theorem pT_snoc : ∀ (p : Int) (xs : List Rw) (x : Rw), pT p (xs ++ [x]) = pT p xs ++ (List.replicate (lastL p xs + 1 - x.lv).toNat 41 ++ (32 :: 40 :: hdL x.d))
  | p, [], x => by simp [pT, lastL]
  | p, y :: xs, x => by
    show List.replicate (p + 1 - y.lv).toNat 41 ++ (32 :: 40 :: (hdL y.d ++ pT y.lv (xs ++ [x]))) = (List.replicate (p + 1 - y.lv).toNat 41 ++ (32 :: 40 :: (hdL y.d ++ pT y.lv xs))) ++ _
    rw [pT_snoc y.lv xs x]
    simp [lastL]
theorem lastL_snoc (p : Int) (xs : List Rw) (x : Rw) : lastL p (xs ++ [x]) = x.lv := by rw [lastL_app]; rfl
/-! ### how long -/
theorem numI_len {n l : Int} (h : lim l n) (hl : l = -1 ∨ l = 0) : (numI n).length ≤ 9 := by
  rcases Int.lt_or_le n 0 with hn | hn
  · have e : n = -1 := by have := h.1; omega
    subst e
    decide +kernel
  · obtain ⟨m, rfl⟩ := Int.eq_ofNat_of_zero_le hn
    rw [numI_nat]
    exact TL.numL_len (by decide) (by have := h.2; omega)
theorem hdL_eq (d : Dt) : hdL d = TL.tl d.k ++ (32 :: (TL.tl d.s ++ (32 :: (numI d.st ++ (32 :: (numI d.ld ++ (32 :: (numI d.wd ++ (32 :: (numI d.lk ++ (32 :: (numI d.al ++ (32 :: numI d.pp))))))))))))) := rfl
theorem hdL_len {d : Dt} (h : DtOk d) : (hdL d).length ≤ 300 := by
  have h1 := numI_len h.st (.inl rfl)
  have h2 := numI_len h.ld (.inr rfl)
  have h3 := numI_len h.wd (.inr rfl)
  have h4 := numI_len h.lk (.inr rfl)
  have h5 := numI_len h.al (.inl rfl)
  have h6 := numI_len h.pp (.inr rfl)
  have h7 := h.k.1.2
  have h8 := h.s.1.2
  rw [TL.len_tl] at h7 h8
  rw [hdL_eq]
  simp only [List.length_append, List.length_cons]
  omega
theorem pT_len : ∀ {xs : List Rw} {p : Int}, Stp 0 p xs → -1 ≤ p → (∀ x ∈ xs, DtOk x.d) → ((pT p xs).length : Int) + lastL p xs ≤ p + 303 * xs.length ∧ -1 ≤ lastL p xs
  | [], p, _, hp, _ => by
    show ((0 : Nat) : Int) + p ≤ p + 303 * ((0 : Nat) : Int) ∧ -1 ≤ p
    omega
  | x :: xs, p, h, hp, hok => by
    obtain ⟨h1, h2, h3⟩ := h
    have ih := pT_len h3 (by omega) (fun y hy => hok y (List.mem_cons_of_mem _ hy))
    have hl := hdL_len (hok x (List.mem_cons_self ..))
    have e : (pT p (x :: xs)).length = (p + 1 - x.lv).toNat + (2 + ((hdL x.d).length + (pT x.lv xs).length)) := by
      show (List.replicate (p + 1 - x.lv).toNat 41 ++ (32 :: 40 :: (hdL x.d ++ pT x.lv xs))).length = _
      simp only [List.length_append, List.length_cons, List.length_replicate]
      omega
    have e2 : lastL p (x :: xs) = lastL x.lv xs := rfl
    rw [e, e2, List.length_cons]
    omega
theorem nodeW_len {d : Dt} {k : Fo} (h : ∀ x ∈ (⟨0, d⟩ :: rowsF 1 k : List Rw), DtOk x.d) : (nodeW d k).length ≤ 304 * (k.cnt + 1) := by
  have h1 := congrArg List.length (wT_tree d k)
  have hst : Stp 0 (-1) (⟨0, d⟩ :: rowsF 1 k) := by
    refine ⟨Int.le_refl _, by show (0 : Int) ≤ -1 + 1; decide, ?_⟩
    exact (rows_stp (L := 1) (f := k)).up fun x hx => by have := rowsF_low _ _ x hx; omega
  have h2 := pT_len hst (by decide) h
  unfold wT at h1
  rw [List.length_append, List.length_replicate, List.length_cons] at h1
  have h3 : (⟨0, d⟩ :: rowsF 1 k : List Rw).length = k.cnt + 1 := by rw [List.length_cons, rowsF_len]
  rw [h3] at h2
  omega
theorem kidsW_fks : ∀ f : Fo, kidsW f = (fks f).flatMap fun e => 32 :: nodeW e.1 e.2
  | .nil => rfl
  | .cons d k r => by
    show 32 :: 40 :: (hdL d ++ (kidsW k ++ (41 :: kidsW r))) = (32 :: 40 :: (hdL d ++ (kidsW k ++ [41]))) ++ (fks r).flatMap fun e => 32 :: nodeW e.1 e.2
    rw [kidsW_fks r]
    simp
theorem fks_cnt : ∀ f : Fo, ((fks f).map fun e => 1 + e.2.cnt).sum = f.cnt
  | .nil => rfl
  | .cons d k r => by
    show (1 + k.cnt) + ((fks r).map fun e => 1 + e.2.cnt).sum = 1 + k.cnt + r.cnt
    rw [fks_cnt r]
end Z
namespace Z
open PySem PySem.Spec L2 ItX
local macro_rules | `(tactic| walk_at "ne") => `(tactic| first
  | with_reducible assumption
  | with_reducible exact Ne.symm (by assumption)
  | exact Frs.ne (by with_reducible assumption) (by walk_at "hp")
  | exact Frs.ne' (by with_reducible assumption) (by walk_at "hp"))
local macro_rules | `(tactic| walk_at "hp") => `(tactic| first
  | with_reducible assumption
  | (with_reducible refine Same.at (by assumption) ?_; walk_at "hp")
  | (with_reducible refine SL.tup (by assumption) ?_; walk_at "hp")
  | (with_reducible refine SL.at (by assumption) (by walk_at "ne") ?_; walk_at "hp"))
local macro_rules | `(tactic| walk_at "sz") => `(tactic| first
  | with_reducible assumption
  | exact Nat.le_of_ble_eq_true rfl
  | (refine sz_le ?_; omega)
  | (refine sz_lt ?_; omega)
  | decide +kernel)
local macro_rules | `(tactic| walk_at "at") => `(tactic| first
  | with_reducible assumption
  | with_reducible exact at0
  | with_reducible exact at1
  | with_reducible exact at2
  | with_reducible exact ixN0)
local macro_rules | `(tactic| walk_at "nn") => `(tactic| first
  | omega
  | decide
  | exact ⟨by decide, by decide⟩
  | exact ⟨by omega, by omega⟩
  | exact ⟨by omega, by omega, by omega, by omega⟩)
local macro_rules | `(tactic| walk_at "rdv") => `(tactic| first
  | (with_reducible refine add_int ?_)
  | (with_reducible refine sub_int ?_)
  | (with_reducible refine neg_int ?_)
  | ((with_reducible refine ix_tpl (xs := ?xs) (v := ?v) ?h1 ?h2 ?_); (case h1 => walk_at "hp"); (case h2 => walk_at "at"))
  | ((with_reducible refine ix_lst (xs := ?xs) (v := ?v) ?h1 ?h2 ?_); (case h1 => walk_at "hp"); (case h2 => walk_at "at"))
  | (with_reducible refine eq_int ?_)
  | (with_reducible refine ne_int ?_)
  | (with_reducible refine lt_int ?_)
  | (with_reducible refine le_int ?_)
  | (with_reducible refine gt_int ?_)
  | (with_reducible refine ge_int ?_)
  | (with_reducible refine eq_str ?_)
  | (with_reducible refine ne_str ?_)
  | (with_reducible refine eq_bl ?_)
  | (with_reducible refine ne_bl ?_)
  | ((with_reducible refine mod_int ?hc ?_); (case hc => walk_at "nn"))
  | ((with_reducible refine div_int ?hc ?_); (case hc => walk_at "nn"))
  | ((with_reducible refine mul_intR ?hc ?_); (case hc => exact ⟨by decide, by decide⟩))
  | ((with_reducible refine mul_intR ?hc ?_); (case hc => exact ⟨by omega, by omega⟩))
  | ((with_reducible refine mul_intL ?hc ?_); (case hc => exact ⟨by omega, by omega⟩))
  | ((with_reducible refine pow_int ?hc ?_); (case hc => exact ⟨by decide, by decide, by decide⟩))
  | ((with_reducible refine add_str ?hc ?_); (case hc => walk_at "sz"))
  | ((with_reducible refine add_lst (xs := ?xs) (ys := ?ys) ?h1 ?h2 ?hc ?_); (case h1 => walk_at "hp"); (case h2 => walk_at "hp"); (case hc => walk_at "sz"))
  | ((with_reducible refine sl_strU ?hc ?_); (case hc => walk_at "sz"))
  | ((with_reducible refine sl_lst (xs := ?xs) ?h1 ?_); (case h1 => walk_at "hp"))
  | (with_reducible refine is_bl ?_)
  | (with_reducible refine isnt_bl ?_)
  | (with_reducible refine is_non ?_)
  | (with_reducible refine isnt_non ?_))
local macro_rules | `(tactic| walk_at "rdc") => `(tactic| first
  | ((with_reducible refine len_lst (xs := ?xs) ?h1 ?_); (case h1 => walk_at "hp"))
  | ((with_reducible refine len_tup (xs := ?xs) ?h1 ?_); (case h1 => walk_at "hp"))
  | ((with_reducible refine len_str ?hc ?_); (case hc => walk_at "sz"))
  | (with_reducible refine int_int ?_)
  | (with_reducible refine max_int ?_)
  | (with_reducible refine min_int ?_)
  | (with_reducible refine abs_int ?_)
  | (with_reducible refine isi_ii ?_)
  | (with_reducible refine isi_ib ?_)
  | (with_reducible refine isi_ss ?_)
  | (with_reducible refine isi_bb ?_)
  | ((with_reducible refine isi_tt (xs := ?xs) ?h1 ?_); (case h1 => walk_at "hp"))
  | ((with_reducible refine isi_ll (xs := ?xs) ?h1 ?_); (case h1 => walk_at "hp"))
  | ((with_reducible refine list_lst (xs := ?xs) ?h1 ?_); (case h1 => walk_at "hp"))
  | ((with_reducible refine list_tup (xs := ?xs) ?h1 ?_); (case h1 => walk_at "hp"))
  | ((with_reducible refine tuple_lst (xs := ?xs) ?h1 ?_); (case h1 => walk_at "hp"))
  | ((with_reducible refine tuple_tup (xs := ?xs) ?h1 ?_); (case h1 => walk_at "hp"))
  | ((with_reducible refine append_lst (xs := ?xs) ?h1 ?hc ?_); (case h1 => walk_at "hp"); (case hc => walk_at "sz"))
  | ((with_reducible refine clear_lst (xs := ?xs) ?h1 ?_); (case h1 => walk_at "hp"))
  | ((with_reducible refine set_lst (xs := ?xs) (k := ?k) ?h1 ?h2 ?_); (case h1 => walk_at "hp"); (case h2 => walk_at "at")))
local macro_rules | `(tactic| walk_at "rd1") => `(tactic| first
  | ((with_reducible refine rVar (v := ?v) ?h ?_); (case h => exact rfl))
  | (with_reducible refine rC ?_)
  | (with_reducible refine rCons ?_)
  | (with_reducible refine rNil ?_)
  | (with_reducible refine rOp ?_)
  | (with_reducible refine rSeq ?_)
  | (with_reducible refine rAsgN ?_)
  | (with_reducible refine rAsgT ?_)
  | (with_reducible refine rAsgS ?_)
  | (with_reducible refine rTest ?_)
  | (with_reducible refine rBl ?_)
  | (with_reducible refine rBl' ?_)
  | (with_reducible refine rInt ?_)
  | (with_reducible refine rInt' ?_)
  | (with_reducible refine rCall ?_)
  | (with_reducible refine rCB ?_)
  | (with_reducible refine rRet ?_)
  | (with_reducible refine rDrop ?_)
  | (with_reducible refine rIfS ?_)
  | (with_reducible refine rTup ?_)
  | (with_reducible refine rLst ?_)
  | (with_reducible refine ⟨Nat.le_of_ble_eq_true rfl, ?_⟩)
  | (with_reducible refine rSl ?_)
  | (with_reducible refine rPart ?_)
  | (with_reducible refine rNoPart ?_)
  | (with_reducible refine rBM ?_)
  | (with_reducible refine rBM0 ?_)
  | ((with_reducible refine tyL (xs := ?xs) ?h1 ?_); (case h1 => walk_at "hp"))
  | (with_reducible refine rM1 ?_)
  | (with_reducible refine rM0 ?_)
  | (with_reducible refine rStr ?_)
  | (with_reducible refine rTru ?_)
  | (with_reducible refine tru_bl ?_)
  | (with_reducible refine tru_int ?_)
  | ((with_reducible refine tru_lst (xs := ?xs) ?h1 ?_); (case h1 => walk_at "hp"))
  | ((with_reducible refine tru_tup (xs := ?xs) ?h1 ?_); (case h1 => walk_at "hp"))
  | ((with_reducible refine tru_str ?hc ?_); (case hc => walk_at "sz"))
  | (with_reducible refine rAnd ?_)
  | (with_reducible refine rOr ?_)
  | (with_reducible refine rNot ?_)
  | (with_reducible refine rAndV ?_)
  | (with_reducible refine rOrV ?_)
  | (with_reducible refine rNotV ?_)
  | (with_reducible refine rIfE ?_)
  | (with_reducible refine rChain ?_)
  | (with_reducible refine rChain3 ?_)
  | (with_reducible refine ifT ?_)
  | (with_reducible refine ifF ?_)
  | (with_reducible refine ifNF ?_)
  | (with_reducible refine ifNT ?_)
  | (with_reducible refine rNext ?_)
  | (with_reducible refine rBrk ?_)
  | (with_reducible refine rCnt ?_)
  | (with_reducible refine rRetN ?_)
  | (with_reducible refine rForR1 ?_)
  | (with_reducible refine rForR2 ?_)
  | (with_reducible refine rForL ?_)
  | ((with_reducible refine rRg1 ?hb ?_); (case hb => walk_at "nn"))
  | ((with_reducible refine rRg2 ?hb ?_); (case hb => walk_at "nn"))
  | ((with_reducible refine rRf (xs := ?xs) ?h1 ?_); (case h1 => walk_at "hp"))
  | (with_reducible refine rLcR1 ?_)
  | (with_reducible refine rLcR2 ?_)
  | (with_reducible refine rLcL ?_)
  | (with_reducible refine gN ?_)
  | (with_reducible refine gNl ?_)
  | (with_reducible refine gC ?_)
  | ((with_reducible refine gT (xs := ?xs) ?h1 ?h2 ?_); (case h1 => walk_at "hp"); (case h2 => exact rfl))
  | (with_reducible refine rUn ?_)
  | walk_at "rdv"
  | walk_at "rdc")
local macro_rules | `(tactic| walk_at "rd") => `(tactic| repeat walk_at "rd1")

local macro_rules | `(tactic| walk_at "rd1") => `(tactic| first
  | (with_reducible refine rCallS ?_)
  | (with_reducible refine rRaise ?_)
  | (with_reducible refine rXf ?_)
  | (with_reducible refine rXi ?_)
  | (with_reducible refine rOst ?_)
  | (with_reducible refine rRevL ?_)
  | ((with_reducible refine revL_end (xs := ?xs) ?h1 ?_); (case h1 => walk_at "hp")))

local macro_rules | `(tactic| walk_at "rd1") => `(tactic| first
  | (with_reducible refine rForR3 ?_)
  | ((with_reducible refine rRgD ?hb ?_); (case hb => walk_at "nn"))
  | (with_reducible refine gS ?_))

local macro_rules | `(tactic| walk_at "rd1") => `(tactic| first
  | (with_reducible refine rFld ?_)
  | (with_reducible refine rSFld ?_)
  | (with_reducible refine rMake ?_)
  | (with_reducible refine rMeth ?_)
  | (with_reducible refine rForT ?_)
  | (with_reducible refine rLcT ?_)
  | (with_reducible refine rLcO ?_)
  | (with_reducible refine rForO ?_)
  | (with_reducible refine rLstY ?_)
  | ((with_reducible refine rRt (xs := ?xs) ?h1 ?_); (case h1 => walk_at "hp"))
  | ((with_reducible refine listY_lst (xs := ?xs) ?h1 ?_); (case h1 => walk_at "hp"))
  | ((with_reducible refine listY_tup (xs := ?xs) ?h1 ?_); (case h1 => walk_at "hp")))

local macro_rules | `(tactic| walk_at "hp") => `(tactic| first
  | (with_reducible refine SL.ins (by assumption) ?_; walk_at "hp"))
local macro_rules | `(tactic| walk_at "at") => `(tactic| first
  | with_reducible exact at3
  | with_reducible exact at4
  | with_reducible exact at5
  | with_reducible exact at6
  | with_reducible exact at7
  | with_reducible exact at8)
local macro_rules | `(tactic| walk_at "rd1") => `(tactic| first
  | (with_reducible refine rMkWK ?_)
  | (with_reducible refine rForS ?_)
  | (with_reducible refine rDGet ?_)
  | (with_reducible refine rDPut ?_)
  | (with_reducible refine rIts ?_)
  | (with_reducible refine rLstRg ?_)
  | ((with_reducible refine reverse_lst (xs := ?xs) ?h1 ?_); (case h1 => walk_at "hp"))
  | ((with_reducible refine extend_lst (xs := ?xs) (ys := ?ys) ?h1 ?h2 ?hc ?_); (case h1 => walk_at "hp"); (case h2 => walk_at "hp"); (case hc => walk_at "sz"))
  | ((with_reducible refine fN_kind (mg := ?mg) (C := ?C) (dx := ?dx) (d := ?d) (ns := ?ns) ?hu ?hp ?_); (case hu => with_reducible assumption); (case hp => walk_at "hp"))
  | ((with_reducible refine fN_symbol (mg := ?mg) (C := ?C) (dx := ?dx) (d := ?d) (ns := ?ns) ?hu ?hp ?_); (case hu => with_reducible assumption); (case hp => walk_at "hp"))
  | ((with_reducible refine fN_state (mg := ?mg) (C := ?C) (dx := ?dx) (d := ?d) (ns := ?ns) ?hu ?hp ?_); (case hu => with_reducible assumption); (case hp => walk_at "hp"))
  | ((with_reducible refine fN_lead (mg := ?mg) (C := ?C) (dx := ?dx) (d := ?d) (ns := ?ns) ?hu ?hp ?_); (case hu => with_reducible assumption); (case hp => walk_at "hp"))
  | ((with_reducible refine fN_width (mg := ?mg) (C := ?C) (dx := ?dx) (d := ?d) (ns := ?ns) ?hu ?hp ?_); (case hu => with_reducible assumption); (case hp => walk_at "hp"))
  | ((with_reducible refine fN_look (mg := ?mg) (C := ?C) (dx := ?dx) (d := ?d) (ns := ?ns) ?hu ?hp ?_); (case hu => with_reducible assumption); (case hp => walk_at "hp"))
  | ((with_reducible refine fN_alternative (mg := ?mg) (C := ?C) (dx := ?dx) (d := ?d) (ns := ?ns) ?hu ?hp ?_); (case hu => with_reducible assumption); (case hp => walk_at "hp"))
  | ((with_reducible refine fN_nodes (mg := ?mg) (C := ?C) (dx := ?dx) (d := ?d) (ns := ?ns) ?hu ?hp ?_); (case hu => with_reducible assumption); (case hp => walk_at "hp"))
  | ((with_reducible refine fN_popped (mg := ?mg) (C := ?C) (dx := ?dx) (d := ?d) (ns := ?ns) ?hu ?hp ?_); (case hu => with_reducible assumption); (case hp => walk_at "hp")))

/-! ## names, levels, rows -/
def sp_law_quoted : Sp := fun vs H Q _ => ∃ z : Str, vs = [.str z] ∧ 0 < z.length ∧ z.length ≤ 1000 ∧ (∀ c ∈ TL.tl z, isQ c = true) ∧ ∀ y : Str, y.length ≤ 2 * z.length + 2 → wrun 0 (TL.tl y) = 5 → Ok y → Q (.str y) H
theorem use_quoted {z : Str} {H : Hp} {Q : VK} {E : XK} (h0 : 0 < z.length) (hl : z.length ≤ 1000) (ho : ∀ c ∈ TL.tl z, isQ c = true) (h : ∀ y : Str, y.length ≤ 2 * z.length + 2 → wrun 0 (TL.tl y) = 5 → Ok y → Q (.str y) H) : sp_law_quoted [.str z] H Q E := ⟨z, rfl, h0, hl, ho, h⟩
theorem isQ_lt {c : Nat} (h : isQ c = true) : c < 1114112 := by
  rcases Nat.lt_or_ge c 127 with q | q
  · omega
  · unfold isQ at h
    rw [lit_hi c q, beq_false_of_ne (show c ≠ 9 by omega), beq_false_of_ne (show c ≠ 10 by omega), beq_false_of_ne (show c ≠ 34 by omega), beq_false_of_ne (show c ≠ 92 by omega)] at h
    cases h
theorem all_sign {p : Nat → Bool} {z : Str} {c : Nat} (h : ((TL.tl z).all p) = true) (hc : c ∈ TL.tl z) : p c = true := List.all_eq_true.mp h c hc
theorem quo_app {t y : Str} {w : List Nat} {m : Nat} (hm : m = 2 ∨ m = 3) (h : wrun 0 (TL.tl t) = m) (hy : TL.tl y = w) (h2 : wrun 2 w = 3) (h3 : wrun 3 w = 3) : wrun 0 (TL.tl (t ++ y)) = 3 := by
  rw [TL.tl_append, wrun_app, h, hy]
  rcases hm with rfl | rfl
  · exact h2
  · exact h3
/-- what draws a name -/
def NamDraw : Sp := fun vs H Q _ => ∃ r : Addr, vs = [.ref r] ∧ Reel H r ∧ ∀ (y : Str) (H' : Hp), Nam y → SL r H H' → Reel H' r → Q (.str y) H'
def sp_law_literal : Sp := NamDraw
def sp_law_name : Sp := NamDraw
def sp_law_sort : Sp := NamDraw
theorem use_nam {r : Addr} {H : Hp} {Q : VK} {E : XK} (hR : Reel H r) (h : ∀ (y : Str) (H' : Hp), Nam y → SL r H H' → Reel H' r → Q (.str y) H') : NamDraw [.ref r] H Q E := ⟨r, rfl, hR, h⟩
theorem use_literal {r : Addr} {H : Hp} {Q : VK} {E : XK} (hR : Reel H r) (h : ∀ (y : Str) (H' : Hp), Nam y → SL r H H' → Reel H' r → Q (.str y) H') : sp_law_literal [.ref r] H Q E := use_nam hR h
theorem use_name {r : Addr} {H : Hp} {Q : VK} {E : XK} (hR : Reel H r) (h : ∀ (y : Str) (H' : Hp), Nam y → SL r H H' → Reel H' r → Q (.str y) H') : sp_law_name [.ref r] H Q E := use_nam hR h
theorem use_sort {r : Addr} {H : Hp} {Q : VK} {E : XK} (hR : Reel H r) (h : ∀ (y : Str) (H' : Hp), Nam y → SL r H H' → Reel H' r → Q (.str y) H') : sp_law_sort [.ref r] H Q E := use_nam hR h
def sp_law_comb : Sp := fun vs H Q _ => ∃ (r : Addr) (n : Int), vs = [.ref r, .int n] ∧ Reel H r ∧ 1 ≤ n ∧ n ≤ 2000 ∧ ∀ (p : Addr) (ls : List Int) (H' : Hp), SL r H H' → Reel H' r → Frs H p → H' p = some (.lst (ls.map V.int)) → LvOk ls → ls.length ≤ 2 * n.toNat + 1 → Q (.ref p) H'
theorem use_comb {r : Addr} {n : Int} {H : Hp} {Q : VK} {E : XK} (hR : Reel H r) (h1 : 1 ≤ n ∧ n ≤ 2000) (h : ∀ (p : Addr) (ls : List Int) (H' : Hp), SL r H H' → Reel H' r → Frs H p → H' p = some (.lst (ls.map V.int)) → LvOk ls → ls.length ≤ 2 * n.toNat + 1 → Q (.ref p) H') : sp_law_comb [.ref r, .int n] H Q E := ⟨r, n, rfl, hR, h1.1, h1.2, h⟩
def sp_law_levels : Sp := fun vs H Q _ => ∃ (r : Addr), vs = [.ref r] ∧ Reel H r ∧ ∀ (p : Addr) (ls : List Int) (H' : Hp), SL r H H' → Reel H' r → Frs H p → H' p = some (.lst (ls.map V.int)) → LvOk ls → ls.length ≤ 40 → Q (.ref p) H'
theorem use_levels {r : Addr} {H : Hp} {Q : VK} {E : XK} (hR : Reel H r) (h : ∀ (p : Addr) (ls : List Int) (H' : Hp), SL r H H' → Reel H' r → Frs H p → H' p = some (.lst (ls.map V.int)) → LvOk ls → ls.length ≤ 40 → Q (.ref p) H') : sp_law_levels [.ref r] H Q E := ⟨r, rfl, hR, h⟩
def sp_law_count : Sp := fun vs H Q _ => ∃ (r : Addr) (l : Int), vs = [.ref r, .int l] ∧ Reel H r ∧ -1 ≤ l ∧ l ≤ 0 ∧ ∀ (n : Int) (H' : Hp), lim l n → SL r H H' → Reel H' r → Q (.int n) H'
theorem use_count {r : Addr} {l : Int} {H : Hp} {Q : VK} {E : XK} (hR : Reel H r) (hl : -1 ≤ l ∧ l ≤ 0) (h : ∀ (n : Int) (H' : Hp), lim l n → SL r H H' → Reel H' r → Q (.int n) H') : sp_law_count [.ref r, .int l] H Q E := ⟨r, l, rfl, hR, hl.1, hl.2, h⟩
def RowDraw : Sp := fun vs H Q _ => ∃ (r : Addr) (l : Int), vs = [.ref r, .int l] ∧ Reel H r ∧ ∀ (v : V) (d : Dt) (H' : Hp), DtOk d → SL r H H' → Reel H' r → RowAt H' v ⟨l, d⟩ → Q v H'
def sp_law_row : Sp := RowDraw
def sp_law_small_row : Sp := RowDraw
theorem use_rowd {r : Addr} {l : Int} {H : Hp} {Q : VK} {E : XK} (hR : Reel H r) (h : ∀ (v : V) (d : Dt) (H' : Hp), DtOk d → SL r H H' → Reel H' r → RowAt H' v ⟨l, d⟩ → Q v H') : RowDraw [.ref r, .int l] H Q E := ⟨r, l, rfl, hR, h⟩
theorem use_row1 {r : Addr} {l : Int} {H : Hp} {Q : VK} {E : XK} (hR : Reel H r) (h : ∀ (v : V) (d : Dt) (H' : Hp), DtOk d → SL r H H' → Reel H' r → RowAt H' v ⟨l, d⟩ → Q v H') : sp_law_row [.ref r, .int l] H Q E := use_rowd hR h
theorem use_row2 {r : Addr} {l : Int} {H : Hp} {Q : VK} {E : XK} (hR : Reel H r) (h : ∀ (v : V) (d : Dt) (H' : Hp), DtOk d → SL r H H' → Reel H' r → RowAt H' v ⟨l, d⟩ → Q v H') : sp_law_small_row [.ref r, .int l] H Q E := use_rowd hR h
/-! ### a row of whole numbers that is drawn -/
def Nums : List Int → List V → Prop
  | ls, vs => ∃ ns : List Int, vs = ns.map V.int ∧ ns.length ≤ ls.length ∧ ∀ (i : Nat) n l, ns[i]? = some n → ls[i]? = some l → lim l n
theorem Nums.nil (ls : List Int) : Nums ls [] := ⟨[], rfl, Nat.zero_le _, fun i n l h => by simp at h⟩
theorem Nums.snoc {ls : List Int} {vs : List V} {n l : Int} (h : Nums ls vs) (hl : ls[vs.length]? = some l) (hn : lim l n) : Nums ls (vs ++ [.int n]) := by
  obtain ⟨ns, rfl, h1, h2⟩ := h
  rw [List.length_map] at hl
  have := (List.getElem?_eq_some_iff.mp hl).1
  refine ⟨ns ++ [n], by rw [List.map_append]; rfl, by rw [List.length_append]; show ns.length + 1 ≤ _; omega, fun i m k hm hk => ?_⟩
  rcases Nat.lt_trichotomy i ns.length with c | c | c
  · rw [List.getElem?_append_left c] at hm
    exact h2 i m k hm hk
  · subst c
    rw [List.getElem?_append_right (Nat.le_refl _), Nat.sub_self] at hm
    cases hm
    rw [hl] at hk
    cases hk
    exact hn
  · rw [List.getElem?_append_right (by omega), List.getElem?_eq_none (by show 1 ≤ _; omega)] at hm
    cases hm
theorem Nums.six {vs : List V} (h : Nums [-1, 0, 0, 0, -1, 0] vs) (hl : vs.length = 6) : ∃ a b c d e f : Int, vs = [.int a, .int b, .int c, .int d, .int e, .int f] ∧ lim (-1) a ∧ lim 0 b ∧ lim 0 c ∧ lim 0 d ∧ lim (-1) e ∧ lim 0 f := by
  obtain ⟨ns, rfl, _, h2⟩ := h
  rw [List.length_map] at hl
  match ns, hl, h2 with
  | [a, b, c, d, e, f], _, h2 => exact ⟨a, b, c, d, e, f, rfl, h2 0 a _ rfl rfl, h2 1 b _ rfl rfl, h2 2 c _ rfl rfl, h2 3 d _ rfl rfl, h2 4 e _ rfl rfl, h2 5 f _ rfl rfl⟩
theorem snocI {ls : List Int} {x : Int} : ls.map V.int ++ [V.int x] = (ls ++ [x]).map V.int := by rw [List.map_append]; rfl
theorem ok_of {z : Str} (h : ((TL.tl z).all fun c => decide (c < 1114112)) = true) : Ok z := fun c hc => of_decide_eq_true (List.all_eq_true.mp h c hc)
theorem ok_sign {z : Str} {c : Nat} (h : Ok z) (hc : c ∈ TL.tl z) : Ok ⟨#[c]⟩ := fun x hx => by
  have : x = c := by simpa [TL.tl] using hx
  rw [this]
  exact h c hc
theorem ok_in {z x : Str} (h : Ok z) (hx : ∀ c ∈ TL.tl x, c ∈ TL.tl z) : Ok x := fun c hc => h c (hx c hc)
section
variable {P : Program} {w : World} {K : PySem.W.Frag} {mg : Str → Option Value} {base : Heap} {aNode aNil : Addr}
theorem cal_law_quoted {f : Addr} {fd : FuncData} (T : Txt mg) (FD : C8.Def K mg "_law_quoted" s_law_quoted f fd) (b : Binds K fd ["chars"] []) : C8.Cal P w K mg base 1 "_law_quoted" sp_law_quoted [] := by
  refine C8.cal0 FD b .nil sc_law_quoted (fun vs H Q E h => ?_) (fun cdv A outer s H vs Q E hr h => ?_)
  · obtain ⟨z, rfl, _⟩ := h; rfl
  · obtain ⟨z, rfl, hz0, hl, hq, k⟩ := h
    refine ⟨_, (pss_cons (ps_set (i := 1) sc_law_quoted.nd rfl (.inl rfl) pe_str)
  (pss_cons (ps_for PassesOwn.never rfl (pi_str (pv 0)) (pg_name (i := 2) sc_law_quoted.nd rfl (.inl rfl)) (pss_one (ps_if (pt_cmpR (op_eqK K (hu64 hr)) (pv 2) pe_str (nomark _)) (pss_one (ps_set (i := 1) sc_law_quoted.nd rfl (.inl rfl) (pe_op (op_addK K) (pv 1) pe_str))) (pss_one (ps_if (pt_cmpR (op_eqK K (hu64 hr)) (pv 2) pe_str (nomark _)) (pss_one (ps_set (i := 1) sc_law_quoted.nd rfl (.inl rfl) (pe_op (op_addK K) (pv 1) pe_str))) (pss_one (ps_if (PW.pt (pw_or (pt_cmpR (op_eqK K (hu64 hr)) (pv 2) pe_str (nomark _)) (pw_or1 (pt_cmpR (op_eqK K (hu64 hr)) (pv 2) pe_str (nomark _))))) (pss_one (ps_set (i := 1) sc_law_quoted.nd rfl (.inl rfl) (pe_op (op_addK K) (pe_op (op_addK K) (pv 1) pe_str) (pv 2)))) (pss_one (ps_set (i := 1) sc_law_quoted.nd rfl (.inl rfl) (pe_op (op_addK K) (pv 1) (pv 2)))))))))))
  (pss_one (ps_ret (pe_op (op_addK K) (pv 1) pe_str))))), ?_⟩
    show (_ : TS) _ [some (.str z), none, none] H
    walk_at "rd"
    have hz : z.cps.size = z.length := rfl
    refine loopS_by (fun i σ' H' => ∃ (t : Str) (o2 : Option V), σ' = [some (.str z), some (.str t), o2] ∧ H' = H ∧ t.length ≤ 1 + 2 * i ∧ Ok t ∧ i ≤ z.length ∧ wrun 0 (TL.tl t) = (if i = 0 then 2 else 3)) ?_ ?_ ?_
    · exact ⟨_, none, rfl, rfl, by decide +kernel, ok_of (by decide +kernel), Nat.zero_le _, by decide +kernel⟩
    · rintro i c σ' H' hc ⟨t, o2, rfl, rfl, ht, hto, hi, hw⟩
      have hcl := (Array.getElem?_eq_some_iff.mp hc).1
      have hci : c ∈ TL.tl z := by
        rw [← Array.getElem?_toList] at hc
        exact List.mem_of_getElem? hc
      have hcq := hq c hci
      have hoc : Ok ⟨#[c]⟩ := fun x hx => by
        have : x = c := by simpa [TL.tl] using hx
        rw [this]
        exact isQ_lt hcq
      have hm : (if i = 0 then 2 else 3) = 2 ∨ (if i = 0 then 2 else 3) = 3 := by
        by_cases e : i = 0
        · rw [if_pos e]; exact .inl rfl
        · rw [if_neg e]; exact .inr rfl
      walk_at "rd"
      have fin : ∀ y : Str, y.length ≤ 1 + 2 * (i + 1) → Ok y → wrun 0 (TL.tl y) = 3 → ∃ (t : Str) (o2 : Option V), [some (V.str z), some (V.str y), some (V.str ⟨#[c]⟩)] = [some (.str z), some (.str t), o2] ∧ H' = H' ∧ t.length ≤ 1 + 2 * (i + 1) ∧ Ok t ∧ i + 1 ≤ z.length ∧ wrun 0 (TL.tl t) = (if i + 1 = 0 then 2 else 3) := fun y h1 h2 h3 => ⟨y, _, rfl, rfl, h1, h2, by omega, by rw [if_neg (Nat.succ_ne_zero i)]; exact h3⟩
      rw [dec_sign (a := 10) (by decide +kernel)]
      refine ifD (fun _ => ?_) (fun n10 => ?_)
      · walk_at "rd"
        refine fin _ ?_ (hto.app (ok_of (by decide +kernel))) (quo_app (w := [92, 110]) hm hw (by decide +kernel) (by decide) (by decide))
        rw [len_app]
        have : ("\\n" : Str).length = 2 := by decide +kernel
        omega
      · walk_at "rd"
        rw [dec_sign (a := 9) (by decide +kernel)]
        refine ifD (fun _ => ?_) (fun n9 => ?_)
        · walk_at "rd"
          refine fin _ ?_ (hto.app (ok_of (by decide +kernel))) (quo_app (w := [92, 116]) hm hw (by decide +kernel) (by decide) (by decide))
          rw [len_app]
          have : ("\\t" : Str).length = 2 := by decide +kernel
          omega
        · have e1 : (⟨#[c]⟩ : Str).length = 1 := rfl
          have e2 : (t ++ "\\" : Str).length = t.length + 1 := by
            rw [len_app]
            have : ("\\" : Str).length = 1 := by decide +kernel
            omega
          have esc : ((t ++ "\\") ++ ⟨#[c]⟩ : Str).length ≤ 1 + 2 * (i + 1) := by
            rw [len_app]
            omega
          have bs : wrun 0 (TL.tl (t ++ "\\" : Str)) = 4 := by
            rw [TL.tl_append, wrun_app, hw, show TL.tl ("\\" : Str) = [92] by decide +kernel]
            rcases hm with e | e <;> (rw [e]; rfl)
          have bw : c = 34 ∨ c = 92 → wrun 0 (TL.tl ((t ++ "\\") ++ ⟨#[c]⟩ : Str)) = 3 := fun h => by
            rw [TL.tl_append, wrun_app, bs]
            show wst 4 c = 3
            rcases h with rfl | rfl <;> rfl
          walk_at "rd"
          rw [dec_sign (a := 34) (by decide +kernel)]
          refine ifD (fun e34 => ?_) (fun n34 => ?_)
          · walk_at "rd"
            exact fin _ esc ((hto.app (ok_of (by decide +kernel))).app hoc) (bw (.inl e34))
          · walk_at "rd"
            rw [dec_sign (a := 92) (by decide +kernel)]
            refine ifD (fun e92 => ?_) (fun n92 => ?_)
            · walk_at "rd"
              exact fin _ esc ((hto.app (ok_of (by decide +kernel))).app hoc) (bw (.inr e92))
            · walk_at "rd"
              have hlit : isLit c = true := by
                unfold isQ at hcq
                rw [beq_false_of_ne n10, beq_false_of_ne n9, beq_false_of_ne n34, beq_false_of_ne n92] at hcq
                simpa using hcq
              refine fin _ ?_ (hto.app hoc) (quo_app (w := [c]) hm hw rfl (wst_2l hlit) (wst_3l hlit))
              rw [len_app]
              have : (⟨#[c]⟩ : Str).length = 1 := rfl
              omega
    · rintro σ' H' ⟨t, o2, rfl, rfl, ht, hto, hi, hw⟩
      walk_at "rd"
      refine k (t ++ "\"") ?_ ?_ (hto.app (ok_of (by decide +kernel)))
      · rw [len_app]
        have : ("\"" : Str).length = 1 := by decide +kernel
        omega
      · rw [TL.tl_append, wrun_app, hw, if_neg (by omega), show TL.tl ("\"" : Str) = [34] by decide +kernel]
        rfl
theorem cal_law_literal {f : Addr} {fd : FuncData} (T : Txt mg) (FD : C8.Def K mg "_law_literal" s_law_literal f fd) (b : Binds K fd ["reel"] [])
    (c_law_quoted : C8.Cal P w K mg base 1 "_law_quoted" sp_law_quoted [])
    (c_law_draw : C8.Cal P w K mg base 1 "_law_draw" sp_law_draw [])
    (c_law_pick : C8.Cal P w K mg base 2 "_law_pick" sp_law_pick []) : C8.Cal P w K mg base 3 "_law_literal" sp_law_literal [] := by
  refine C8.cal0 FD b .nil sc_law_literal (fun vs H Q E h => ?_) (fun cdv A outer s H vs Q E hr h => ?_)
  · obtain ⟨r, rfl, _⟩ := h; rfl
  · obtain ⟨r, rfl, hR, k⟩ := h
    refine ⟨_, (pss_cons (ps_set (i := 1) sc_law_literal.nd rfl (.inl rfl) pe_str)
  (pss_cons (ps_set (i := 1) sc_law_literal.nd rfl (.inl rfl) (pe_op (op_addK K) (pv 1) pe_str))
  (pss_cons (ps_set (i := 2) sc_law_literal.nd rfl (.inl rfl) pe_str)
  (pss_cons (ps_for PassesOwn.never rfl (pi_range1 rfl T.n_range (pa_cons (pe_op (op_addK K) pe_int (C8.pe_c c_law_draw hr (by decide) (by rfl) (pa_cons (pv 0) (pa_cons pe_int pa_nil)))) pa_nil)) (pg_name (i := 3) sc_law_literal.nd rfl (.inl rfl)) (pss_one (ps_if (pt_cmpR (op_eqK K (hu64 hr)) (C8.pe_c c_law_draw hr (by decide) (by rfl) (pa_cons (pv 0) (pa_cons pe_int pa_nil))) pe_int (nomark _)) (pss_one (ps_set (i := 2) sc_law_literal.nd rfl (.inl rfl) (pe_op (op_addK K) (pv 2) (C8.pe_c c_law_pick hr (by decide) (by rfl) (pa_cons (pv 0) (pa_cons pe_str pa_nil)))))) (pss_one (ps_set (i := 2) sc_law_literal.nd rfl (.inl rfl) (pe_op (op_addK K) (pv 2) (C8.pe_c c_law_pick hr (by decide) (by rfl) (pa_cons (pv 0) (pa_cons (pv 1) pa_nil)))))))))
  (pss_one (ps_ret (C8.pe_c c_law_quoted hr (by decide) (by rfl) (pa_cons (pv 2) pa_nil)))))))), ?_⟩
    show (_ : TS) _ [some (.ref r), none, none, none] H
    walk_at "rd"
    generalize hp : (("\t\n !\"#$&'()*+,-./0123456789:;<=>?@ABCDEFGHIJKLMNOPQRSTUVWXYZ[\\]^_" : Str) ++ "abcdefghijklmnopqrstuvwxyz{|}~") = pl
    have hpo : ((TL.tl pl).all isQ) = true ∧ 0 < pl.length ∧ pl.length ≤ 16777216 := by
      subst hp
      exact ⟨by decide +kernel, by decide +kernel, by decide +kernel⟩
    refine use_draw hR (by omega) fun n H1 i0 i1 s1 r1 => ?_
    walk_at "rd"
    refine loopR_by (fun i σ' H' => ∃ (t : Str) (o3 : Option V), σ' = [some (.ref r), some (.str pl), some (.str t), o3] ∧ SL r H H' ∧ Reel H' r ∧ t.length = i ∧ (∀ c ∈ TL.tl t, isQ c = true) ∧ i ≤ 6) ?_ ?_ ?_
    · exact ⟨_, none, rfl, s1, r1, by decide +kernel, List.all_eq_true.mp (by decide +kernel), by omega⟩
    · rintro i σ' H2 hi ⟨t, o3, rfl, s2, r2, ht, hto, hi6⟩
      have more : ∀ c : Nat, isQ c = true → ∀ b ∈ TL.tl (t ++ ⟨#[c]⟩ : Str), isQ b = true := fun c hc b hb => by
        rw [TL.tl_append] at hb
        rcases List.mem_append.mp hb with hb | hb
        · exact hto b hb
        · have : b = c := by simpa [TL.tl] using hb
          rw [this]; exact hc
      walk_at "rd"
      refine use_draw r2 (by omega) fun m H3 j0 j1 s3 r3 => ?_
      walk_at "rd"
      have one : ∀ c : Nat, (⟨#[c]⟩ : Str).length = 1 := fun c => rfl
      refine ifD (fun _ => ?_) (fun _ => ?_)
      · walk_at "rd"
        refine use_pickC r3 (by decide +kernel) (by decide +kernel) fun c H4 hc s4 r4 => ?_
        have := one c
        walk_at "rd"
        exact ⟨_, _, rfl, (s2.trans s3).trans s4, r4, by rw [len_app]; omega, more c (all_sign (by decide +kernel) hc), by omega⟩
      · walk_at "rd"
        refine use_pickC r3 hpo.2.1 hpo.2.2 fun c H4 hc s4 r4 => ?_
        have := one c
        walk_at "rd"
        exact ⟨_, _, rfl, (s2.trans s3).trans s4, r4, by rw [len_app]; omega, more c (all_sign hpo.1 hc), by omega⟩
    · rintro σ' H2 ⟨t, o3, rfl, s2, r2, ht, hto, hi6⟩
      walk_at "rd"
      refine use_quoted (by omega) (by omega) hto fun y hy hyw hyo => ?_
      exact k y H2 ⟨⟨.inr hyw, by omega⟩, hyo⟩ s2 r2
theorem cal_law_name {f : Addr} {fd : FuncData} (T : Txt mg) (FD : C8.Def K mg "_law_name" s_law_name f fd) (b : Binds K fd ["reel"] [])
    (c_law_draw : C8.Cal P w K mg base 1 "_law_draw" sp_law_draw [])
    (c_law_pick : C8.Cal P w K mg base 2 "_law_pick" sp_law_pick [])
    (c_law_word : C8.Cal P w K mg base 3 "_law_word" sp_law_word []) : C8.Cal P w K mg base 4 "_law_name" sp_law_name [] := by
  refine C8.cal0 FD b .nil sc_law_name (fun vs H Q E h => ?_) (fun cdv A outer s H vs Q E hr h => ?_)
  · obtain ⟨r, rfl, _⟩ := h; rfl
  · obtain ⟨r, rfl, hR, k⟩ := h
    refine ⟨_, (pss_cons (ps_if (pt_cmpR (op_eqK K (hu64 hr)) (C8.pe_c c_law_draw hr (by decide) (by rfl) (pa_cons (pv 0) (pa_cons pe_int pa_nil))) pe_int (nomark _)) (pss_one (ps_ret (C8.pe_c c_law_pick hr (by decide) (by rfl) (pa_cons (pv 0) (pa_cons (pe_lst (pa_cons pe_str (pa_cons pe_str (pa_cons pe_str (pa_cons pe_str pa_nil))))) pa_nil))))) pss_nil)
  (pss_cons (ps_set (i := 1) sc_law_name.nd rfl (.inl rfl) pe_str)
  (pss_one (ps_ret (pe_op (op_addK K) (C8.pe_c c_law_pick hr (by decide) (by rfl) (pa_cons (pv 0) (pa_cons (pv 1) pa_nil))) (C8.pe_c c_law_word hr (by decide) (by rfl) (pa_cons (pv 0) (pa_cons (pe_op (op_addK K) (pv 1) pe_str) (pa_cons pe_int (pa_cons pe_int pa_nil)))))))))), ?_⟩
    show (_ : TS) _ [some (.ref r), none] H
    walk_at "rd"
    refine use_draw hR (by omega) fun n H1 i0 i1 s1 r1 => ?_
    walk_at "rd"
    refine ifD (fun _ => ?_) (fun _ => ?_)
    · · walk_at "rd"
        refine newO_gen fun p H2 f2 s2 h2 => ?_
        walk_at "rd"
        have nm : ∀ z : Str, wrun 0 (TL.tl z) = 1 → z.length ≤ 100 → ((TL.tl z).all fun c => decide (c < 1114112)) = true → Nam z := fun z h1 h2 h3 => ⟨⟨.inl h1, h2⟩, ok_of h3⟩
        refine use_pickS (P := Nam) (r1.same s2) h2 (r1.ne f2).symm (by decide) (.cons (nm _ (by decide +kernel) (by decide +kernel) (by decide +kernel)) (.cons (nm _ (by decide +kernel) (by decide +kernel) (by decide +kernel)) (.cons (nm _ (by decide +kernel) (by decide +kernel) (by decide +kernel)) (.cons (nm _ (by decide +kernel) (by decide +kernel) (by decide +kernel)) .nil)))) fun z H3 hz s3 r3 => ?_
        exact k z H3 hz ((s1.more s2).trans s3) r3
    · walk_at "rd"
      refine use_pickC r1 (by decide +kernel) (by decide +kernel) fun c H2 hc s2 r2 => ?_
      have h1 : (⟨#[c]⟩ : Str).length = 1 := rfl
      walk_at "rd"
      generalize hp : (("abcdefghijklmnopqrstuvwxyz" : Str) ++ "0123456789_~") = pl
      have hpo : Ok pl ∧ 0 < pl.length ∧ pl.length ≤ 1000 := by
        subst hp
        exact ⟨ok_of (by decide +kernel), by decide +kernel, by decide +kernel⟩
      have hpn : ((TL.tl pl).all isNmc) = true := by
        subst hp
        decide +kernel
      refine use_word r2 hpo.2 (by decide) fun x H3 x1 x2 x3 s3 r3 => ?_
      walk_at "rd"
      refine k _ H3 ⟨⟨.inl ?_, by rw [len_app]; omega⟩, (ok_sign (ok_of (by decide +kernel)) hc).app (ok_in hpo.1 x3)⟩ ((s1.trans s2).trans s3) r3
      rw [TL.tl_append, wrun_app]
      have e1 : wrun 0 (TL.tl (⟨#[c]⟩ : Str)) = 1 := wst_0l (all_sign (p := isLet) (by decide +kernel) hc)
      rw [e1]
      exact wrun_nmc fun b hb => all_sign hpn (x3 b hb)
theorem cal_law_sort {f : Addr} {fd : FuncData} (T : Txt mg) (FD : C8.Def K mg "_law_sort" s_law_sort f fd) (b : Binds K fd ["reel"] [])
    (c_law_name : C8.Cal P w K mg base 4 "_law_name" sp_law_name [])
    (c_law_draw : C8.Cal P w K mg base 1 "_law_draw" sp_law_draw [])
    (c_law_literal : C8.Cal P w K mg base 3 "_law_literal" sp_law_literal []) : C8.Cal P w K mg base 5 "_law_sort" sp_law_sort [] := by
  refine C8.cal0 FD b .nil sc_law_sort (fun vs H Q E h => ?_) (fun cdv A outer s H vs Q E hr h => ?_)
  · obtain ⟨r, rfl, _⟩ := h; rfl
  · obtain ⟨r, rfl, hR, k⟩ := h
    refine ⟨_, (pss_cons (ps_if (pt_cmpR (op_eqK K (hu64 hr)) (C8.pe_c c_law_draw hr (by decide) (by rfl) (pa_cons (pv 0) (pa_cons pe_int pa_nil))) pe_int (nomark _)) (pss_one (ps_ret (C8.pe_c c_law_literal hr (by decide) (by rfl) (pa_cons (pv 0) pa_nil)))) pss_nil)
  (pss_one (ps_ret (C8.pe_c c_law_name hr (by decide) (by rfl) (pa_cons (pv 0) pa_nil))))), ?_⟩
    show (_ : TS) _ [some (.ref r)] H
    walk_at "rd"
    refine use_draw hR (by omega) fun n H1 i0 i1 s1 r1 => ?_
    walk_at "rd"
    refine ifD (fun _ => ?_) (fun _ => ?_)
    · walk_at "rd"
      refine use_literal r1 fun y H2 hy s2 r2 => ?_
      exact k y H2 hy (s1.trans s2) r2
    · walk_at "rd"
      refine use_name r1 fun y H2 hy s2 r2 => ?_
      exact k y H2 hy (s1.trans s2) r2
theorem cal_law_comb {f : Addr} {fd : FuncData} (T : Txt mg) (FD : C8.Def K mg "_law_comb" s_law_comb f fd) (b : Binds K fd ["reel", "deep"] [])
    (c_law_draw : C8.Cal P w K mg base 1 "_law_draw" sp_law_draw []) : C8.Cal P w K mg base 2 "_law_comb" sp_law_comb [] := by
  refine C8.cal0 FD b .nil sc_law_comb (fun vs H Q E h => ?_) (fun cdv A outer s H vs Q E hr h => ?_)
  · obtain ⟨r, n, rfl, _⟩ := h; rfl
  · obtain ⟨r, n, rfl, hR, hn1, hn2, k⟩ := h
    refine ⟨_, (pss_cons (ps_set (i := 2) sc_law_comb.nd rfl (.inl rfl) (pe_cmpR (op_eqK K (hu64 hr)) (C8.pe_c c_law_draw hr (by decide) (by rfl) (pa_cons (pv 0) (pa_cons pe_int pa_nil))) pe_int (nomark _)))
  (pss_cons (ps_set (i := 3) sc_law_comb.nd rfl (.inl rfl) (pe_lst (pa_cons pe_int pa_nil)))
  (pss_cons (ps_for PassesOwn.never rfl (pi_range1 rfl T.n_range (pa_cons (pv 1) pa_nil)) (pg_name (i := 4) sc_law_comb.nd rfl (.inl rfl)) (pss_cons (ps_expr (pe_bm F.plainAttrs_list F.slot_list_append F.type_list_append mt_append (pv 3) (pa_cons (pe_op (op_addK K) (pv 4) pe_int) pa_nil)))
  (pss_one (ps_if (pt_truK K (pv 2) (by intro _; rfl)) (pss_one (ps_expr (pe_bm F.plainAttrs_list F.slot_list_append F.type_list_append mt_append (pv 3) (pa_cons (pe_op (op_addK K) (pv 4) pe_int) pa_nil)))) pss_nil))))
  (C8.pss_cut (ps_if (pt_not (pt_truK K (pv 2) (by intro _; rfl))) (pss_one (ps_for PassesOwn.never rfl (pi_range1 rfl T.n_range (pa_cons (pv 1) pa_nil)) (pg_name (i := 4) sc_law_comb.nd rfl (.inl rfl)) (pss_one (ps_expr (pe_bm F.plainAttrs_list F.slot_list_append F.type_list_append mt_append (pv 3) (pa_cons (pe_op op_subU (pv 1) (pv 4)) pa_nil)))))) pss_nil)
  (pss_one (ps_ret (pv 3))))))), ?_⟩
    show (_ : TS) _ [some (.ref r), some (.int n), none, none, none] H
    walk_at "rd"
    refine use_draw hR (by omega) fun b H1 i0 i1 s1 r1 => ?_
    walk_at "rd"
    refine newO_gen fun p H2 f2 s2 h2 => ?_
    have hpr : p ≠ r := (r1.ne f2).symm
    have f0 : Frs H p := s1.fre f2
    walk_at "rd"
    refine loopR_by (fun i σ' H' => ∃ (ls : List Int) (o4 : Option V), σ' = [some (.ref r), some (.int n), some (.bl (decide (b = 1))), some (.ref p), o4] ∧ SL r H H' ∧ Reel H' r ∧ H' p = some (.lst (ls.map V.int)) ∧
      LvOk ls ∧ ls.length ≤ 1 + 2 * i ∧ (ls.length = 1 + i ∨ b = 1) ∧ ls[ls.length - 1]? = some (i : Int)) ?_ ?_ ?_
    · exact ⟨[0], none, rfl, s1.more s2, r1.same s2, h2, ⟨[], rfl, trivial⟩, by simp, .inl rfl, rfl⟩
    · rintro i σ' H3 hi ⟨ls, o4, rfl, s3, r3, h3, hlv, hll, hlb, hla⟩
      have hml : (ls.map V.int).length = ls.length := List.length_map ..
      walk_at "rd"
      refine putO_gen h3 fun H4 s4 h4 => ?_
      rw [snocI] at h4
      have hlv2 : LvOk (ls ++ [0 + (i : Int) + 1]) := hlv.snoc (by omega) ⟨_, hla, by omega⟩
      have r4 := r3.sl s4 hpr.symm
      have ss4 : SL r H H4 := s3.two s4 f0
      walk_at "rd"
      refine ifD (fun hb => ?_) (fun hb => ?_)
      · have hml2 : ((ls ++ [0 + (i : Int) + 1]).map V.int).length = ls.length + 1 := by rw [List.length_map, List.length_append]; rfl
        walk_at "rd"
        refine putO_gen h4 fun H5 s5 h5 => ?_
        rw [snocI] at h5
        refine ⟨_, _, rfl, ss4.two s5 f0, r4.sl s5 hpr.symm, h5, hlv2.snoc (by omega) ⟨_, by rw [List.length_append, show ls.length + [0 + (i : Int) + 1].length - 1 = ls.length by simp, List.getElem?_append_right (Nat.le_refl _), Nat.sub_self]; rfl, by omega⟩, by rw [List.length_append, List.length_append]; show ls.length + 1 + 1 ≤ _; omega, .inr hb, ?_⟩
        rw [List.length_append, List.length_append, show ls.length + [0 + (i : Int) + 1].length + [0 + (i : Int) + 1].length - 1 = (ls ++ [0 + (i : Int) + 1]).length by simp, List.getElem?_append_right (Nat.le_refl _), Nat.sub_self]
        show some (0 + (i : Int) + 1) = _
        congr 1
        omega
      · walk_at "rd"
        refine ⟨_, _, rfl, ss4, r4, h4, hlv2, by rw [List.length_append]; show ls.length + 1 ≤ _; omega, .inl (by rw [List.length_append]; show ls.length + 1 = _; omega), ?_⟩
        rw [List.length_append, show ls.length + [0 + (i : Int) + 1].length - 1 = ls.length by simp, List.getElem?_append_right (Nat.le_refl _), Nat.sub_self]
        show some (0 + (i : Int) + 1) = _
        congr 1
        omega
    · rintro σ' H3 ⟨ls, o4, rfl, s3, r3, h3, hlv, hll, hlb, hla⟩
      walk_at "rd"
      have hn : (n.toNat : Int) = n := by omega
      refine rCut (fun σ' H' => ∃ (ls : List Int) (o4 : Option V), σ' = [some (.ref r), some (.int n), some (.bl (decide (b = 1))), some (.ref p), o4] ∧ SL r H H' ∧ Reel H' r ∧ H' p = some (.lst (ls.map V.int)) ∧ LvOk ls ∧ ls.length ≤ 2 * n.toNat + 1) ?_ ?_
      · walk_at "rd"
        refine ifND (fun hb => ?_) (fun hb => ?_)
        · walk_at "rd"
          have hlb' : ls.length = 1 + n.toNat := by rcases hlb with h | h <;> omega
          refine loopR_by (fun i σ' H' => ∃ (ls : List Int) (o4 : Option V), σ' = [some (.ref r), some (.int n), some (.bl (decide (b = 1))), some (.ref p), o4] ∧ SL r H H' ∧ Reel H' r ∧ H' p = some (.lst (ls.map V.int)) ∧
            LvOk ls ∧ ls.length = 1 + n.toNat + i ∧ ∃ y, ls[ls.length - 1]? = some y ∧ n - i ≤ y + 1) ?_ ?_ ?_
          · exact ⟨ls, _, rfl, s3, r3, h3, hlv, hlb', _, hla, by omega⟩
          · rintro i σ' H4 hi ⟨ls, o4, rfl, s4, r4, h4, hlv, hll, y, hy, hy2⟩
            have hml : (ls.map V.int).length = ls.length := List.length_map ..
            walk_at "rd"
            refine putO_gen h4 fun H5 s5 h5 => ?_
            rw [snocI] at h5
            refine ⟨_, _, rfl, s4.two s5 f0, r4.sl s5 hpr.symm, h5, hlv.snoc (by omega) ⟨y, hy, by omega⟩, by rw [List.length_append]; show ls.length + 1 = _; omega, n - (0 + (i : Int)), ?_, ?_⟩
            · rw [List.length_append, show ls.length + [n - (0 + (i : Int))].length - 1 = ls.length by simp, List.getElem?_append_right (Nat.le_refl _), Nat.sub_self]
              rfl
            · omega
          · rintro σ' H4 ⟨ls, o4, rfl, s4, r4, h4, hlv, hll, _⟩
            exact ⟨ls, _, rfl, s4, r4, h4, hlv, by omega⟩
        · walk_at "rd"
          exact ⟨ls, _, rfl, s3, r3, h3, hlv, by omega⟩
      · rintro σ' H4 ⟨ls, o4, rfl, s4, r4, h4, hlv, hll⟩
        walk_at "rd"
        exact k p ls H4 s4 r4 f0 h4 hlv hll
theorem cal_law_levels {f : Addr} {fd : FuncData} (T : Txt mg) (FD : C8.Def K mg "_law_levels" s_law_levels f fd) (b : Binds K fd ["reel"] [])
    (c_law_pick : C8.Cal P w K mg base 2 "_law_pick" sp_law_pick []) : C8.Cal P w K mg base 3 "_law_levels" sp_law_levels [] := by
  refine C8.cal0 FD b .nil sc_law_levels (fun vs H Q E h => ?_) (fun cdv A outer s H vs Q E hr h => ?_)
  · obtain ⟨r, rfl, _⟩ := h; rfl
  · obtain ⟨r, rfl, hR, k⟩ := h
    refine ⟨_, (pss_cons (ps_set (i := 1) sc_law_levels.nd rfl (.inl rfl) (pe_lst (pa_cons pe_int pa_nil)))
  (pss_cons (ps_set (i := 2) sc_law_levels.nd rfl (.inl rfl) (C8.pe_c c_law_pick hr (by decide) (by rfl) (pa_cons (pv 0) (pa_cons (pe_lst (pa_cons pe_int (pa_cons pe_int (pa_cons pe_int (pa_cons pe_int (pa_cons pe_int (pa_cons pe_int (pa_cons pe_int (pa_cons pe_int (pa_cons pe_int (pa_cons pe_int (pa_cons pe_int (pa_cons pe_int (pa_cons pe_int pa_nil)))))))))))))) pa_nil))))
  (pss_cons (ps_for PassesOwn.never rfl (pi_range1 rfl T.n_range (pa_cons (pv 2) pa_nil)) (pg_name (i := 3) sc_law_levels.nd rfl (.inl rfl)) (pss_cons (ps_set (i := 4) sc_law_levels.nd rfl (.inl rfl) (C8.pe_c c_law_pick hr (by decide) (by rfl) (pa_cons (pv 0) (pa_cons (pe_lst (pa_cons pe_int (pa_cons pe_int (pa_cons pe_int (pa_cons pe_int (pa_cons pe_int (pa_cons pe_int (pa_cons pe_int (pa_cons pe_int pa_nil))))))))) pa_nil))))
  (pss_one (ps_expr (pe_bm F.plainAttrs_list F.slot_list_append F.type_list_append mt_append (pv 1) (pa_cons (pe_callB (call_max2U rfl) (by rfl) T.n_max (by decide +kernel) (pa_cons pe_int (pa_cons (pe_callB (call_min2U rfl) (by rfl) T.n_min (by decide +kernel) (pa_cons pe_int (pa_cons (pe_op op_subU (pe_op (op_addK K) (pe_ix (ix_K K) (pv 1) (pv 3) (fun _ _ => rfl)) pe_int) (pv 4)) pa_nil))) pa_nil))) pa_nil))))))
  (pss_one (ps_ret (pv 1)))))), ?_⟩
    show (_ : TS) _ [some (.ref r), none, none, none, none] H
    walk_at "rd"
    refine newO_gen fun p H1 f1 s1 h1 => ?_
    have hpr : p ≠ r := (hR.ne f1).symm
    walk_at "rd"
    refine newO_gen fun q H2 f2 s2 h2 => ?_
    have r2 : Reel H2 r := (hR.same s1).same s2
    have hqr : q ≠ r := ((hR.same s1).ne f2).symm
    walk_at "rd"
    refine use_pickI (lo := 0) (hi := 39) r2 h2 hqr (by decide) (by repeat (first | exact .nil | refine .cons (by omega) ?_)) fun z H3 z0 z1 s3 r3 => ?_
    walk_at "rd"
    refine loopR_by (fun i σ' H' => ∃ (ls : List Int) (o3 o4 : Option V), σ' = [some (.ref r), some (.ref p), some (.int z), o3, o4] ∧ SL r H H' ∧ Reel H' r ∧ H' p = some (.lst (ls.map V.int)) ∧ LvOk ls ∧ ls.length = i + 1) ?_ ?_ ?_
    · exact ⟨[0], none, none, rfl, (hR.sl0 (Same.trans s1 s2)).trans s3, r3, s3.at hpr (Same.at s2 h1), ⟨[], rfl, trivial⟩, rfl⟩
    · rintro i σ' H4 hi ⟨ls, o3, o4, rfl, s4, r4, h4, hlv, hll⟩
      have hml : (ls.map V.int).length = ls.length := List.length_map ..
      walk_at "rd"
      refine newO_gen fun q2 H5 f5 s5 h5 => ?_
      have r5 := r4.same s5
      have hq2r : q2 ≠ r := (r4.ne f5).symm
      walk_at "rd"
      refine use_pickI (lo := 0) (hi := 12) r5 h5 hq2r (by decide) (by repeat (first | exact .nil | refine .cons (by omega) ?_)) fun y H6 y0 y1 s6 r6 => ?_
      obtain ⟨la, hla, hla0⟩ := hlv.last
      have hat : atI (ls.map V.int) (0 + (i : Int)) = some (V.int la) := at_of (j := i) (by omega) (by rw [List.getElem?_map, ← show ls.length - 1 = i by omega, hla]; rfl)
      have h6 : H6 p = some (.lst (ls.map V.int)) := s6.at hpr (Same.at s5 h4)
      walk_at "rd"
      generalize hx : (if (if la + 1 - y < 12 then la + 1 - y else 12) > 1 then (if la + 1 - y < 12 then la + 1 - y else 12) else (1 : Int)) = x
      have hx1 : 1 ≤ x ∧ x ≤ la + 1 := by rw [← hx]; split <;> split <;> omega
      refine putO_gen h6 fun H7 s7 h7 => ?_
      rw [snocI] at h7
      refine ⟨_, _, _, rfl, ((s4.more s5).trans s6).two s7 f1, r6.sl s7 hpr.symm, h7, hlv.snoc hx1.1 ⟨la, hla, hx1.2⟩, by rw [List.length_append]; show ls.length + 1 = _; omega⟩
    · rintro σ' H4 ⟨ls, o3, o4, rfl, s4, r4, h4, hlv, hll⟩
      walk_at "rd"
      exact k p ls H4 s4 r4 f1 h4 hlv (by omega)
end
end Z
namespace Z
open PySem PySem.Spec L2 ItX
local macro_rules | `(tactic| walk_at "ne") => `(tactic| first
  | with_reducible assumption
  | with_reducible exact Ne.symm (by assumption)
  | exact Frs.ne (by with_reducible assumption) (by walk_at "hp")
  | exact Frs.ne' (by with_reducible assumption) (by walk_at "hp"))
local macro_rules | `(tactic| walk_at "hp") => `(tactic| first
  | with_reducible assumption
  | (with_reducible refine Same.at (by assumption) ?_; walk_at "hp")
  | (with_reducible refine SL.tup (by assumption) ?_; walk_at "hp")
  | (with_reducible refine SL.at (by assumption) (by walk_at "ne") ?_; walk_at "hp"))
local macro_rules | `(tactic| walk_at "sz") => `(tactic| first
  | with_reducible assumption
  | exact Nat.le_of_ble_eq_true rfl
  | (refine sz_le ?_; omega)
  | (refine sz_lt ?_; omega)
  | decide +kernel)
local macro_rules | `(tactic| walk_at "at") => `(tactic| first
  | with_reducible assumption
  | with_reducible exact at0
  | with_reducible exact at1
  | with_reducible exact at2
  | with_reducible exact ixN0)
local macro_rules | `(tactic| walk_at "nn") => `(tactic| first
  | omega
  | decide
  | exact ⟨by decide, by decide⟩
  | exact ⟨by omega, by omega⟩
  | exact ⟨by omega, by omega, by omega, by omega⟩)
local macro_rules | `(tactic| walk_at "rdv") => `(tactic| first
  | (with_reducible refine add_int ?_)
  | (with_reducible refine sub_int ?_)
  | (with_reducible refine neg_int ?_)
  | ((with_reducible refine ix_tpl (xs := ?xs) (v := ?v) ?h1 ?h2 ?_); (case h1 => walk_at "hp"); (case h2 => walk_at "at"))
  | ((with_reducible refine ix_lst (xs := ?xs) (v := ?v) ?h1 ?h2 ?_); (case h1 => walk_at "hp"); (case h2 => walk_at "at"))
  | (with_reducible refine eq_int ?_)
  | (with_reducible refine ne_int ?_)
  | (with_reducible refine lt_int ?_)
  | (with_reducible refine le_int ?_)
  | (with_reducible refine gt_int ?_)
  | (with_reducible refine ge_int ?_)
  | (with_reducible refine eq_str ?_)
  | (with_reducible refine ne_str ?_)
  | (with_reducible refine eq_bl ?_)
  | (with_reducible refine ne_bl ?_)
  | ((with_reducible refine mod_int ?hc ?_); (case hc => walk_at "nn"))
  | ((with_reducible refine div_int ?hc ?_); (case hc => walk_at "nn"))
  | ((with_reducible refine mul_intR ?hc ?_); (case hc => exact ⟨by decide, by decide⟩))
  | ((with_reducible refine mul_intR ?hc ?_); (case hc => exact ⟨by omega, by omega⟩))
  | ((with_reducible refine mul_intL ?hc ?_); (case hc => exact ⟨by omega, by omega⟩))
  | ((with_reducible refine pow_int ?hc ?_); (case hc => exact ⟨by decide, by decide, by decide⟩))
  | ((with_reducible refine add_str ?hc ?_); (case hc => walk_at "sz"))
  | ((with_reducible refine add_lst (xs := ?xs) (ys := ?ys) ?h1 ?h2 ?hc ?_); (case h1 => walk_at "hp"); (case h2 => walk_at "hp"); (case hc => walk_at "sz"))
  | ((with_reducible refine sl_strU ?hc ?_); (case hc => walk_at "sz"))
  | ((with_reducible refine sl_lst (xs := ?xs) ?h1 ?_); (case h1 => walk_at "hp"))
  | (with_reducible refine is_bl ?_)
  | (with_reducible refine isnt_bl ?_)
  | (with_reducible refine is_non ?_)
  | (with_reducible refine isnt_non ?_))
local macro_rules | `(tactic| walk_at "rdc") => `(tactic| first
  | ((with_reducible refine len_lst (xs := ?xs) ?h1 ?_); (case h1 => walk_at "hp"))
  | ((with_reducible refine len_tup (xs := ?xs) ?h1 ?_); (case h1 => walk_at "hp"))
  | ((with_reducible refine len_str ?hc ?_); (case hc => walk_at "sz"))
  | (with_reducible refine int_int ?_)
  | (with_reducible refine max_int ?_)
  | (with_reducible refine min_int ?_)
  | (with_reducible refine abs_int ?_)
  | (with_reducible refine isi_ii ?_)
  | (with_reducible refine isi_ib ?_)
  | (with_reducible refine isi_ss ?_)
  | (with_reducible refine isi_bb ?_)
  | ((with_reducible refine isi_tt (xs := ?xs) ?h1 ?_); (case h1 => walk_at "hp"))
  | ((with_reducible refine isi_ll (xs := ?xs) ?h1 ?_); (case h1 => walk_at "hp"))
  | ((with_reducible refine list_lst (xs := ?xs) ?h1 ?_); (case h1 => walk_at "hp"))
  | ((with_reducible refine list_tup (xs := ?xs) ?h1 ?_); (case h1 => walk_at "hp"))
  | ((with_reducible refine tuple_lst (xs := ?xs) ?h1 ?_); (case h1 => walk_at "hp"))
  | ((with_reducible refine tuple_tup (xs := ?xs) ?h1 ?_); (case h1 => walk_at "hp"))
  | ((with_reducible refine append_lst (xs := ?xs) ?h1 ?hc ?_); (case h1 => walk_at "hp"); (case hc => walk_at "sz"))
  | ((with_reducible refine clear_lst (xs := ?xs) ?h1 ?_); (case h1 => walk_at "hp"))
  | ((with_reducible refine set_lst (xs := ?xs) (k := ?k) ?h1 ?h2 ?_); (case h1 => walk_at "hp"); (case h2 => walk_at "at")))
local macro_rules | `(tactic| walk_at "rd1") => `(tactic| first
  | ((with_reducible refine rVar (v := ?v) ?h ?_); (case h => exact rfl))
  | (with_reducible refine rC ?_)
  | (with_reducible refine rCons ?_)
  | (with_reducible refine rNil ?_)
  | (with_reducible refine rOp ?_)
  | (with_reducible refine rSeq ?_)
  | (with_reducible refine rAsgN ?_)
  | (with_reducible refine rAsgT ?_)
  | (with_reducible refine rAsgS ?_)
  | (with_reducible refine rTest ?_)
  | (with_reducible refine rBl ?_)
  | (with_reducible refine rBl' ?_)
  | (with_reducible refine rInt ?_)
  | (with_reducible refine rInt' ?_)
  | (with_reducible refine rCall ?_)
  | (with_reducible refine rCB ?_)
  | (with_reducible refine rRet ?_)
  | (with_reducible refine rDrop ?_)
  | (with_reducible refine rIfS ?_)
  | (with_reducible refine rTup ?_)
  | (with_reducible refine rLst ?_)
  | (with_reducible refine ⟨Nat.le_of_ble_eq_true rfl, ?_⟩)
  | (with_reducible refine rSl ?_)
  | (with_reducible refine rPart ?_)
  | (with_reducible refine rNoPart ?_)
  | (with_reducible refine rBM ?_)
  | (with_reducible refine rBM0 ?_)
  | ((with_reducible refine tyL (xs := ?xs) ?h1 ?_); (case h1 => walk_at "hp"))
  | (with_reducible refine rM1 ?_)
  | (with_reducible refine rM0 ?_)
  | (with_reducible refine rStr ?_)
  | (with_reducible refine rTru ?_)
  | (with_reducible refine tru_bl ?_)
  | (with_reducible refine tru_int ?_)
  | ((with_reducible refine tru_lst (xs := ?xs) ?h1 ?_); (case h1 => walk_at "hp"))
  | ((with_reducible refine tru_tup (xs := ?xs) ?h1 ?_); (case h1 => walk_at "hp"))
  | ((with_reducible refine tru_str ?hc ?_); (case hc => walk_at "sz"))
  | (with_reducible refine rAnd ?_)
  | (with_reducible refine rOr ?_)
  | (with_reducible refine rNot ?_)
  | (with_reducible refine rAndV ?_)
  | (with_reducible refine rOrV ?_)
  | (with_reducible refine rNotV ?_)
  | (with_reducible refine rIfE ?_)
  | (with_reducible refine rChain ?_)
  | (with_reducible refine rChain3 ?_)
  | (with_reducible refine ifT ?_)
  | (with_reducible refine ifF ?_)
  | (with_reducible refine ifNF ?_)
  | (with_reducible refine ifNT ?_)
  | (with_reducible refine rNext ?_)
  | (with_reducible refine rBrk ?_)
  | (with_reducible refine rCnt ?_)
  | (with_reducible refine rRetN ?_)
  | (with_reducible refine rForR1 ?_)
  | (with_reducible refine rForR2 ?_)
  | (with_reducible refine rForL ?_)
  | ((with_reducible refine rRg1 ?hb ?_); (case hb => walk_at "nn"))
  | ((with_reducible refine rRg2 ?hb ?_); (case hb => walk_at "nn"))
  | ((with_reducible refine rRf (xs := ?xs) ?h1 ?_); (case h1 => walk_at "hp"))
  | (with_reducible refine rLcR1 ?_)
  | (with_reducible refine rLcR2 ?_)
  | (with_reducible refine rLcL ?_)
  | (with_reducible refine gN ?_)
  | (with_reducible refine gNl ?_)
  | (with_reducible refine gC ?_)
  | ((with_reducible refine gT (xs := ?xs) ?h1 ?h2 ?_); (case h1 => walk_at "hp"); (case h2 => exact rfl))
  | (with_reducible refine rUn ?_)
  | walk_at "rdv"
  | walk_at "rdc")
local macro_rules | `(tactic| walk_at "rd") => `(tactic| repeat walk_at "rd1")

local macro_rules | `(tactic| walk_at "rd1") => `(tactic| first
  | (with_reducible refine rCallS ?_)
  | (with_reducible refine rRaise ?_)
  | (with_reducible refine rXf ?_)
  | (with_reducible refine rXi ?_)
  | (with_reducible refine rOst ?_)
  | (with_reducible refine rRevL ?_)
  | ((with_reducible refine revL_end (xs := ?xs) ?h1 ?_); (case h1 => walk_at "hp")))

local macro_rules | `(tactic| walk_at "rd1") => `(tactic| first
  | (with_reducible refine rForR3 ?_)
  | ((with_reducible refine rRgD ?hb ?_); (case hb => walk_at "nn"))
  | (with_reducible refine gS ?_))

local macro_rules | `(tactic| walk_at "rd1") => `(tactic| first
  | (with_reducible refine rFld ?_)
  | (with_reducible refine rSFld ?_)
  | (with_reducible refine rMake ?_)
  | (with_reducible refine rMeth ?_)
  | (with_reducible refine rForT ?_)
  | (with_reducible refine rLcT ?_)
  | (with_reducible refine rLcO ?_)
  | (with_reducible refine rForO ?_)
  | (with_reducible refine rLstY ?_)
  | ((with_reducible refine rRt (xs := ?xs) ?h1 ?_); (case h1 => walk_at "hp"))
  | ((with_reducible refine listY_lst (xs := ?xs) ?h1 ?_); (case h1 => walk_at "hp"))
  | ((with_reducible refine listY_tup (xs := ?xs) ?h1 ?_); (case h1 => walk_at "hp")))

local macro_rules | `(tactic| walk_at "hp") => `(tactic| first
  | (with_reducible refine SL.ins (by assumption) ?_; walk_at "hp"))
local macro_rules | `(tactic| walk_at "at") => `(tactic| first
  | with_reducible exact at3
  | with_reducible exact at4
  | with_reducible exact at5
  | with_reducible exact at6
  | with_reducible exact at7
  | with_reducible exact at8)
local macro_rules | `(tactic| walk_at "rd1") => `(tactic| first
  | (with_reducible refine rMkWK ?_)
  | (with_reducible refine rForS ?_)
  | (with_reducible refine rDGet ?_)
  | (with_reducible refine rDPut ?_)
  | (with_reducible refine rIts ?_)
  | (with_reducible refine rLstRg ?_)
  | ((with_reducible refine reverse_lst (xs := ?xs) ?h1 ?_); (case h1 => walk_at "hp"))
  | ((with_reducible refine extend_lst (xs := ?xs) (ys := ?ys) ?h1 ?h2 ?hc ?_); (case h1 => walk_at "hp"); (case h2 => walk_at "hp"); (case hc => walk_at "sz"))
  | ((with_reducible refine fN_kind (mg := ?mg) (C := ?C) (dx := ?dx) (d := ?d) (ns := ?ns) ?hu ?hp ?_); (case hu => with_reducible assumption); (case hp => walk_at "hp"))
  | ((with_reducible refine fN_symbol (mg := ?mg) (C := ?C) (dx := ?dx) (d := ?d) (ns := ?ns) ?hu ?hp ?_); (case hu => with_reducible assumption); (case hp => walk_at "hp"))
  | ((with_reducible refine fN_state (mg := ?mg) (C := ?C) (dx := ?dx) (d := ?d) (ns := ?ns) ?hu ?hp ?_); (case hu => with_reducible assumption); (case hp => walk_at "hp"))
  | ((with_reducible refine fN_lead (mg := ?mg) (C := ?C) (dx := ?dx) (d := ?d) (ns := ?ns) ?hu ?hp ?_); (case hu => with_reducible assumption); (case hp => walk_at "hp"))
  | ((with_reducible refine fN_width (mg := ?mg) (C := ?C) (dx := ?dx) (d := ?d) (ns := ?ns) ?hu ?hp ?_); (case hu => with_reducible assumption); (case hp => walk_at "hp"))
  | ((with_reducible refine fN_look (mg := ?mg) (C := ?C) (dx := ?dx) (d := ?d) (ns := ?ns) ?hu ?hp ?_); (case hu => with_reducible assumption); (case hp => walk_at "hp"))
  | ((with_reducible refine fN_alternative (mg := ?mg) (C := ?C) (dx := ?dx) (d := ?d) (ns := ?ns) ?hu ?hp ?_); (case hu => with_reducible assumption); (case hp => walk_at "hp"))
  | ((with_reducible refine fN_nodes (mg := ?mg) (C := ?C) (dx := ?dx) (d := ?d) (ns := ?ns) ?hu ?hp ?_); (case hu => with_reducible assumption); (case hp => walk_at "hp"))
  | ((with_reducible refine fN_popped (mg := ?mg) (C := ?C) (dx := ?dx) (d := ?d) (ns := ?ns) ?hu ?hp ?_); (case hu => with_reducible assumption); (case hp => walk_at "hp")))

/-- a tree's rows are drawn -/
def TreeDraw (n : Nat) : Sp := fun vs H Q _ => ∃ r : Addr, vs = [.ref r] ∧ Reel H r ∧ ∀ (p : Addr) (rows : List Rw) (H' : Hp), SL r H H' → Reel H' r → Frs H p → RowsIn H' p rows → Grow n rows → Q (.ref p) H'
def sp_law_tree : Sp := TreeDraw 5000
theorem use_tree {r : Addr} {H : Hp} {Q : VK} {E : XK} (hR : Reel H r) (h : ∀ (p : Addr) (rows : List Rw) (H' : Hp), SL r H H' → Reel H' r → Frs H p → RowsIn H' p rows → Grow 5000 rows → Q (.ref p) H') : sp_law_tree [.ref r] H Q E := ⟨r, rfl, hR, h⟩
/-- rows for levels, so far -/
def RowsFor (ls : List Int) (vs : List V) (H : Hp) : Prop := ∃ rows, Rows H vs rows ∧ rows.map (·.lv) = ls.take vs.length ∧ ∀ x ∈ rows, DtOk x.d
theorem RowsFor.nil {ls : List Int} {H : Hp} : RowsFor ls [] H := ⟨[], .nil, rfl, fun _ h => nomatch h⟩
theorem RowsFor.snoc {ls : List Int} {vs : List V} {H H' : Hp} {v : V} {l : Int} {d : Dt} (h : RowsFor ls vs H) (s : TpS H H') (hl : ls[vs.length]? = some l) (hd : DtOk d) (hv : RowAt H' v ⟨l, d⟩) : RowsFor ls (vs ++ [v]) H' := by
  obtain ⟨rows, h1, h2, h3⟩ := h
  refine ⟨rows ++ [⟨l, d⟩], Paired.snoc (h1.ts s) hv, ?_, fun x hx => ?_⟩
  · rw [List.map_append, h2, List.length_append, show vs.length + [v].length = vs.length + 1 from rfl, List.take_succ, hl]
    rfl
  · rcases List.mem_append.mp hx with hx | hx
    · exact h3 x hx
    · rw [List.mem_singleton.mp hx]; exact hd
theorem RowsFor.all {ls : List Int} {vs : List V} {H : Hp} (h : RowsFor ls vs H) (hl : vs.length = ls.length) (ho : LvOk ls) : ∃ rows, Rows H vs rows ∧ Grow ls.length rows := by
  obtain ⟨rows, h1, h2, h3⟩ := h
  rw [hl, List.take_length] at h2
  exact ⟨rows, h1, ho.tre h2, by rw [← hl, ← Paired.len h1]; exact Nat.le_refl _, h3⟩
theorem Grow.le {m n : Nat} {rows : List Rw} (h : Grow m rows) (hn : m ≤ n) : Grow n rows := ⟨h.tre, by have := h.len; omega, h.ok⟩
section
variable {P : Program} {w : World} {K : PySem.W.Frag} {mg : Str → Option Value} {base : Heap} {aNode aNil : Addr}
theorem cal_law_count {f : Addr} {fd : FuncData} (T : Txt mg) (FD : C8.Def K mg "_law_count" s_law_count f fd) (b : Binds K fd ["reel", "least"] [])
    (c_law_draw : C8.Cal P w K mg base 1 "_law_draw" sp_law_draw []) : C8.Cal P w K mg base 2 "_law_count" sp_law_count [] := by
  refine C8.cal0 FD b .nil sc_law_count (fun vs H Q E h => ?_) (fun cdv A outer s H vs Q E hr h => ?_)
  · obtain ⟨r, l, rfl, _⟩ := h; rfl
  · obtain ⟨r, l, rfl, hR, l0, l1, k⟩ := h
    refine ⟨_, (pss_cons (ps_set (i := 2) sc_law_count.nd rfl (.inl rfl) (C8.pe_c c_law_draw hr (by decide) (by rfl) (pa_cons (pv 0) (pa_cons pe_int pa_nil))))
  (pss_cons (ps_if (pt_cmpR op_ltU (pv 2) pe_int (nomark _)) (pss_one (ps_ret (pv 1))) pss_nil)
  (pss_cons (ps_if (pt_cmpR (op_eqK K (hu64 hr)) (pv 2) pe_int (nomark _)) (pss_one (ps_ret (pe_op op_subU pe_int (C8.pe_c c_law_draw hr (by decide) (by rfl) (pa_cons (pv 0) (pa_cons pe_int pa_nil)))))) pss_nil)
  (pss_cons (ps_if (pt_cmpR op_ltU (pv 2) pe_int (nomark _)) (pss_one (ps_ret (C8.pe_c c_law_draw hr (by decide) (by rfl) (pa_cons (pv 0) (pa_cons pe_int pa_nil))))) pss_nil)
  (pss_one (ps_ret (pe_op (op_addK K) (pe_op op_mulU (pe_op (op_addK K) (pe_op op_mulU (C8.pe_c c_law_draw hr (by decide) (by rfl) (pa_cons (pv 0) (pa_cons pe_int pa_nil))) pe_int) (C8.pe_c c_law_draw hr (by decide) (by rfl) (pa_cons (pv 0) (pa_cons pe_int pa_nil)))) pe_int) (C8.pe_c c_law_draw hr (by decide) (by rfl) (pa_cons (pv 0) (pa_cons pe_int pa_nil)))))))))), ?_⟩
    show (_ : TS) _ [some (.ref r), some (.int l), none] H
    walk_at "rd"
    refine use_draw hR (by omega) fun f H1 i0 i1 s1 r1 => ?_
    walk_at "rd"
    refine ifD (fun _ => ?_) (fun _ => ?_)
    · walk_at "rd"
      exact k l H1 ⟨by omega, by omega⟩ s1 r1
    · walk_at "rd"
      refine ifD (fun _ => ?_) (fun _ => ?_)
      · walk_at "rd"
        refine use_draw r1 (by omega) fun a H2 a0 a1 s2 r2 => ?_
        walk_at "rd"
        exact k _ H2 ⟨by omega, by omega⟩ (s1.trans s2) r2
      · walk_at "rd"
        refine ifD (fun _ => ?_) (fun _ => ?_)
        · walk_at "rd"
          refine use_draw r1 (by omega) fun a H2 a0 a1 s2 r2 => ?_
          exact k _ H2 ⟨by omega, by omega⟩ (s1.trans s2) r2
        · walk_at "rd"
          refine use_draw r1 (by omega) fun a H2 a0 a1 s2 r2 => ?_
          walk_at "rd"
          refine use_draw r2 (by omega) fun b H3 b0 b1 s3 r3 => ?_
          walk_at "rd"
          refine use_draw r3 (by omega) fun c H4 c0 c1 s4 r4 => ?_
          walk_at "rd"
          exact k _ H4 ⟨by omega, by omega⟩ (((s1.trans s2).trans s3)|>.trans s4) r4
theorem cal_law_row {f : Addr} {fd : FuncData} (T : Txt mg) (FD : C8.Def K mg "_law_row" s_law_row f fd) (b : Binds K fd ["reel", "level"] [])
    (c_law_sort : C8.Cal P w K mg base 5 "_law_sort" sp_law_sort [])
    (c_law_draw : C8.Cal P w K mg base 1 "_law_draw" sp_law_draw [])
    (c_law_count : C8.Cal P w K mg base 2 "_law_count" sp_law_count []) : C8.Cal P w K mg base 6 "_law_row" sp_law_row [] := by
  refine C8.cal0 FD b .nil sc_law_row (fun vs H Q E h => ?_) (fun cdv A outer s H vs Q E hr h => ?_)
  · obtain ⟨r, l, rfl, _⟩ := h; rfl
  · obtain ⟨r, l, rfl, hR, k⟩ := h
    refine ⟨_, (pss_cons (ps_set (i := 2) sc_law_row.nd rfl (.inl rfl) (C8.pe_c c_law_sort hr (by decide) (by rfl) (pa_cons (pv 0) pa_nil)))
  (pss_cons (ps_set (i := 3) sc_law_row.nd rfl (.inl rfl) (pv 2))
  (C8.pss_cut (ps_if (pt_cmpR (op_eqK K (hu64 hr)) (C8.pe_c c_law_draw hr (by decide) (by rfl) (pa_cons (pv 0) (pa_cons pe_int pa_nil))) pe_int (nomark _)) (pss_one (ps_set (i := 3) sc_law_row.nd rfl (.inl rfl) (C8.pe_c c_law_sort hr (by decide) (by rfl) (pa_cons (pv 0) pa_nil)))) pss_nil)
  (pss_cons (ps_setLc (i := 4) (own := [("least", 5)]) rfl sc_law_row.nd rfl rfl (sw_true rfl rfl rfl (by decide +kernel)) (pi_listK K (pe_lst (pa_cons (pe_un un_neg pe_int) (pa_cons pe_int (pa_cons pe_int (pa_cons pe_int (pa_cons (pe_un un_neg pe_int) (pa_cons pe_int pa_nil)))))))) (blkOk_by (own := [("least", 5)]) (N := ["reel", "level", "first", "second", "numbers", "least"]) (sc := C8.fnScope s_law_row) (by decide +kernel)) (fun _ _ _ _ _ => (pg_name (i := 5) sc_law_row.nd rfl (.inl rfl))) (fun _ _ _ _ _ => pts_nil) (fun _ _ _ _ _ => (C8.pe_c c_law_count hr (by decide) (by rfl) (pa_cons (pv 0) (pa_cons (pv 5) pa_nil)))))
  (C8.pss_cut (ps_if (pt_cmpR (op_eqK K (hu64 hr)) (C8.pe_c c_law_draw hr (by decide) (by rfl) (pa_cons (pv 0) (pa_cons pe_int pa_nil))) pe_int (nomark _)) (pss_one (ps_set (i := 4) sc_law_row.nd rfl (.inl rfl) (pe_op (op_addK K) (pe_slice (sl_K K) (pv 4) po_none (po_some pe_int)) (pe_lst (pa_cons (pe_un un_neg pe_int) (pa_cons pe_int pa_nil)))))) pss_nil)
  (pss_one (ps_ret (pe_op (op_addK K) (pe_tup (pa_cons (pv 1) (pa_cons (pv 2) (pa_cons (pv 3) pa_nil)))) (pe_callTy (call_tupleK K) (by rfl) T.n_tuple (by decide +kernel) (pa_cons (pv 4) pa_nil)))))))))), ?_⟩
    show (_ : TS) _ [some (.ref r), some (.int l), none, none, none, none] H
    walk_at "rd"
    refine use_sort hR fun y1 H1 hy1 s1 r1 => ?_
    walk_at "rd"
    refine rCut (fun σ' H' => ∃ y2, σ' = [some (.ref r), some (.int l), some (.str y1), some (.str y2), none, none] ∧ Nam y2 ∧ SL r H H' ∧ Reel H' r) ?_ ?_
    · walk_at "rd"
      refine use_draw r1 (by omega) fun f H2 i0 i1 s2 r2 => ?_
      walk_at "rd"
      refine ifD (fun _ => ?_) (fun _ => ?_)
      · walk_at "rd"
        refine use_sort r2 fun y2 H3 hy2 s3 r3 => ?_
        walk_at "rd"
        exact ⟨y2, rfl, hy2, (s1.trans s2).trans s3, r3⟩
      · walk_at "rd"
        exact ⟨y1, rfl, hy1, s1.trans s2, r2⟩
    · rintro σ' H2 ⟨y2, rfl, hy2, s2, r2⟩
      walk_at "rd"
      refine newO_gen fun q H3 f3 s3 h3 => ?_
      have r3 := r2.same s3
      have hqr : q ≠ r := (r2.ne f3).symm
      walk_at "rd"
      refine compL_draw h3 hqr r3 (fun acc _ => Nums [-1, 0, 0, 0, -1, 0] acc) (fun _ => .nil _) ?_ ?_
      · intro acc x H4 D c hx pa
        have hx' : ∃ m : Int, x = .int m ∧ ([-1, 0, 0, 0, -1, 0] : List Int)[acc.length]? = some m ∧ -1 ≤ m ∧ m ≤ 0 := by
          have hl := (List.getElem?_eq_some_iff.mp hx).1
          generalize acc.length = j at hx hl
          have hl' : j < 6 := hl
          have : j = 0 ∨ j = 1 ∨ j = 2 ∨ j = 3 ∨ j = 4 ∨ j = 5 := by omega
          rcases this with rfl | rfl | rfl | rfl | rfl | rfl <;> (cases hx; exact ⟨_, rfl, rfl, by decide, by decide⟩)
        obtain ⟨m, rfl, hm, m0, m1⟩ := hx'
        walk_at "rd"
        refine use_count c.reel ⟨m0, m1⟩ fun n H5 hn s5 r5 => ?_
        exact cDH_of c (by decide) s5 r5 fun _ _ => pa.snoc hm hn
      · intro acc H4 D hal pa s4 r4 h4 f4
        obtain ⟨a, b, c, d, e, f, rfl, ha, hb, hc, hd, he, hf⟩ := pa.six hal
        walk_at "rd"
        have hDr : D ≠ r := (r3.ne f4).symm
        refine rCut (fun σ' H' => ∃ (e' f' : Int) (u : Addr) (o : Option V), σ' = [some (.ref r), some (.int l), some (.str y1), some (.str y2), some (.ref u), none] ∧ lim (-1) e' ∧ lim 0 f' ∧ SL r H H' ∧ Reel H' r ∧ H' u = some (.lst [.int a, .int b, .int c, .int d, .int e', .int f']) ∧ u ≠ r) ?_ ?_
        · walk_at "rd"
          refine use_draw r4 (by omega) fun z H5 z0 z1 s5 r5 => ?_
          have h5 : H5 D = some (.lst [.int a, .int b, .int c, .int d, .int e, .int f]) := s5.at hDr h4
          have ss5 : SL r H H5 := ((s2.more s3).trans s4).trans s5
          walk_at "rd"
          refine ifD (fun _ => ?_) (fun _ => ?_)
          · walk_at "rd"
            refine newO_gen fun t1 H6 f6 s6 h6 => ?_
            replace h6 : H6 t1 = some (.lst [.int a, .int b, .int c, .int d]) := h6
            walk_at "rd"
            refine newO_gen fun t2 H7 f7 s7 h7 => ?_
            walk_at "rd"
            refine newO_gen fun t3 H8 f8 s8 h8 => ?_
            have r7 := (r5.same s6).same s7
            walk_at "rd"
            exact ⟨-1, 0, t3, none, rfl, ⟨by decide, by decide⟩, ⟨by decide, by decide⟩, ((ss5.more s6).more s7).more s8, r7.same s8, h8, (r7.ne f8).symm⟩
          · walk_at "rd"
            exact ⟨e, f, D, none, rfl, he, hf, ss5, r5, h5, hDr⟩
        · rintro σ' H6 ⟨e', f', u, o, rfl, he', hf', s6, r6, h6, hu⟩
          walk_at "rd"
          refine newO_gen fun t1 H7 f7 s7 h7 => ?_
          walk_at "rd"
          refine newO_gen fun t2 H8 f8 s8 h8 => ?_
          refine add_tup (s8 _ _ h7) h8 (by simp) (by simp) (by walk_at "sz") ?_
          refine newO_gen fun t3 H9 f9 s9 h9 => ?_
          exact k _ ⟨y1, y2, a, b, c, d, e', f'⟩ H9 ⟨hy1, hy2, ha, hb, hc, hd, he', hf'⟩ (((s6.more s7).more s8).more s9) (((r6.same s7).same s8).same s9) ⟨t3, rfl, h9⟩
theorem cal_law_small_row {f : Addr} {fd : FuncData} (T : Txt mg) (FD : C8.Def K mg "_law_small_row" s_law_small_row f fd) (b : Binds K fd ["reel", "level"] [])
    (c_law_pick : C8.Cal P w K mg base 2 "_law_pick" sp_law_pick [])
    (c_law_draw : C8.Cal P w K mg base 1 "_law_draw" sp_law_draw []) : C8.Cal P w K mg base 3 "_law_small_row" sp_law_small_row [] := by
  refine C8.cal0 FD b .nil sc_law_small_row (fun vs H Q E h => ?_) (fun cdv A outer s H vs Q E hr h => ?_)
  · obtain ⟨r, l, rfl, _⟩ := h; rfl
  · obtain ⟨r, l, rfl, hR, k⟩ := h
    refine ⟨_, (pss_cons (ps_set (i := 2) sc_law_small_row.nd rfl (.inl rfl) (C8.pe_c c_law_pick hr (by decide) (by rfl) (pa_cons (pv 0) (pa_cons pe_str pa_nil))))
  (pss_cons (ps_set (i := 3) sc_law_small_row.nd rfl (.inl rfl) (C8.pe_c c_law_pick hr (by decide) (by rfl) (pa_cons (pv 0) (pa_cons pe_str pa_nil))))
  (pss_cons (ps_setLc (i := 4) (own := [("least", 5)]) rfl sc_law_small_row.nd rfl rfl (sw_true rfl rfl rfl (by decide +kernel)) (pi_listK K (pe_lst (pa_cons (pe_un un_neg pe_int) (pa_cons pe_int (pa_cons pe_int (pa_cons pe_int (pa_cons (pe_un un_neg pe_int) (pa_cons pe_int pa_nil)))))))) (blkOk_by (own := [("least", 5)]) (N := ["reel", "level", "first", "second", "numbers", "least"]) (sc := C8.fnScope s_law_small_row) (by decide +kernel)) (fun _ _ _ _ _ => (pg_name (i := 5) sc_law_small_row.nd rfl (.inl rfl))) (fun _ _ _ _ _ => pts_nil) (fun _ _ _ _ _ => (pe_op (op_addK K) (pv 5) (C8.pe_c c_law_draw hr (by decide) (by rfl) (pa_cons (pv 0) (pa_cons pe_int pa_nil))))))
  (pss_one (ps_ret (pe_op (op_addK K) (pe_tup (pa_cons (pv 1) (pa_cons (pv 2) (pa_cons (pv 3) pa_nil)))) (pe_callTy (call_tupleK K) (by rfl) T.n_tuple (by decide +kernel) (pa_cons (pv 4) pa_nil)))))))), ?_⟩
    show (_ : TS) _ [some (.ref r), some (.int l), none, none, none, none] H
    walk_at "rd"
    refine use_pickC hR (by decide +kernel) (by decide +kernel) fun c1 H1 hc1 s1 r1 => ?_
    walk_at "rd"
    refine use_pickC r1 (by decide +kernel) (by decide +kernel) fun c2 H2 hc2 s2 r2 => ?_
    walk_at "rd"
    refine newO_gen fun q H3 f3 s3 h3 => ?_
    have r3 := r2.same s3
    have hqr : q ≠ r := (r2.ne f3).symm
    have nm : ∀ c : Nat, c ∈ TL.tl ("abcxyz" : Str) → Nam ⟨#[c]⟩ := fun c hc => ⟨⟨.inl (wst_0l (all_sign (p := isLet) (by decide +kernel) hc)), by show 1 ≤ 100; omega⟩, ok_sign (ok_of (by decide +kernel)) hc⟩
    walk_at "rd"
    refine compL_draw h3 hqr r3 (fun acc _ => Nums [-1, 0, 0, 0, -1, 0] acc) (fun _ => .nil _) ?_ ?_
    · intro acc x H4 D c hx pa
      have hx' : ∃ m : Int, x = .int m ∧ ([-1, 0, 0, 0, -1, 0] : List Int)[acc.length]? = some m ∧ -1 ≤ m ∧ m ≤ 0 := by
        have hl := (List.getElem?_eq_some_iff.mp hx).1
        generalize acc.length = j at hx hl
        have hl' : j < 6 := hl
        have : j = 0 ∨ j = 1 ∨ j = 2 ∨ j = 3 ∨ j = 4 ∨ j = 5 := by omega
        rcases this with rfl | rfl | rfl | rfl | rfl | rfl <;> (cases hx; exact ⟨_, rfl, rfl, by decide, by decide⟩)
      obtain ⟨m, rfl, hm, m0, m1⟩ := hx'
      walk_at "rd"
      refine use_draw c.reel (by omega) fun n H5 n0 n1 s5 r5 => ?_
      walk_at "rd"
      exact cDH_of c (by decide) s5 r5 fun _ _ => pa.snoc hm ⟨by omega, by omega⟩
    · intro acc H4 D hal pa s4 r4 h4 f4
      obtain ⟨a, b, c, d, e, f, rfl, ha, hb, hc, hd, he, hf⟩ := pa.six hal
      walk_at "rd"
      refine newO_gen fun t1 H7 f7 s7 h7 => ?_
      walk_at "rd"
      refine newO_gen fun t2 H8 f8 s8 h8 => ?_
      refine add_tup (s8 _ _ h7) h8 (by simp) (by simp) (by walk_at "sz") ?_
      refine newO_gen fun t3 H9 f9 s9 h9 => ?_
      exact k _ ⟨⟨#[c1]⟩, ⟨#[c2]⟩, a, b, c, d, e, f⟩ H9 ⟨nm c1 hc1, nm c2 hc2, ha, hb, hc, hd, he, hf⟩ (((((s1.trans s2).more s3).trans s4).more s7).more s8 |>.more s9) (((r4.same s7).same s8).same s9) ⟨t3, rfl, h9⟩
theorem cal_law_tree {f : Addr} {fd : FuncData} (T : Txt mg) (FD : C8.Def K mg "_law_tree" s_law_tree f fd) (b : Binds K fd ["reel"] [])
    (c_law_draw : C8.Cal P w K mg base 1 "_law_draw" sp_law_draw [])
    (c_law_levels : C8.Cal P w K mg base 3 "_law_levels" sp_law_levels [])
    (c_law_comb : C8.Cal P w K mg base 2 "_law_comb" sp_law_comb [])
    (c_law_row : C8.Cal P w K mg base 6 "_law_row" sp_law_row [])
    (c_law_small_row : C8.Cal P w K mg base 3 "_law_small_row" sp_law_small_row [])
    (c_law_pick : C8.Cal P w K mg base 2 "_law_pick" sp_law_pick []) : C8.Cal P w K mg base 7 "_law_tree" sp_law_tree [] := by
  refine C8.cal0 FD b .nil sc_law_tree (fun vs H Q E h => ?_) (fun cdv A outer s H vs Q E hr h => ?_)
  · obtain ⟨r, rfl, _⟩ := h; rfl
  · obtain ⟨r, rfl, hR, k⟩ := h
    refine ⟨_, (pss_cons (ps_set (i := 1) sc_law_tree.nd rfl (.inl rfl) (C8.pe_c c_law_draw hr (by decide) (by rfl) (pa_cons (pv 0) (pa_cons pe_int pa_nil))))
  (pss_cons (ps_if (pt_cmpR (op_eqK K (hu64 hr)) (pv 1) pe_int (nomark _)) (pss_cons (ps_set (i := 2) sc_law_tree.nd rfl (.inl rfl) (C8.pe_c c_law_comb hr (by decide) (by rfl) (pa_cons (pv 0) (pa_cons (pe_op (op_addK K) pe_int (C8.pe_c c_law_draw hr (by decide) (by rfl) (pa_cons (pv 0) (pa_cons pe_int pa_nil)))) pa_nil))))
  (pss_one (ps_ret (pe_lc (own := [("level", 3)]) rfl sc_law_tree.nd (pi_listK K (pv 2)) (blkOk_by (own := [("level", 3)]) (N := ["reel", "form", "levels", "level"]) (sc := C8.fnScope s_law_tree) (by decide +kernel)) (fun _ _ _ _ _ => (pg_name (i := 3) sc_law_tree.nd rfl (.inl rfl))) (fun _ _ _ _ _ => pts_nil) (fun _ _ _ _ _ => (C8.pe_c c_law_small_row hr (by decide) (by rfl) (pa_cons (pv 0) (pa_cons (pv 3) pa_nil)))))))) pss_nil)
  (pss_cons (ps_set (i := 2) sc_law_tree.nd rfl (.inl rfl) (C8.pe_c c_law_levels hr (by decide) (by rfl) (pa_cons (pv 0) pa_nil)))
  (C8.pss_cut (ps_if (pt_cmpR (op_eqK K (hu64 hr)) (pv 1) pe_int (nomark _)) (pss_one (ps_set (i := 2) sc_law_tree.nd rfl (.inl rfl) (C8.pe_c c_law_comb hr (by decide) (by rfl) (pa_cons (pv 0) (pa_cons (pe_op (op_addK K) pe_int (C8.pe_c c_law_draw hr (by decide) (by rfl) (pa_cons (pv 0) (pa_cons pe_int pa_nil)))) pa_nil))))) pss_nil)
  (C8.pss_cut (ps_if (PW.pt (pw_or (pt_cmpR (op_eqK K (hu64 hr)) (pv 1) pe_int (nomark _)) (pw_or1 (pt_cmpR (op_eqK K (hu64 hr)) (pv 1) pe_int (nomark _))))) (pss_one (ps_set (i := 2) sc_law_tree.nd rfl (.inl rfl) (pe_op (op_addK K) (pe_lst (pa_cons pe_int pa_nil)) (pe_op op_mulU (pe_lst (pa_cons pe_int pa_nil)) (C8.pe_c c_law_pick hr (by decide) (by rfl) (pa_cons (pv 0) (pa_cons (pe_lst (pa_cons pe_int (pa_cons pe_int (pa_cons pe_int (pa_cons pe_int (pa_cons pe_int (pa_cons pe_int (pa_cons pe_int (pa_cons pe_int pa_nil))))))))) pa_nil))))))) pss_nil)
  (pss_one (ps_ret (pe_lc (own := [("level", 3)]) rfl sc_law_tree.nd (pi_listK K (pv 2)) (blkOk_by (own := [("level", 3)]) (N := ["reel", "form", "levels", "level"]) (sc := C8.fnScope s_law_tree) (by decide +kernel)) (fun _ _ _ _ _ => (pg_name (i := 3) sc_law_tree.nd rfl (.inl rfl))) (fun _ _ _ _ _ => pts_nil) (fun _ _ _ _ _ => (C8.pe_c c_law_row hr (by decide) (by rfl) (pa_cons (pv 0) (pa_cons (pv 3) pa_nil)))))))))))), ?_⟩
    show (_ : TS) _ [some (.ref r), none, none, none] H
    walk_at "rd"
    refine use_draw hR (by omega) fun fm H1 i0 i1 s1 r1 => ?_
    walk_at "rd"
    refine ifD (fun _ => ?_) (fun _ => ?_)
    · walk_at "rd"
      refine use_draw r1 (by omega) fun n H2 n0 n1 s2 r2 => ?_
      walk_at "rd"
      refine use_comb r2 (by omega) fun p ls H3 s3 r3 f3 h3 hlv hll => ?_
      have hpr : p ≠ r := (r2.ne f3).symm
      walk_at "rd"
      refine compL_draw h3 hpr r3 (fun acc H' => RowsFor ls acc H') (fun _ => .nil) ?_ ?_
      · intro acc x H4 D c hx pa
        rw [List.getElem?_map] at hx
        obtain ⟨l, hl, rfl⟩ := Option.map_eq_some_iff.mp hx
        walk_at "rd"
        refine use_row2 c.reel fun v d H5 hd s5 r5 hv => ?_
        exact cDH_of c (by rw [List.length_map]; omega) s5 r5 fun H6 s6 => pa.snoc ((TpS.sl s5).trans (TpS.sl s6)) hl hd (hv.ts (TpS.sl s6))
      · intro acc H4 D hal pa s4 r4 h4 f4
        rw [List.length_map] at hal
        obtain ⟨rows, g1, g2⟩ := pa.all hal hlv
        have ss : SL r H H3 := (s1.trans s2).trans s3
        exact k D rows H4 (ss.trans s4) r4 (SL.fre ss f4) ⟨acc, h4, g1⟩ (g2.le (by omega))
    · walk_at "rd"
      refine use_levels r1 fun p ls H2 s2 r2 f2 h2 hlv hll => ?_
      have hpr : p ≠ r := (r1.ne f2).symm
      walk_at "rd"
      refine rCut (fun σ' H' => ∃ (q : Addr) (ls : List Int), σ' = [some (.ref r), some (.int fm), some (.ref q), none] ∧ SL r H H' ∧ Reel H' r ∧ q ≠ r ∧ H' q = some (.lst (ls.map V.int)) ∧ LvOk ls ∧ ls.length ≤ 5000) ?_ ?_
      · walk_at "rd"
        refine ifD (fun _ => ?_) (fun _ => ?_)
        · walk_at "rd"
          refine use_draw r2 (by omega) fun n H3 n0 n1 s3 r3 => ?_
          walk_at "rd"
          refine use_comb r3 (by omega) fun p2 ls2 H4 s4 r4 f4 h4 hlv2 hll2 => ?_
          walk_at "rd"
          exact ⟨p2, ls2, rfl, ((s1.trans s2).trans s3).trans s4, r4, (r3.ne f4).symm, h4, hlv2, by omega⟩
        · walk_at "rd"
          exact ⟨p, ls, rfl, s1.trans s2, r2, hpr, h2, hlv, by omega⟩
      · rintro σ' H3 ⟨q, ls, rfl, s3, r3, hqr, h3, hlv, hll⟩
        walk_at "rd"
        refine rCut (fun σ' H' => ∃ (q : Addr) (ls : List Int), σ' = [some (.ref r), some (.int fm), some (.ref q), none] ∧ SL r H H' ∧ Reel H' r ∧ q ≠ r ∧ H' q = some (.lst (ls.map V.int)) ∧ LvOk ls ∧ ls.length ≤ 5000) ?_ ?_
        · have ones : ∀ (Q : VK) H3, SL r H H3 → Reel H3 r → (∀ q H', SL r H H' → Reel H' r → Frs H q → q ≠ r → (∃ ls : List Int, H' q = some (.lst (ls.map V.int)) ∧ LvOk ls ∧ ls.length ≤ 5000) → Q (.ref q) H') →
              tOp (rAddU K) (tLst (tCons (tC (.int 0)) tNil)) (tOp rMulU (tLst (tCons (tC (.int 1)) tNil)) (tCall sp_law_pick [] C8.E0 (tCons (tVar 0) (tCons (tLst (tCons (tC (.int 1)) (tCons (tC (.int 5)) (tCons (tC (.int 30)) (tCons (tC (.int 61)) (tCons (tC (.int 63)) (tCons (tC (.int 64)) (tCons (tC (.int 65)) (tCons (tC (.int 70)) tNil))))))))) tNil)))) [some (.ref r), some (.int fm), some (.ref q), none] H3 Q := by
            intro Q H3 s3 r3 kk
            walk_at "rd"
            refine newO_gen fun p1 H4 f4 s4 h4 => ?_
            walk_at "rd"
            refine newO_gen fun p2 H5 f5 s5 h5 => ?_
            walk_at "rd"
            refine newO_gen fun p3 H6 f6 s6 h6 => ?_
            have r6 := ((r3.same s4).same s5).same s6
            have hp3 : p3 ≠ r := (((r3.same s4).same s5).ne f6).symm
            walk_at "rd"
            refine use_pickI (lo := 1) (hi := 70) r6 h6 hp3 (by decide) (by repeat (first | exact .nil | refine .cons (by omega) ?_)) fun z H7 z0 z1 s7 r7 => ?_
            have hp2 : p2 ≠ r := ((r3.same s4).ne f5).symm
            have hp1 : p1 ≠ r := (r3.ne f4).symm
            refine mul_rep (s7.at hp2 (s6 _ _ h5)) (by omega) (sz_le (by simp; omega)) ?_
            refine newO_gen fun p4 H8 f8 s8 h8 => ?_
            have e1 : (List.replicate z.toNat [V.int 1]).flatten = (List.replicate z.toNat (1 : Int)).map V.int := by
              rw [List.map_replicate]
              induction z.toNat with
              | zero => rfl
              | succ n ih => rw [List.replicate_succ, List.flatten_cons, ih, List.replicate_succ]; rfl
            rw [e1] at h8
            have h8' : H8 p1 = some (.lst [.int 0]) := s8 _ _ (s7.at hp1 (s6 _ _ (s5 _ _ h4)))
            refine add_lst h8' h8 (sz_le (by simp; omega)) ?_
            refine newO_gen fun p5 H9 f9 s9 h9 => ?_
            have s8' : SL r H H8 := ((((s3.more s4).more s5).more s6).trans s7).more s8
            exact kk p5 H9 (s8'.more s9) ((r7.same s8).same s9) (SL.fre s8' f9) ((r7.same s8).ne f9).symm ⟨0 :: List.replicate z.toNat 1, h9, ⟨_, rfl, stI_ones _ _ (by omega)⟩, by rw [List.length_cons, List.length_replicate]; omega⟩
          walk_at "rd"
          refine ifD (fun _ => ?_) (fun _ => ?_)
          · refine ifT (rAsgN (ones _ H3 s3 r3 fun q' H' s' r' f' hq ⟨ls', h', hlv', hll'⟩ => ?_))
            exact ⟨q', ls', rfl, s', r', hq, h', hlv', hll'⟩
          · walk_at "rd"
            refine ifD (fun _ => ?_) (fun _ => ?_)
            · refine rAsgN (ones _ H3 s3 r3 fun q' H' s' r' f' hq ⟨ls', h', hlv', hll'⟩ => ?_)
              exact ⟨q', ls', rfl, s', r', hq, h', hlv', hll'⟩
            · walk_at "rd"
              exact ⟨q, ls, rfl, s3, r3, hqr, h3, hlv, hll⟩
        · rintro σ' H3 ⟨q, ls, rfl, s3, r3, hqr, h3, hlv, hll⟩
          walk_at "rd"
          refine compL_draw h3 hqr r3 (fun acc H' => RowsFor ls acc H') (fun _ => .nil) ?_ ?_
          · intro acc x H4 D c hx pa
            rw [List.getElem?_map] at hx
            obtain ⟨l, hl, rfl⟩ := Option.map_eq_some_iff.mp hx
            walk_at "rd"
            refine use_row1 c.reel fun v d H5 hd s5 r5 hv => ?_
            exact cDH_of c (by rw [List.length_map]; omega) s5 r5 fun H6 s6 => pa.snoc ((TpS.sl s5).trans (TpS.sl s6)) hl hd (hv.ts (TpS.sl s6))
          · intro acc H4 D hal pa s4 r4 h4 f4
            rw [List.length_map] at hal
            obtain ⟨rows, g1, g2⟩ := pa.all hal hlv
            exact k D rows H4 (s3.trans s4) r4 (SL.fre s3 f4) ⟨acc, h4, g1⟩ (g2.le (by omega))
end
end Z
namespace Z
open PySem PySem.Spec L2 ItX
local macro_rules | `(tactic| walk_at "ne") => `(tactic| first
  | with_reducible assumption
  | with_reducible exact Ne.symm (by assumption)
  | exact Frs.ne (by with_reducible assumption) (by walk_at "hp")
  | exact Frs.ne' (by with_reducible assumption) (by walk_at "hp"))
local macro_rules | `(tactic| walk_at "hp") => `(tactic| first
  | with_reducible assumption
  | (with_reducible refine Same.at (by assumption) ?_; walk_at "hp")
  | (with_reducible refine SL.tup (by assumption) ?_; walk_at "hp")
  | (with_reducible refine SL.at (by assumption) (by walk_at "ne") ?_; walk_at "hp"))
local macro_rules | `(tactic| walk_at "sz") => `(tactic| first
  | with_reducible assumption
  | exact Nat.le_of_ble_eq_true rfl
  | (refine sz_le ?_; omega)
  | (refine sz_lt ?_; omega)
  | decide +kernel)
local macro_rules | `(tactic| walk_at "at") => `(tactic| first
  | with_reducible assumption
  | with_reducible exact at0
  | with_reducible exact at1
  | with_reducible exact at2
  | with_reducible exact ixN0)
local macro_rules | `(tactic| walk_at "nn") => `(tactic| first
  | omega
  | decide
  | exact ⟨by decide, by decide⟩
  | exact ⟨by omega, by omega⟩
  | exact ⟨by omega, by omega, by omega, by omega⟩)
local macro_rules | `(tactic| walk_at "rdv") => `(tactic| first
  | (with_reducible refine add_int ?_)
  | (with_reducible refine sub_int ?_)
  | (with_reducible refine neg_int ?_)
  | ((with_reducible refine ix_tpl (xs := ?xs) (v := ?v) ?h1 ?h2 ?_); (case h1 => walk_at "hp"); (case h2 => walk_at "at"))
  | ((with_reducible refine ix_lst (xs := ?xs) (v := ?v) ?h1 ?h2 ?_); (case h1 => walk_at "hp"); (case h2 => walk_at "at"))
  | (with_reducible refine eq_int ?_)
  | (with_reducible refine ne_int ?_)
  | (with_reducible refine lt_int ?_)
  | (with_reducible refine le_int ?_)
  | (with_reducible refine gt_int ?_)
  | (with_reducible refine ge_int ?_)
  | (with_reducible refine eq_str ?_)
  | (with_reducible refine ne_str ?_)
  | (with_reducible refine eq_bl ?_)
  | (with_reducible refine ne_bl ?_)
  | ((with_reducible refine mod_int ?hc ?_); (case hc => walk_at "nn"))
  | ((with_reducible refine div_int ?hc ?_); (case hc => walk_at "nn"))
  | ((with_reducible refine mul_intR ?hc ?_); (case hc => exact ⟨by decide, by decide⟩))
  | ((with_reducible refine mul_intR ?hc ?_); (case hc => exact ⟨by omega, by omega⟩))
  | ((with_reducible refine mul_intL ?hc ?_); (case hc => exact ⟨by omega, by omega⟩))
  | ((with_reducible refine pow_int ?hc ?_); (case hc => exact ⟨by decide, by decide, by decide⟩))
  | ((with_reducible refine add_str ?hc ?_); (case hc => walk_at "sz"))
  | ((with_reducible refine add_lst (xs := ?xs) (ys := ?ys) ?h1 ?h2 ?hc ?_); (case h1 => walk_at "hp"); (case h2 => walk_at "hp"); (case hc => walk_at "sz"))
  | ((with_reducible refine sl_strU ?hc ?_); (case hc => walk_at "sz"))
  | ((with_reducible refine sl_lst (xs := ?xs) ?h1 ?_); (case h1 => walk_at "hp"))
  | (with_reducible refine is_bl ?_)
  | (with_reducible refine isnt_bl ?_)
  | (with_reducible refine is_non ?_)
  | (with_reducible refine isnt_non ?_))
local macro_rules | `(tactic| walk_at "rdc") => `(tactic| first
  | ((with_reducible refine len_lst (xs := ?xs) ?h1 ?_); (case h1 => walk_at "hp"))
  | ((with_reducible refine len_tup (xs := ?xs) ?h1 ?_); (case h1 => walk_at "hp"))
  | ((with_reducible refine len_str ?hc ?_); (case hc => walk_at "sz"))
  | (with_reducible refine int_int ?_)
  | (with_reducible refine max_int ?_)
  | (with_reducible refine min_int ?_)
  | (with_reducible refine abs_int ?_)
  | (with_reducible refine isi_ii ?_)
  | (with_reducible refine isi_ib ?_)
  | (with_reducible refine isi_ss ?_)
  | (with_reducible refine isi_bb ?_)
  | ((with_reducible refine isi_tt (xs := ?xs) ?h1 ?_); (case h1 => walk_at "hp"))
  | ((with_reducible refine isi_ll (xs := ?xs) ?h1 ?_); (case h1 => walk_at "hp"))
  | ((with_reducible refine list_lst (xs := ?xs) ?h1 ?_); (case h1 => walk_at "hp"))
  | ((with_reducible refine list_tup (xs := ?xs) ?h1 ?_); (case h1 => walk_at "hp"))
  | ((with_reducible refine tuple_lst (xs := ?xs) ?h1 ?_); (case h1 => walk_at "hp"))
  | ((with_reducible refine tuple_tup (xs := ?xs) ?h1 ?_); (case h1 => walk_at "hp"))
  | ((with_reducible refine append_lst (xs := ?xs) ?h1 ?hc ?_); (case h1 => walk_at "hp"); (case hc => walk_at "sz"))
  | ((with_reducible refine clear_lst (xs := ?xs) ?h1 ?_); (case h1 => walk_at "hp"))
  | ((with_reducible refine set_lst (xs := ?xs) (k := ?k) ?h1 ?h2 ?_); (case h1 => walk_at "hp"); (case h2 => walk_at "at")))
local macro_rules | `(tactic| walk_at "rd1") => `(tactic| first
  | ((with_reducible refine rVar (v := ?v) ?h ?_); (case h => exact rfl))
  | (with_reducible refine rC ?_)
  | (with_reducible refine rCons ?_)
  | (with_reducible refine rNil ?_)
  | (with_reducible refine rOp ?_)
  | (with_reducible refine rSeq ?_)
  | (with_reducible refine rAsgN ?_)
  | (with_reducible refine rAsgT ?_)
  | (with_reducible refine rAsgS ?_)
  | (with_reducible refine rTest ?_)
  | (with_reducible refine rBl ?_)
  | (with_reducible refine rBl' ?_)
  | (with_reducible refine rInt ?_)
  | (with_reducible refine rInt' ?_)
  | (with_reducible refine rCall ?_)
  | (with_reducible refine rCB ?_)
  | (with_reducible refine rRet ?_)
  | (with_reducible refine rDrop ?_)
  | (with_reducible refine rIfS ?_)
  | (with_reducible refine rTup ?_)
  | (with_reducible refine rLst ?_)
  | (with_reducible refine ⟨Nat.le_of_ble_eq_true rfl, ?_⟩)
  | (with_reducible refine rSl ?_)
  | (with_reducible refine rPart ?_)
  | (with_reducible refine rNoPart ?_)
  | (with_reducible refine rBM ?_)
  | (with_reducible refine rBM0 ?_)
  | ((with_reducible refine tyL (xs := ?xs) ?h1 ?_); (case h1 => walk_at "hp"))
  | (with_reducible refine rM1 ?_)
  | (with_reducible refine rM0 ?_)
  | (with_reducible refine rStr ?_)
  | (with_reducible refine rTru ?_)
  | (with_reducible refine tru_bl ?_)
  | (with_reducible refine tru_int ?_)
  | ((with_reducible refine tru_lst (xs := ?xs) ?h1 ?_); (case h1 => walk_at "hp"))
  | ((with_reducible refine tru_tup (xs := ?xs) ?h1 ?_); (case h1 => walk_at "hp"))
  | ((with_reducible refine tru_str ?hc ?_); (case hc => walk_at "sz"))
  | (with_reducible refine rAnd ?_)
  | (with_reducible refine rOr ?_)
  | (with_reducible refine rNot ?_)
  | (with_reducible refine rAndV ?_)
  | (with_reducible refine rOrV ?_)
  | (with_reducible refine rNotV ?_)
  | (with_reducible refine rIfE ?_)
  | (with_reducible refine rChain ?_)
  | (with_reducible refine rChain3 ?_)
  | (with_reducible refine ifT ?_)
  | (with_reducible refine ifF ?_)
  | (with_reducible refine ifNF ?_)
  | (with_reducible refine ifNT ?_)
  | (with_reducible refine rNext ?_)
  | (with_reducible refine rBrk ?_)
  | (with_reducible refine rCnt ?_)
  | (with_reducible refine rRetN ?_)
  | (with_reducible refine rForR1 ?_)
  | (with_reducible refine rForR2 ?_)
  | (with_reducible refine rForL ?_)
  | ((with_reducible refine rRg1 ?hb ?_); (case hb => walk_at "nn"))
  | ((with_reducible refine rRg2 ?hb ?_); (case hb => walk_at "nn"))
  | ((with_reducible refine rRf (xs := ?xs) ?h1 ?_); (case h1 => walk_at "hp"))
  | (with_reducible refine rLcR1 ?_)
  | (with_reducible refine rLcR2 ?_)
  | (with_reducible refine rLcL ?_)
  | (with_reducible refine gN ?_)
  | (with_reducible refine gNl ?_)
  | (with_reducible refine gC ?_)
  | ((with_reducible refine gT (xs := ?xs) ?h1 ?h2 ?_); (case h1 => walk_at "hp"); (case h2 => exact rfl))
  | (with_reducible refine rUn ?_)
  | walk_at "rdv"
  | walk_at "rdc")
local macro_rules | `(tactic| walk_at "rd") => `(tactic| repeat walk_at "rd1")

local macro_rules | `(tactic| walk_at "rd1") => `(tactic| first
  | (with_reducible refine rCallS ?_)
  | (with_reducible refine rRaise ?_)
  | (with_reducible refine rXf ?_)
  | (with_reducible refine rXi ?_)
  | (with_reducible refine rOst ?_)
  | (with_reducible refine rRevL ?_)
  | ((with_reducible refine revL_end (xs := ?xs) ?h1 ?_); (case h1 => walk_at "hp")))

local macro_rules | `(tactic| walk_at "rd1") => `(tactic| first
  | (with_reducible refine rForR3 ?_)
  | ((with_reducible refine rRgD ?hb ?_); (case hb => walk_at "nn"))
  | (with_reducible refine gS ?_))

local macro_rules | `(tactic| walk_at "rd1") => `(tactic| first
  | (with_reducible refine rFld ?_)
  | (with_reducible refine rSFld ?_)
  | (with_reducible refine rMake ?_)
  | (with_reducible refine rMeth ?_)
  | (with_reducible refine rForT ?_)
  | (with_reducible refine rLcT ?_)
  | (with_reducible refine rLcO ?_)
  | (with_reducible refine rForO ?_)
  | (with_reducible refine rLstY ?_)
  | ((with_reducible refine rRt (xs := ?xs) ?h1 ?_); (case h1 => walk_at "hp"))
  | ((with_reducible refine listY_lst (xs := ?xs) ?h1 ?_); (case h1 => walk_at "hp"))
  | ((with_reducible refine listY_tup (xs := ?xs) ?h1 ?_); (case h1 => walk_at "hp")))

local macro_rules | `(tactic| walk_at "hp") => `(tactic| first
  | (with_reducible refine SL.ins (by assumption) ?_; walk_at "hp"))
local macro_rules | `(tactic| walk_at "at") => `(tactic| first
  | with_reducible exact at3
  | with_reducible exact at4
  | with_reducible exact at5
  | with_reducible exact at6
  | with_reducible exact at7
  | with_reducible exact at8)
local macro_rules | `(tactic| walk_at "rd1") => `(tactic| first
  | (with_reducible refine rMkWK ?_)
  | (with_reducible refine rForS ?_)
  | (with_reducible refine rDGet ?_)
  | (with_reducible refine rDPut ?_)
  | (with_reducible refine rIts ?_)
  | (with_reducible refine rLstRg ?_)
  | ((with_reducible refine reverse_lst (xs := ?xs) ?h1 ?_); (case h1 => walk_at "hp"))
  | ((with_reducible refine extend_lst (xs := ?xs) (ys := ?ys) ?h1 ?h2 ?hc ?_); (case h1 => walk_at "hp"); (case h2 => walk_at "hp"); (case hc => walk_at "sz"))
  | ((with_reducible refine fN_kind (mg := ?mg) (C := ?C) (dx := ?dx) (d := ?d) (ns := ?ns) ?hu ?hp ?_); (case hu => with_reducible assumption); (case hp => walk_at "hp"))
  | ((with_reducible refine fN_symbol (mg := ?mg) (C := ?C) (dx := ?dx) (d := ?d) (ns := ?ns) ?hu ?hp ?_); (case hu => with_reducible assumption); (case hp => walk_at "hp"))
  | ((with_reducible refine fN_state (mg := ?mg) (C := ?C) (dx := ?dx) (d := ?d) (ns := ?ns) ?hu ?hp ?_); (case hu => with_reducible assumption); (case hp => walk_at "hp"))
  | ((with_reducible refine fN_lead (mg := ?mg) (C := ?C) (dx := ?dx) (d := ?d) (ns := ?ns) ?hu ?hp ?_); (case hu => with_reducible assumption); (case hp => walk_at "hp"))
  | ((with_reducible refine fN_width (mg := ?mg) (C := ?C) (dx := ?dx) (d := ?d) (ns := ?ns) ?hu ?hp ?_); (case hu => with_reducible assumption); (case hp => walk_at "hp"))
  | ((with_reducible refine fN_look (mg := ?mg) (C := ?C) (dx := ?dx) (d := ?d) (ns := ?ns) ?hu ?hp ?_); (case hu => with_reducible assumption); (case hp => walk_at "hp"))
  | ((with_reducible refine fN_alternative (mg := ?mg) (C := ?C) (dx := ?dx) (d := ?d) (ns := ?ns) ?hu ?hp ?_); (case hu => with_reducible assumption); (case hp => walk_at "hp"))
  | ((with_reducible refine fN_nodes (mg := ?mg) (C := ?C) (dx := ?dx) (d := ?d) (ns := ?ns) ?hu ?hp ?_); (case hu => with_reducible assumption); (case hp => walk_at "hp"))
  | ((with_reducible refine fN_popped (mg := ?mg) (C := ?C) (dx := ?dx) (d := ?d) (ns := ?ns) ?hu ?hp ?_); (case hu => with_reducible assumption); (case hp => walk_at "hp")))

def sp_law_place : Sp := fun vs H Q _ => ∃ (r : Addr) (n : Int), vs = [.ref r, .int n] ∧ Reel H r ∧ 0 < n ∧ ∀ (i : Int) (H' : Hp), 0 ≤ i → i < n → SL r H H' → Reel H' r → Q (.int i) H'
theorem use_place {r : Addr} {n : Int} {H : Hp} {Q : VK} {E : XK} (hR : Reel H r) (hn : 0 < n) (h : ∀ (i : Int) (H' : Hp), 0 ≤ i → i < n → SL r H H' → Reel H' r → Q (.int i) H') : sp_law_place [.ref r, .int n] H Q E := ⟨r, n, rfl, hR, hn, h⟩
def sp_law_other : Sp := fun vs H Q _ => ∃ (r : Addr) (v : V) (x : Rw) (n : Int), vs = [.ref r, v, .int n] ∧ Reel H r ∧ RowAt H v x ∧ DtOk x.d ∧ 1 ≤ n ∧ n ≤ 8 ∧ ∀ (v' : V) (d : Dt) (H' : Hp), DtOk d → SL r H H' → Reel H' r → RowAt H' v' ⟨x.lv, d⟩ → Q v' H'
theorem use_other {r : Addr} {v : V} {x : Rw} {n : Int} {H : Hp} {Q : VK} {E : XK} (hR : Reel H r) (hv : RowAt H v x) (hd : DtOk x.d) (hn : 1 ≤ n ∧ n ≤ 8) (h : ∀ (v' : V) (d : Dt) (H' : Hp), DtOk d → SL r H H' → Reel H' r → RowAt H' v' ⟨x.lv, d⟩ → Q v' H') : sp_law_other [.ref r, v, .int n] H Q E := ⟨r, v, x, n, rfl, hR, hv, hd, hn.1, hn.2, h⟩
def sp_law_end : Sp := fun vs H Q _ => ∃ (p : Addr) (rows : List Rw) (a : Nat), vs = [.ref p, .int a] ∧ RowsIn H p rows ∧ a < rows.length ∧ rows.length ≤ 1000000 ∧ Q (.int (endN rows a)) H
theorem use_end {p : Addr} {rows : List Rw} {a : Int} {H : Hp} {Q : VK} {E : XK} (hp : RowsIn H p rows) (h0 : 0 ≤ a) (ha : a.toNat < rows.length) (hl : rows.length ≤ 1000000) (h : Q (.int (endN rows a.toNat)) H) : sp_law_end [.ref p, .int a] H Q E := by
  obtain ⟨n, rfl⟩ := Int.eq_ofNat_of_zero_le h0
  exact ⟨p, rows, n, rfl, hp, ha, hl, h⟩
def sp_law_change : Sp := fun vs H Q _ => ∃ (r p : Addr) (rows : List Rw) (n : Nat), vs = [.ref r, .ref p] ∧ Reel H r ∧ p ≠ r ∧ RowsIn H p rows ∧ Grow n rows ∧ n ≤ 100000 ∧
  ∀ (q : Addr) (rows' : List Rw) (H' : Hp), SL r H H' → Reel H' r → Frs H q → RowsIn H' q rows' → Grow (n + 1) rows' → Q (.ref q) H'
theorem use_change {r p : Addr} {rows : List Rw} {n : Nat} {H : Hp} {Q : VK} {E : XK} (hR : Reel H r) (hp : p ≠ r) (hr : RowsIn H p rows) (hg : Grow n rows) (hn : n ≤ 100000)
    (h : ∀ (q : Addr) (rows' : List Rw) (H' : Hp), SL r H H' → Reel H' r → Frs H q → RowsIn H' q rows' → Grow (n + 1) rows' → Q (.ref q) H') : sp_law_change [.ref r, .ref p] H Q E := ⟨r, p, rows, n, rfl, hR, hp, hr, hg, hn, h⟩
theorem RowsIn.sl {H H' : Hp} {r p : Addr} {rows : List Rw} (h : RowsIn H p rows) (s : SL r H H') (n : p ≠ r) : RowsIn H' p rows := let ⟨vs, e, q⟩ := h; ⟨vs, s.keep _ _ n e, q.ts (TpS.sl s)⟩
theorem RowsIn.sm {H H' : Hp} {p : Addr} {rows : List Rw} (h : RowsIn H p rows) (s : Same H H') : RowsIn H' p rows := let ⟨vs, e, q⟩ := h; ⟨vs, s _ _ e, q.ts (TpS.same s)⟩
theorem RowsIn.frs {H : Hp} {p q : Addr} {rows : List Rw} (h : RowsIn H p rows) (f : Frs H q) : p ≠ q := let ⟨_, e, _⟩ := h; f.ne e
theorem Grow.of {n m : Nat} {rows rows' : List Rw} (h : Grow n rows) (t : Tre rows') (l : rows'.length ≤ m) (ok : ∀ x ∈ rows', x ∈ rows ∨ DtOk x.d) : Grow m rows' := ⟨t, l, fun x hx => (ok x hx).elim (h.ok x) id⟩
theorem lim_sub {a n z : Int} (h : lim a n) (h0 : 0 < n) (ha : a ≤ 0) (z0 : 0 ≤ z) (z1 : z < 2) : lim a ((n - 1) * z) := by
  have : z = 0 ∨ z = 1 := by omega
  rcases this with rfl | rfl
  · exact ⟨by omega, by omega⟩
  · have := h.2
    exact ⟨by omega, by omega⟩
theorem lim_up {a n z : Int} (h : lim a n) (h0 : ¬ 0 < n) (z0 : 0 ≤ z) (z1 : z < 9) : lim a (n + 1 + z) := by
  have := h.1
  exact ⟨by omega, by omega⟩
section
variable {P : Program} {w : World} {K : PySem.W.Frag} {mg : Str → Option Value} {base : Heap} {aNode aNil : Addr}
end
end Z
namespace Z
open PySem PySem.Spec L2 ItX
local macro_rules | `(tactic| walk_at "ne") => `(tactic| first
  | with_reducible assumption
  | with_reducible exact Ne.symm (by assumption)
  | exact Frs.ne (by with_reducible assumption) (by walk_at "hp")
  | exact Frs.ne' (by with_reducible assumption) (by walk_at "hp"))
local macro_rules | `(tactic| walk_at "hp") => `(tactic| first
  | with_reducible assumption
  | (with_reducible refine Same.at (by assumption) ?_; walk_at "hp")
  | (with_reducible refine SL.tup (by assumption) ?_; walk_at "hp")
  | (with_reducible refine SL.at (by assumption) (by walk_at "ne") ?_; walk_at "hp"))
local macro_rules | `(tactic| walk_at "sz") => `(tactic| first
  | with_reducible assumption
  | exact Nat.le_of_ble_eq_true rfl
  | (refine sz_le ?_; omega)
  | (refine sz_lt ?_; omega)
  | decide +kernel)
local macro_rules | `(tactic| walk_at "at") => `(tactic| first
  | with_reducible assumption
  | with_reducible exact at0
  | with_reducible exact at1
  | with_reducible exact at2
  | with_reducible exact ixN0)
local macro_rules | `(tactic| walk_at "nn") => `(tactic| first
  | omega
  | decide
  | exact ⟨by decide, by decide⟩
  | exact ⟨by omega, by omega⟩
  | exact ⟨by omega, by omega, by omega, by omega⟩)
local macro_rules | `(tactic| walk_at "rdv") => `(tactic| first
  | (with_reducible refine add_int ?_)
  | (with_reducible refine sub_int ?_)
  | (with_reducible refine neg_int ?_)
  | ((with_reducible refine ix_tpl (xs := ?xs) (v := ?v) ?h1 ?h2 ?_); (case h1 => walk_at "hp"); (case h2 => walk_at "at"))
  | ((with_reducible refine ix_lst (xs := ?xs) (v := ?v) ?h1 ?h2 ?_); (case h1 => walk_at "hp"); (case h2 => walk_at "at"))
  | (with_reducible refine eq_int ?_)
  | (with_reducible refine ne_int ?_)
  | (with_reducible refine lt_int ?_)
  | (with_reducible refine le_int ?_)
  | (with_reducible refine gt_int ?_)
  | (with_reducible refine ge_int ?_)
  | (with_reducible refine eq_str ?_)
  | (with_reducible refine ne_str ?_)
  | (with_reducible refine eq_bl ?_)
  | (with_reducible refine ne_bl ?_)
  | ((with_reducible refine mod_int ?hc ?_); (case hc => walk_at "nn"))
  | ((with_reducible refine div_int ?hc ?_); (case hc => walk_at "nn"))
  | ((with_reducible refine mul_intR ?hc ?_); (case hc => exact ⟨by decide, by decide⟩))
  | ((with_reducible refine mul_intR ?hc ?_); (case hc => exact ⟨by omega, by omega⟩))
  | ((with_reducible refine mul_intL ?hc ?_); (case hc => exact ⟨by omega, by omega⟩))
  | ((with_reducible refine pow_int ?hc ?_); (case hc => exact ⟨by decide, by decide, by decide⟩))
  | ((with_reducible refine add_str ?hc ?_); (case hc => walk_at "sz"))
  | ((with_reducible refine add_lst (xs := ?xs) (ys := ?ys) ?h1 ?h2 ?hc ?_); (case h1 => walk_at "hp"); (case h2 => walk_at "hp"); (case hc => walk_at "sz"))
  | ((with_reducible refine sl_strU ?hc ?_); (case hc => walk_at "sz"))
  | ((with_reducible refine sl_lst (xs := ?xs) ?h1 ?_); (case h1 => walk_at "hp"))
  | (with_reducible refine is_bl ?_)
  | (with_reducible refine isnt_bl ?_)
  | (with_reducible refine is_non ?_)
  | (with_reducible refine isnt_non ?_))
local macro_rules | `(tactic| walk_at "rdc") => `(tactic| first
  | ((with_reducible refine len_lst (xs := ?xs) ?h1 ?_); (case h1 => walk_at "hp"))
  | ((with_reducible refine len_tup (xs := ?xs) ?h1 ?_); (case h1 => walk_at "hp"))
  | ((with_reducible refine len_str ?hc ?_); (case hc => walk_at "sz"))
  | (with_reducible refine int_int ?_)
  | (with_reducible refine max_int ?_)
  | (with_reducible refine min_int ?_)
  | (with_reducible refine abs_int ?_)
  | (with_reducible refine isi_ii ?_)
  | (with_reducible refine isi_ib ?_)
  | (with_reducible refine isi_ss ?_)
  | (with_reducible refine isi_bb ?_)
  | ((with_reducible refine isi_tt (xs := ?xs) ?h1 ?_); (case h1 => walk_at "hp"))
  | ((with_reducible refine isi_ll (xs := ?xs) ?h1 ?_); (case h1 => walk_at "hp"))
  | ((with_reducible refine list_lst (xs := ?xs) ?h1 ?_); (case h1 => walk_at "hp"))
  | ((with_reducible refine list_tup (xs := ?xs) ?h1 ?_); (case h1 => walk_at "hp"))
  | ((with_reducible refine tuple_lst (xs := ?xs) ?h1 ?_); (case h1 => walk_at "hp"))
  | ((with_reducible refine tuple_tup (xs := ?xs) ?h1 ?_); (case h1 => walk_at "hp"))
  | ((with_reducible refine append_lst (xs := ?xs) ?h1 ?hc ?_); (case h1 => walk_at "hp"); (case hc => walk_at "sz"))
  | ((with_reducible refine clear_lst (xs := ?xs) ?h1 ?_); (case h1 => walk_at "hp"))
  | ((with_reducible refine set_lst (xs := ?xs) (k := ?k) ?h1 ?h2 ?_); (case h1 => walk_at "hp"); (case h2 => walk_at "at")))
local macro_rules | `(tactic| walk_at "rd1") => `(tactic| first
  | ((with_reducible refine rVar (v := ?v) ?h ?_); (case h => exact rfl))
  | (with_reducible refine rC ?_)
  | (with_reducible refine rCons ?_)
  | (with_reducible refine rNil ?_)
  | (with_reducible refine rOp ?_)
  | (with_reducible refine rSeq ?_)
  | (with_reducible refine rAsgN ?_)
  | (with_reducible refine rAsgT ?_)
  | (with_reducible refine rAsgS ?_)
  | (with_reducible refine rTest ?_)
  | (with_reducible refine rBl ?_)
  | (with_reducible refine rBl' ?_)
  | (with_reducible refine rInt ?_)
  | (with_reducible refine rInt' ?_)
  | (with_reducible refine rCall ?_)
  | (with_reducible refine rCB ?_)
  | (with_reducible refine rRet ?_)
  | (with_reducible refine rDrop ?_)
  | (with_reducible refine rIfS ?_)
  | (with_reducible refine rTup ?_)
  | (with_reducible refine rLst ?_)
  | (with_reducible refine ⟨Nat.le_of_ble_eq_true rfl, ?_⟩)
  | (with_reducible refine rSl ?_)
  | (with_reducible refine rPart ?_)
  | (with_reducible refine rNoPart ?_)
  | (with_reducible refine rBM ?_)
  | (with_reducible refine rBM0 ?_)
  | ((with_reducible refine tyL (xs := ?xs) ?h1 ?_); (case h1 => walk_at "hp"))
  | (with_reducible refine rM1 ?_)
  | (with_reducible refine rM0 ?_)
  | (with_reducible refine rStr ?_)
  | (with_reducible refine rTru ?_)
  | (with_reducible refine tru_bl ?_)
  | (with_reducible refine tru_int ?_)
  | ((with_reducible refine tru_lst (xs := ?xs) ?h1 ?_); (case h1 => walk_at "hp"))
  | ((with_reducible refine tru_tup (xs := ?xs) ?h1 ?_); (case h1 => walk_at "hp"))
  | ((with_reducible refine tru_str ?hc ?_); (case hc => walk_at "sz"))
  | (with_reducible refine rAnd ?_)
  | (with_reducible refine rOr ?_)
  | (with_reducible refine rNot ?_)
  | (with_reducible refine rAndV ?_)
  | (with_reducible refine rOrV ?_)
  | (with_reducible refine rNotV ?_)
  | (with_reducible refine rIfE ?_)
  | (with_reducible refine rChain ?_)
  | (with_reducible refine rChain3 ?_)
  | (with_reducible refine ifT ?_)
  | (with_reducible refine ifF ?_)
  | (with_reducible refine ifNF ?_)
  | (with_reducible refine ifNT ?_)
  | (with_reducible refine rNext ?_)
  | (with_reducible refine rBrk ?_)
  | (with_reducible refine rCnt ?_)
  | (with_reducible refine rRetN ?_)
  | (with_reducible refine rForR1 ?_)
  | (with_reducible refine rForR2 ?_)
  | (with_reducible refine rForL ?_)
  | ((with_reducible refine rRg1 ?hb ?_); (case hb => walk_at "nn"))
  | ((with_reducible refine rRg2 ?hb ?_); (case hb => walk_at "nn"))
  | ((with_reducible refine rRf (xs := ?xs) ?h1 ?_); (case h1 => walk_at "hp"))
  | (with_reducible refine rLcR1 ?_)
  | (with_reducible refine rLcR2 ?_)
  | (with_reducible refine rLcL ?_)
  | (with_reducible refine gN ?_)
  | (with_reducible refine gNl ?_)
  | (with_reducible refine gC ?_)
  | ((with_reducible refine gT (xs := ?xs) ?h1 ?h2 ?_); (case h1 => walk_at "hp"); (case h2 => exact rfl))
  | (with_reducible refine rUn ?_)
  | walk_at "rdv"
  | walk_at "rdc")
local macro_rules | `(tactic| walk_at "rd") => `(tactic| repeat walk_at "rd1")

local macro_rules | `(tactic| walk_at "rd1") => `(tactic| first
  | (with_reducible refine rCallS ?_)
  | (with_reducible refine rRaise ?_)
  | (with_reducible refine rXf ?_)
  | (with_reducible refine rXi ?_)
  | (with_reducible refine rOst ?_)
  | (with_reducible refine rRevL ?_)
  | ((with_reducible refine revL_end (xs := ?xs) ?h1 ?_); (case h1 => walk_at "hp")))

local macro_rules | `(tactic| walk_at "rd1") => `(tactic| first
  | (with_reducible refine rForR3 ?_)
  | ((with_reducible refine rRgD ?hb ?_); (case hb => walk_at "nn"))
  | (with_reducible refine gS ?_))

local macro_rules | `(tactic| walk_at "rd1") => `(tactic| first
  | (with_reducible refine rFld ?_)
  | (with_reducible refine rSFld ?_)
  | (with_reducible refine rMake ?_)
  | (with_reducible refine rMeth ?_)
  | (with_reducible refine rForT ?_)
  | (with_reducible refine rLcT ?_)
  | (with_reducible refine rLcO ?_)
  | (with_reducible refine rForO ?_)
  | (with_reducible refine rLstY ?_)
  | ((with_reducible refine rRt (xs := ?xs) ?h1 ?_); (case h1 => walk_at "hp"))
  | ((with_reducible refine listY_lst (xs := ?xs) ?h1 ?_); (case h1 => walk_at "hp"))
  | ((with_reducible refine listY_tup (xs := ?xs) ?h1 ?_); (case h1 => walk_at "hp")))

local macro_rules | `(tactic| walk_at "hp") => `(tactic| first
  | (with_reducible refine SL.ins (by assumption) ?_; walk_at "hp"))
local macro_rules | `(tactic| walk_at "at") => `(tactic| first
  | with_reducible exact at3
  | with_reducible exact at4
  | with_reducible exact at5
  | with_reducible exact at6
  | with_reducible exact at7
  | with_reducible exact at8)
local macro_rules | `(tactic| walk_at "rd1") => `(tactic| first
  | (with_reducible refine rMkWK ?_)
  | (with_reducible refine rForS ?_)
  | (with_reducible refine rDGet ?_)
  | (with_reducible refine rDPut ?_)
  | (with_reducible refine rIts ?_)
  | (with_reducible refine rLstRg ?_)
  | ((with_reducible refine reverse_lst (xs := ?xs) ?h1 ?_); (case h1 => walk_at "hp"))
  | ((with_reducible refine extend_lst (xs := ?xs) (ys := ?ys) ?h1 ?h2 ?hc ?_); (case h1 => walk_at "hp"); (case h2 => walk_at "hp"); (case hc => walk_at "sz"))
  | ((with_reducible refine fN_kind (mg := ?mg) (C := ?C) (dx := ?dx) (d := ?d) (ns := ?ns) ?hu ?hp ?_); (case hu => with_reducible assumption); (case hp => walk_at "hp"))
  | ((with_reducible refine fN_symbol (mg := ?mg) (C := ?C) (dx := ?dx) (d := ?d) (ns := ?ns) ?hu ?hp ?_); (case hu => with_reducible assumption); (case hp => walk_at "hp"))
  | ((with_reducible refine fN_state (mg := ?mg) (C := ?C) (dx := ?dx) (d := ?d) (ns := ?ns) ?hu ?hp ?_); (case hu => with_reducible assumption); (case hp => walk_at "hp"))
  | ((with_reducible refine fN_lead (mg := ?mg) (C := ?C) (dx := ?dx) (d := ?d) (ns := ?ns) ?hu ?hp ?_); (case hu => with_reducible assumption); (case hp => walk_at "hp"))
  | ((with_reducible refine fN_width (mg := ?mg) (C := ?C) (dx := ?dx) (d := ?d) (ns := ?ns) ?hu ?hp ?_); (case hu => with_reducible assumption); (case hp => walk_at "hp"))
  | ((with_reducible refine fN_look (mg := ?mg) (C := ?C) (dx := ?dx) (d := ?d) (ns := ?ns) ?hu ?hp ?_); (case hu => with_reducible assumption); (case hp => walk_at "hp"))
  | ((with_reducible refine fN_alternative (mg := ?mg) (C := ?C) (dx := ?dx) (d := ?d) (ns := ?ns) ?hu ?hp ?_); (case hu => with_reducible assumption); (case hp => walk_at "hp"))
  | ((with_reducible refine fN_nodes (mg := ?mg) (C := ?C) (dx := ?dx) (d := ?d) (ns := ?ns) ?hu ?hp ?_); (case hu => with_reducible assumption); (case hp => walk_at "hp"))
  | ((with_reducible refine fN_popped (mg := ?mg) (C := ?C) (dx := ?dx) (d := ?d) (ns := ?ns) ?hu ?hp ?_); (case hu => with_reducible assumption); (case hp => walk_at "hp")))

theorem cutV_to {xs : List V} {i : Int} {n : Nat} (e : i = (n : Int)) : cutV xs none (some i) = xs.take n := by
  rw [cutV_cut, e, cut_to (by omega), Int.toNat_natCast]
theorem cutV_from {xs : List V} {i : Int} {n : Nat} (e : i = (n : Int)) : cutV xs (some i) none = xs.drop n := by
  rw [cutV_cut, e, cut_from (by omega), Int.toNat_natCast]
theorem cutV_mid {xs : List V} {i j : Int} {n m : Nat} (e : i = (n : Int)) (e2 : j = (m : Int)) : cutV xs (some i) (some j) = (xs.take m).drop n := by
  rw [cutV_cut, e, e2, cut_mid (by omega) (by omega), Int.toNat_natCast, Int.toNat_natCast]
theorem mem_cuts {x : Rw} {rows : List Rw} {a b : Nat} {r : Rw} (h : x ∈ rows.take a ++ [r] ++ rows.drop b) : x ∈ rows ∨ x = r := by
  rcases List.mem_append.mp h with h | h
  · rcases List.mem_append.mp h with h | h
    · exact .inl (List.mem_of_mem_take h)
    · exact .inr (List.mem_singleton.mp h)
  · exact .inl (List.mem_of_mem_drop h)
section
variable {P : Program} {w : World} {K : PySem.W.Frag} {mg : Str → Option Value} {base : Heap} {aNode aNil : Addr}
end
end Z
namespace Z
open PySem PySem.Spec L2
/-! ## the stack of a tree that is built from behind, by indexes -/
def stkI : Nat → List Rw → List (Int × Nat)
  | _, [] => []
  | o, x :: xs => (x.lv, o) :: (stkI (o + 1) xs).dropWhile fun e => decide (e.1 = x.lv + 1)
/-- the rows below row j of level l -/
def cix (rows : List Rw) (j : Nat) (l : Int) : List Nat := ((stkI (j + 1) (rows.drop (j + 1))).takeWhile fun e => decide (e.1 = l + 1)).map (·.2)
theorem stkI_mem : ∀ {xs : List Rw} {o : Nat} {e : Int × Nat}, e ∈ stkI o xs → o ≤ e.2 ∧ ∃ x, xs[e.2 - o]? = some x ∧ x.lv = e.1
  | [], _, _, h => nomatch h
  | x :: xs, o, e, h => by
    rcases List.mem_cons.mp h with rfl | h
    · exact ⟨Nat.le_refl _, x, by rw [Nat.sub_self]; rfl, rfl⟩
    · obtain ⟨h1, y, h2, h3⟩ := stkI_mem ((List.dropWhile_sublist _).subset h)
      refine ⟨by omega, y, ?_, h3⟩
      rw [show e.2 - o = e.2 - (o + 1) + 1 by omega]
      exact h2
theorem stkI_len : ∀ {xs : List Rw} {o : Nat}, (stkI o xs).length ≤ xs.length
  | [], _ => Nat.le_refl _
  | x :: xs, o => by
    have h1 := stkI_len (xs := xs) (o := o + 1)
    have h2 : ((stkI (o + 1) xs).dropWhile fun e => decide (e.1 = x.lv + 1)).length ≤ (stkI (o + 1) xs).length := (List.dropWhile_sublist _).length_le
    show _ + 1 ≤ xs.length + 1
    omega
theorem stkI_drop {rows : List Rw} {j : Nat} {e : Int × Nat} (h : e ∈ stkI j (rows.drop j)) : j ≤ e.2 ∧ ∃ x, rows[e.2]? = some x ∧ x.lv = e.1 := by
  obtain ⟨h1, x, h2, h3⟩ := stkI_mem h
  rw [List.getElem?_drop, show j + (e.2 - j) = e.2 by omega] at h2
  exact ⟨h1, x, h2, h3⟩
theorem stkI_at {rows : List Rw} {j : Nat} {x : Rw} (h : rows[j]? = some x) : stkI j (rows.drop j) = (x.lv, j) :: (stkI (j + 1) (rows.drop (j + 1))).dropWhile fun e => decide (e.1 = x.lv + 1) := by
  obtain ⟨hl, rfl⟩ := List.getElem?_eq_some_iff.mp h
  rw [List.drop_eq_getElem_cons hl]
  rfl
theorem stk_at {rows : List Rw} {j : Nat} {x : Rw} (h : rows[j]? = some x) : stk (rows.drop j) = (x.lv, x.d, toFo ((stk (rows.drop (j + 1))).takeWhile fun e => decide (e.1 = x.lv + 1))) :: (stk (rows.drop (j + 1))).dropWhile fun e => decide (e.1 = x.lv + 1) := by
  obtain ⟨hl, rfl⟩ := List.getElem?_eq_some_iff.mp h
  rw [List.drop_eq_getElem_cons hl]
  rfl
theorem cix_gt {rows : List Rw} {j i : Nat} {l : Int} (h : i ∈ cix rows j l) : j < i ∧ i < rows.length := by
  obtain ⟨e, he, rfl⟩ := List.mem_map.mp h
  obtain ⟨h1, x, h2, _⟩ := stkI_drop ((List.takeWhile_sublist _).subset he)
  exact ⟨h1, (List.getElem?_eq_some_iff.mp h2).1⟩
/-- the part that is taken, known by its ends -/
theorem tw_of {α : Type} {p : α → Bool} {B R : List α} (h1 : ∀ x ∈ B, p x = true) (h2 : ∀ y, R.head? = some y → p y = false) : (B ++ R).takeWhile p = B ∧ (B ++ R).dropWhile p = R := by
  refine ⟨takeWhile_all h1 h2, ?_⟩
  induction B with
  | nil =>
    cases R with
    | nil => rfl
    | cons y R => exact List.dropWhile_cons_of_neg (by rw [h2 y rfl]; simp)
  | cons x B ih =>
    show (x :: (B ++ R)).dropWhile p = R
    rw [List.dropWhile_cons_of_pos (h1 x (List.mem_cons_self ..))]
    exact ih fun y hy => h1 y (List.mem_cons_of_mem _ hy)
theorem Paired.tw {α β : Type} {F : α → β → Prop} {p : α → Bool} {q : β → Bool} (hpq : ∀ a b, F a b → p a = q b) : ∀ {xs : List α} {ys : List β}, Paired F xs ys → Paired F (xs.takeWhile p) (ys.takeWhile q) ∧ Paired F (xs.dropWhile p) (ys.dropWhile q)
  | _, _, .nil => ⟨.nil, .nil⟩
  | a :: xs, b :: ys, .cons r t => by
    have e := hpq a b r
    obtain ⟨h1, h2⟩ := Paired.tw hpq t
    cases c : p a with
    | true =>
      rw [List.takeWhile_cons_of_pos c, List.takeWhile_cons_of_pos (by rw [← e, c]), List.dropWhile_cons_of_pos c, List.dropWhile_cons_of_pos (by rw [← e, c])]
      exact ⟨.cons r h1, h2⟩
    | false =>
      rw [List.takeWhile_cons_of_neg (by rw [c]; simp), List.takeWhile_cons_of_neg (by rw [← e, c]; simp), List.dropWhile_cons_of_neg (by rw [c]; simp), List.dropWhile_cons_of_neg (by rw [← e, c]; simp)]
      exact ⟨.nil, .cons r t⟩
end Z
namespace Z
open PySem PySem.Spec L2 ItX
local macro_rules | `(tactic| walk_at "ne") => `(tactic| first
  | with_reducible assumption
  | with_reducible exact Ne.symm (by assumption)
  | exact Frs.ne (by with_reducible assumption) (by walk_at "hp")
  | exact Frs.ne' (by with_reducible assumption) (by walk_at "hp"))
local macro_rules | `(tactic| walk_at "hp") => `(tactic| first
  | with_reducible assumption
  | (with_reducible refine Same.at (by assumption) ?_; walk_at "hp")
  | (with_reducible refine SL.tup (by assumption) ?_; walk_at "hp")
  | (with_reducible refine SL.at (by assumption) (by walk_at "ne") ?_; walk_at "hp"))
local macro_rules | `(tactic| walk_at "sz") => `(tactic| first
  | with_reducible assumption
  | exact Nat.le_of_ble_eq_true rfl
  | (refine sz_le ?_; omega)
  | (refine sz_lt ?_; omega)
  | decide +kernel)
local macro_rules | `(tactic| walk_at "at") => `(tactic| first
  | with_reducible assumption
  | with_reducible exact at0
  | with_reducible exact at1
  | with_reducible exact at2
  | with_reducible exact ixN0)
local macro_rules | `(tactic| walk_at "nn") => `(tactic| first
  | omega
  | decide
  | exact ⟨by decide, by decide⟩
  | exact ⟨by omega, by omega⟩
  | exact ⟨by omega, by omega, by omega, by omega⟩)
local macro_rules | `(tactic| walk_at "rdv") => `(tactic| first
  | (with_reducible refine add_int ?_)
  | (with_reducible refine sub_int ?_)
  | (with_reducible refine neg_int ?_)
  | ((with_reducible refine ix_tpl (xs := ?xs) (v := ?v) ?h1 ?h2 ?_); (case h1 => walk_at "hp"); (case h2 => walk_at "at"))
  | ((with_reducible refine ix_lst (xs := ?xs) (v := ?v) ?h1 ?h2 ?_); (case h1 => walk_at "hp"); (case h2 => walk_at "at"))
  | (with_reducible refine eq_int ?_)
  | (with_reducible refine ne_int ?_)
  | (with_reducible refine lt_int ?_)
  | (with_reducible refine le_int ?_)
  | (with_reducible refine gt_int ?_)
  | (with_reducible refine ge_int ?_)
  | (with_reducible refine eq_str ?_)
  | (with_reducible refine ne_str ?_)
  | (with_reducible refine eq_bl ?_)
  | (with_reducible refine ne_bl ?_)
  | ((with_reducible refine mod_int ?hc ?_); (case hc => walk_at "nn"))
  | ((with_reducible refine div_int ?hc ?_); (case hc => walk_at "nn"))
  | ((with_reducible refine mul_intR ?hc ?_); (case hc => exact ⟨by decide, by decide⟩))
  | ((with_reducible refine mul_intR ?hc ?_); (case hc => exact ⟨by omega, by omega⟩))
  | ((with_reducible refine mul_intL ?hc ?_); (case hc => exact ⟨by omega, by omega⟩))
  | ((with_reducible refine pow_int ?hc ?_); (case hc => exact ⟨by decide, by decide, by decide⟩))
  | ((with_reducible refine add_str ?hc ?_); (case hc => walk_at "sz"))
  | ((with_reducible refine add_lst (xs := ?xs) (ys := ?ys) ?h1 ?h2 ?hc ?_); (case h1 => walk_at "hp"); (case h2 => walk_at "hp"); (case hc => walk_at "sz"))
  | ((with_reducible refine sl_strU ?hc ?_); (case hc => walk_at "sz"))
  | ((with_reducible refine sl_lst (xs := ?xs) ?h1 ?_); (case h1 => walk_at "hp"))
  | (with_reducible refine is_bl ?_)
  | (with_reducible refine isnt_bl ?_)
  | (with_reducible refine is_non ?_)
  | (with_reducible refine isnt_non ?_))
local macro_rules | `(tactic| walk_at "rdc") => `(tactic| first
  | ((with_reducible refine len_lst (xs := ?xs) ?h1 ?_); (case h1 => walk_at "hp"))
  | ((with_reducible refine len_tup (xs := ?xs) ?h1 ?_); (case h1 => walk_at "hp"))
  | ((with_reducible refine len_str ?hc ?_); (case hc => walk_at "sz"))
  | (with_reducible refine int_int ?_)
  | (with_reducible refine max_int ?_)
  | (with_reducible refine min_int ?_)
  | (with_reducible refine abs_int ?_)
  | (with_reducible refine isi_ii ?_)
  | (with_reducible refine isi_ib ?_)
  | (with_reducible refine isi_ss ?_)
  | (with_reducible refine isi_bb ?_)
  | ((with_reducible refine isi_tt (xs := ?xs) ?h1 ?_); (case h1 => walk_at "hp"))
  | ((with_reducible refine isi_ll (xs := ?xs) ?h1 ?_); (case h1 => walk_at "hp"))
  | ((with_reducible refine list_lst (xs := ?xs) ?h1 ?_); (case h1 => walk_at "hp"))
  | ((with_reducible refine list_tup (xs := ?xs) ?h1 ?_); (case h1 => walk_at "hp"))
  | ((with_reducible refine tuple_lst (xs := ?xs) ?h1 ?_); (case h1 => walk_at "hp"))
  | ((with_reducible refine tuple_tup (xs := ?xs) ?h1 ?_); (case h1 => walk_at "hp"))
  | ((with_reducible refine append_lst (xs := ?xs) ?h1 ?hc ?_); (case h1 => walk_at "hp"); (case hc => walk_at "sz"))
  | ((with_reducible refine clear_lst (xs := ?xs) ?h1 ?_); (case h1 => walk_at "hp"))
  | ((with_reducible refine set_lst (xs := ?xs) (k := ?k) ?h1 ?h2 ?_); (case h1 => walk_at "hp"); (case h2 => walk_at "at")))
local macro_rules | `(tactic| walk_at "rd1") => `(tactic| first
  | ((with_reducible refine rVar (v := ?v) ?h ?_); (case h => exact rfl))
  | (with_reducible refine rC ?_)
  | (with_reducible refine rCons ?_)
  | (with_reducible refine rNil ?_)
  | (with_reducible refine rOp ?_)
  | (with_reducible refine rSeq ?_)
  | (with_reducible refine rAsgN ?_)
  | (with_reducible refine rAsgT ?_)
  | (with_reducible refine rAsgS ?_)
  | (with_reducible refine rTest ?_)
  | (with_reducible refine rBl ?_)
  | (with_reducible refine rBl' ?_)
  | (with_reducible refine rInt ?_)
  | (with_reducible refine rInt' ?_)
  | (with_reducible refine rCall ?_)
  | (with_reducible refine rCB ?_)
  | (with_reducible refine rRet ?_)
  | (with_reducible refine rDrop ?_)
  | (with_reducible refine rIfS ?_)
  | (with_reducible refine rTup ?_)
  | (with_reducible refine rLst ?_)
  | (with_reducible refine ⟨Nat.le_of_ble_eq_true rfl, ?_⟩)
  | (with_reducible refine rSl ?_)
  | (with_reducible refine rPart ?_)
  | (with_reducible refine rNoPart ?_)
  | (with_reducible refine rBM ?_)
  | (with_reducible refine rBM0 ?_)
  | ((with_reducible refine tyL (xs := ?xs) ?h1 ?_); (case h1 => walk_at "hp"))
  | (with_reducible refine rM1 ?_)
  | (with_reducible refine rM0 ?_)
  | (with_reducible refine rStr ?_)
  | (with_reducible refine rTru ?_)
  | (with_reducible refine tru_bl ?_)
  | (with_reducible refine tru_int ?_)
  | ((with_reducible refine tru_lst (xs := ?xs) ?h1 ?_); (case h1 => walk_at "hp"))
  | ((with_reducible refine tru_tup (xs := ?xs) ?h1 ?_); (case h1 => walk_at "hp"))
  | ((with_reducible refine tru_str ?hc ?_); (case hc => walk_at "sz"))
  | (with_reducible refine rAnd ?_)
  | (with_reducible refine rOr ?_)
  | (with_reducible refine rNot ?_)
  | (with_reducible refine rAndV ?_)
  | (with_reducible refine rOrV ?_)
  | (with_reducible refine rNotV ?_)
  | (with_reducible refine rIfE ?_)
  | (with_reducible refine rChain ?_)
  | (with_reducible refine rChain3 ?_)
  | (with_reducible refine ifT ?_)
  | (with_reducible refine ifF ?_)
  | (with_reducible refine ifNF ?_)
  | (with_reducible refine ifNT ?_)
  | (with_reducible refine rNext ?_)
  | (with_reducible refine rBrk ?_)
  | (with_reducible refine rCnt ?_)
  | (with_reducible refine rRetN ?_)
  | (with_reducible refine rForR1 ?_)
  | (with_reducible refine rForR2 ?_)
  | (with_reducible refine rForL ?_)
  | ((with_reducible refine rRg1 ?hb ?_); (case hb => walk_at "nn"))
  | ((with_reducible refine rRg2 ?hb ?_); (case hb => walk_at "nn"))
  | ((with_reducible refine rRf (xs := ?xs) ?h1 ?_); (case h1 => walk_at "hp"))
  | (with_reducible refine rLcR1 ?_)
  | (with_reducible refine rLcR2 ?_)
  | (with_reducible refine rLcL ?_)
  | (with_reducible refine gN ?_)
  | (with_reducible refine gNl ?_)
  | (with_reducible refine gC ?_)
  | ((with_reducible refine gT (xs := ?xs) ?h1 ?h2 ?_); (case h1 => walk_at "hp"); (case h2 => exact rfl))
  | (with_reducible refine rUn ?_)
  | walk_at "rdv"
  | walk_at "rdc")
local macro_rules | `(tactic| walk_at "rd") => `(tactic| repeat walk_at "rd1")

local macro_rules | `(tactic| walk_at "rd1") => `(tactic| first
  | (with_reducible refine rCallS ?_)
  | (with_reducible refine rRaise ?_)
  | (with_reducible refine rXf ?_)
  | (with_reducible refine rXi ?_)
  | (with_reducible refine rOst ?_)
  | (with_reducible refine rRevL ?_)
  | ((with_reducible refine revL_end (xs := ?xs) ?h1 ?_); (case h1 => walk_at "hp")))

local macro_rules | `(tactic| walk_at "rd1") => `(tactic| first
  | (with_reducible refine rForR3 ?_)
  | ((with_reducible refine rRgD ?hb ?_); (case hb => walk_at "nn"))
  | (with_reducible refine gS ?_))

local macro_rules | `(tactic| walk_at "rd1") => `(tactic| first
  | (with_reducible refine rFld ?_)
  | (with_reducible refine rSFld ?_)
  | (with_reducible refine rMake ?_)
  | (with_reducible refine rMeth ?_)
  | (with_reducible refine rForT ?_)
  | (with_reducible refine rLcT ?_)
  | (with_reducible refine rLcO ?_)
  | (with_reducible refine rForO ?_)
  | (with_reducible refine rLstY ?_)
  | ((with_reducible refine rRt (xs := ?xs) ?h1 ?_); (case h1 => walk_at "hp"))
  | ((with_reducible refine listY_lst (xs := ?xs) ?h1 ?_); (case h1 => walk_at "hp"))
  | ((with_reducible refine listY_tup (xs := ?xs) ?h1 ?_); (case h1 => walk_at "hp")))

local macro_rules | `(tactic| walk_at "hp") => `(tactic| first
  | (with_reducible refine SL.ins (by assumption) ?_; walk_at "hp"))
local macro_rules | `(tactic| walk_at "at") => `(tactic| first
  | with_reducible exact at3
  | with_reducible exact at4
  | with_reducible exact at5
  | with_reducible exact at6
  | with_reducible exact at7
  | with_reducible exact at8)
local macro_rules | `(tactic| walk_at "rd1") => `(tactic| first
  | (with_reducible refine rMkWK ?_)
  | (with_reducible refine rForS ?_)
  | (with_reducible refine rDGet ?_)
  | (with_reducible refine rDPut ?_)
  | (with_reducible refine rIts ?_)
  | (with_reducible refine rLstRg ?_)
  | ((with_reducible refine reverse_lst (xs := ?xs) ?h1 ?_); (case h1 => walk_at "hp"))
  | ((with_reducible refine extend_lst (xs := ?xs) (ys := ?ys) ?h1 ?h2 ?hc ?_); (case h1 => walk_at "hp"); (case h2 => walk_at "hp"); (case hc => walk_at "sz"))
  | ((with_reducible refine fN_kind (mg := ?mg) (C := ?C) (dx := ?dx) (d := ?d) (ns := ?ns) ?hu ?hp ?_); (case hu => with_reducible assumption); (case hp => walk_at "hp"))
  | ((with_reducible refine fN_symbol (mg := ?mg) (C := ?C) (dx := ?dx) (d := ?d) (ns := ?ns) ?hu ?hp ?_); (case hu => with_reducible assumption); (case hp => walk_at "hp"))
  | ((with_reducible refine fN_state (mg := ?mg) (C := ?C) (dx := ?dx) (d := ?d) (ns := ?ns) ?hu ?hp ?_); (case hu => with_reducible assumption); (case hp => walk_at "hp"))
  | ((with_reducible refine fN_lead (mg := ?mg) (C := ?C) (dx := ?dx) (d := ?d) (ns := ?ns) ?hu ?hp ?_); (case hu => with_reducible assumption); (case hp => walk_at "hp"))
  | ((with_reducible refine fN_width (mg := ?mg) (C := ?C) (dx := ?dx) (d := ?d) (ns := ?ns) ?hu ?hp ?_); (case hu => with_reducible assumption); (case hp => walk_at "hp"))
  | ((with_reducible refine fN_look (mg := ?mg) (C := ?C) (dx := ?dx) (d := ?d) (ns := ?ns) ?hu ?hp ?_); (case hu => with_reducible assumption); (case hp => walk_at "hp"))
  | ((with_reducible refine fN_alternative (mg := ?mg) (C := ?C) (dx := ?dx) (d := ?d) (ns := ?ns) ?hu ?hp ?_); (case hu => with_reducible assumption); (case hp => walk_at "hp"))
  | ((with_reducible refine fN_nodes (mg := ?mg) (C := ?C) (dx := ?dx) (d := ?d) (ns := ?ns) ?hu ?hp ?_); (case hu => with_reducible assumption); (case hp => walk_at "hp"))
  | ((with_reducible refine fN_popped (mg := ?mg) (C := ?C) (dx := ?dx) (d := ?d) (ns := ?ns) ?hu ?hp ?_); (case hu => with_reducible assumption); (case hp => walk_at "hp")))

/-! ## trees that are built from rows -/
def nodesOf (vs : List V) (is : List Nat) : List V := is.map fun i => (vs[i]?).getD .non
/-- what stands at row j -/
def LnkAt (K : PySem.W.Frag) (C : Addr) (H : Hp) (vs : List V) (rows : List Rw) (j : Nat) : Prop := ∃ (x : Rw) (p dx q : Addr), rows[j]? = some x ∧ vs[j]? = some (.ref p) ∧ H p = some (.ins C dx (nodF x.d (.ref q))) ∧ SqT K H q (nodesOf vs (cix rows j x.lv))
structure Lnk (K : PySem.W.Frag) (C : Addr) (H : Hp) (vs : List V) (rows : List Rw) : Prop where
  len : vs.length = rows.length
  all : ∀ j, j < rows.length → LnkAt K C H vs rows j
theorem LnkAt.kp {K : PySem.W.Frag} {C : Addr} {H H' : Hp} {vs : List V} {rows : List Rw} {j : Nat} (s : KpS H H') (h : LnkAt K C H vs rows j) : LnkAt K C H' vs rows j := let ⟨x, p, dx, q, h1, h2, h3, h4⟩ := h; ⟨x, p, dx, q, h1, h2, s.ins h3, sqt_kp s h4⟩
theorem Lnk.kp {K : PySem.W.Frag} {C : Addr} {H H' : Hp} {vs : List V} {rows : List Rw} (s : KpS H H') (h : Lnk K C H vs rows) : Lnk K C H' vs rows := ⟨h.len, fun j hj => (h.all j hj).kp s⟩
theorem nodesOf_set {vs : List V} {is : List Nat} {k : Nat} {v : V} (h : ∀ i ∈ is, k < i) : nodesOf (vs.set k v) is = nodesOf vs is := by
  refine List.map_congr_left fun i hi => ?_
  rw [List.getElem?_set_ne (by have := h i hi; omega)]
theorem LnkAt.set {K : PySem.W.Frag} {C : Addr} {H : Hp} {vs : List V} {rows : List Rw} {j k : Nat} {v : V} (hk : k < j) (h : LnkAt K C H vs rows j) : LnkAt K C H (vs.set k v) rows j := by
  obtain ⟨x, p, dx, q, h1, h2, h3, h4⟩ := h
  refine ⟨x, p, dx, q, h1, by rw [List.getElem?_set_ne (by omega)]; exact h2, h3, ?_⟩
  rw [nodesOf_set fun i hi => by have := (cix_gt hi).1; omega]
  exact h4
theorem nodes_of {K : PySem.W.Frag} {C : Addr} {H : Hp} {vs : List V} : ∀ {S : List (Int × Nat)} {S' : List Rt}, Paired (fun (e : Int × Nat) (f : Rt) => e.1 = f.1 ∧ ∃ v, vs[e.2]? = some v ∧ NodeAt K C H v f.2.1 f.2.2) S S' → NodesAt K C H (nodesOf vs (S.map (·.2))) (toFo S')
  | _, _, .nil => rfl
  | _, _, .cons r t => by
    obtain ⟨_, v, hv, hn⟩ := r
    have := nodes_of t
    show NodesAt K C H ((vs[_]?).getD .non :: nodesOf vs _) (.cons _ _ (toFo _))
    rw [hv]
    exact NodesAt.cons hn this
theorem Lnk.pair {K : PySem.W.Frag} {C : Addr} {H : Hp} {vs : List V} {rows : List Rw} (h : Lnk K C H vs rows) : ∀ (n j : Nat), rows.length - j = n → j ≤ rows.length →
    Paired (fun (e : Int × Nat) (f : Rt) => e.1 = f.1 ∧ ∃ v, vs[e.2]? = some v ∧ NodeAt K C H v f.2.1 f.2.2) (stkI j (rows.drop j)) (stk (rows.drop j))
  | 0, j, hn, hj => by rw [List.drop_eq_nil_of_le (by omega)]; exact .nil
  | n + 1, j, hn, hj => by
    have ih := Lnk.pair h n (j + 1) (by omega) (by omega)
    obtain ⟨x, p, dx, q, hx, hv, hp, hq⟩ := h.all j (by omega)
    rw [stkI_at hx, stk_at hx]
    obtain ⟨t1, t2⟩ := Paired.tw (p := fun e : Int × Nat => decide (e.1 = x.lv + 1)) (q := fun e : Rt => decide (e.1 = x.lv + 1)) (fun a b r => by rw [r.1]) ih
    exact .cons ⟨rfl, .ref p, hv, p, dx, q, _, rfl, hp, hq, nodes_of t1⟩ t2
theorem Lnk.node {K : PySem.W.Frag} {C : Addr} {H : Hp} {vs : List V} {rows : List Rw} (h : Lnk K C H vs rows) {j : Nat} {l : Int} {d : Dt} {k : Fo} {s : List Rt} (hj : j < rows.length) (e : stk (rows.drop j) = (l, d, k) :: s) : ∃ v, vs[j]? = some v ∧ NodeAt K C H v d k := by
  have hp := Lnk.pair h _ j rfl (by omega)
  obtain ⟨x, hx⟩ : ∃ x, rows[j]? = some x := ⟨_, List.getElem?_eq_getElem hj⟩
  rw [stkI_at hx, e] at hp
  cases hp with
  | cons r t => obtain ⟨_, v, hv, hn⟩ := r; exact ⟨v, hv, hn⟩
def sp_law_made (K : PySem.W.Frag) (C : Addr) : Sp := fun vs H Q _ => ∃ (p : Addr) (rows : List Rw), vs = [.ref p] ∧ RowsIn H p rows ∧ rows.length ≤ 1000000 ∧ ∀ (q : Addr) (us : List V) (H' : Hp), Same H H' → Frs H q → H' q = some (.lst us) → Lnk K C H' us rows → Q (.ref q) H'
theorem use_made {K : PySem.W.Frag} {C p : Addr} {rows : List Rw} {H : Hp} {Q : VK} {E : XK} (hp : RowsIn H p rows) (hl : rows.length ≤ 1000000) (h : ∀ (q : Addr) (us : List V) (H' : Hp), Same H H' → Frs H q → H' q = some (.lst us) → Lnk K C H' us rows → Q (.ref q) H') : sp_law_made K C [.ref p] H Q E := ⟨p, rows, rfl, hp, hl, h⟩
section
variable {P : Program} {w : World} {K : PySem.W.Frag} {mg : Str → Option Value} {base : Heap} {aNode aNil : Addr}
theorem cal_law_made {f : Addr} {fd : FuncData} (T : Txt mg) (FD : C8.Def K mg "_law_made" s_law_made f fd) (b : Binds K fd ["rows"] [])
    (c_Node_init4 : MakK P w K mg base 1 "Node" aNode 2 ["state", "lead", "width", "look"] (sp_Node_init K aNode) (gKW [.int (-1), .ref aNil, .int (0)]))
    (c_Node_init7 : MakK P w K mg base 1 "Node" aNode 2 ["state", "lead", "width", "look", "alternative", "nodes", "popped"] (sp_Node_init K aNode) (gKW []))
    (nil_Node : ∀ H, SqT K H aNil []) : C8.Cal P w K mg base 3 "_law_made" (sp_law_made K aNode) [] := by
  refine C8.cal0 FD b .nil sc_law_made (fun vs H Q E h => ?_) (fun cdv A outer s H vs Q E hr h => ?_)
  · obtain ⟨p, rows, rfl, _⟩ := h; rfl
  · obtain ⟨p, rows, rfl, ⟨vs, hp, hrw⟩, hl, k⟩ := h
    refine ⟨_, (pss_cons (ps_set (i := 1) sc_law_made.nd rfl (.inl rfl) (pe_op op_mulU (pe_lst (pa_cons pe_non pa_nil)) (pe_callB (call_lenK K) (by rfl) T.n_len PySem.boot_len (pa_cons (pv 0) pa_nil))))
  (pss_cons (ps_set (i := 2) sc_law_made.nd rfl (.inl rfl) (pe_lst pa_nil))
  (pss_cons (ps_for PassesOwn.never rfl (pi_range3 rfl T.n_range (pa_cons (pe_op op_subU (pe_callB (call_lenK K) (by rfl) T.n_len PySem.boot_len (pa_cons (pv 0) pa_nil)) pe_int) (pa_cons (pe_un un_neg pe_int) (pa_cons (pe_un un_neg pe_int) pa_nil)))) (pg_name (i := 3) sc_law_made.nd rfl (.inl rfl)) (pss_cons (ps_set (i := 4) sc_law_made.nd rfl (.inl rfl) (pe_ix (ix_K K) (pv 0) (pv 3) (fun _ _ => rfl)))
  (pss_cons (ps_set (i := 5) sc_law_made.nd rfl (.inl rfl) (pe_lst pa_nil))
  (pss_cons (ps_while PassesOwn.never (PW.pt (pw_and (pt_truK K (pv 2) (by intro _; rfl)) (pw_and1 (pt_cmpR (op_eqK K (hu64 hr)) (pe_ix (ix_K K) (pe_ix (ix_K K) (pv 0) (pe_ix (ix_K K) (pv 2) (pe_op op_subU (pe_callB (call_lenK K) (by rfl) T.n_len PySem.boot_len (pa_cons (pv 2) pa_nil)) pe_int) (fun _ _ => rfl)) (fun _ _ => rfl)) pe_int (fun _ _ => rfl)) (pe_op (op_addK K) (pe_ix (ix_K K) (pv 4) pe_int (fun _ _ => rfl)) pe_int) (nomark _))))) (pss_one (ps_expr (pe_bm F.plainAttrs_list F.slot_list_append F.type_list_append mt_append (pv 5) (pa_cons (pe_ix (ix_K K) (pv 1) (pe_bm0 F.plainAttrs_list F.slot_list_pop F.type_list_pop mt_pop (pv 2)) (fun _ _ => rfl)) pa_nil)))))
  (pss_cons (ps_expr (pe_bm F.plainAttrs_list F.slot_list_append F.type_list_append mt_append (pv 2) (pa_cons (pv 3) pa_nil)))
  (pss_one (ps_if (PW.pt (pw_and (pt_cmpR (op_eqK K (hu64 hr)) (pe_op op_modU (pv 3) pe_int) pe_int (nomark _)) (pw_and (pt_cmpR (op_eqK K (hu64 hr)) (pe_ix (ix_K K) (pv 4) pe_int (fun _ _ => rfl)) (pe_un un_neg pe_int) (nomark _)) (pw_and (pt_cmpR (op_eqK K (hu64 hr)) (pe_ix (ix_K K) (pv 4) pe_int (fun _ _ => rfl)) pe_int (nomark _)) (pw_and1 (pt_not (pt_truK K (pv 5) (by intro _; rfl)))))))) (pss_one (ps_asg (pe_mkIK (W := W_Node4 aNode aNil) c_Node_init4 hr (by decide) (by rfl) (pa_cons (pe_ix (ix_K K) (pv 4) pe_int (fun _ _ => rfl)) (pa_cons (pe_ix (ix_K K) (pv 4) pe_int (fun _ _ => rfl)) pa_nil)) (pk_cons (pe_ix (ix_K K) (pv 4) pe_int (fun _ _ => rfl)) (pk_cons (pe_ix (ix_K K) (pv 4) pe_int (fun _ _ => rfl)) (pk_cons (pe_ix (ix_K K) (pv 4) pe_int (fun _ _ => rfl)) (pk_cons (pe_ix (ix_K K) (pv 4) pe_int (fun _ _ => rfl)) pk_nil)))) (mk_Node4 nil_Node)) (pg_sub (pv 1) (pv 3) set_list))) (pss_cons (ps_set (i := 5) sc_law_made.nd rfl (.inl rfl) (pe_callTy (call_tupleK K) (by rfl) T.n_tuple (by decide +kernel) (pa_cons (pv 5) pa_nil)))
  (pss_one (ps_asg (pe_mkIK (W := W_Node7 K aNode) c_Node_init7 hr (by decide) (by rfl) (pa_cons (pe_ix (ix_K K) (pv 4) pe_int (fun _ _ => rfl)) (pa_cons (pe_ix (ix_K K) (pv 4) pe_int (fun _ _ => rfl)) pa_nil)) (pk_cons (pe_ix (ix_K K) (pv 4) pe_int (fun _ _ => rfl)) (pk_cons (pe_ix (ix_K K) (pv 4) pe_int (fun _ _ => rfl)) (pk_cons (pe_ix (ix_K K) (pv 4) pe_int (fun _ _ => rfl)) (pk_cons (pe_ix (ix_K K) (pv 4) pe_int (fun _ _ => rfl)) (pk_cons (pe_ix (ix_K K) (pv 4) pe_int (fun _ _ => rfl)) (pk_cons (pv 5) (pk_cons (pe_ix (ix_K K) (pv 4) pe_int (fun _ _ => rfl)) pk_nil))))))) mk_Node7) (pg_sub (pv 1) (pv 3) set_list)))))))))))
  (pss_one (ps_ret (pv 1)))))), ?_⟩
    show (_ : TS) _ [some (.ref p), none, none, none, none, none] H
    have hvl := Paired.len hrw
    walk_at "rd"
    refine newO_gen fun t0 H1 g1 s1 h1 => ?_
    walk_at "rd"
    refine mul_rep h1 (by omega) (sz_le (by show 1 * _ ≤ _; omega)) ?_
    refine newO_gen fun m H2 g2 s2 h2 => ?_
    have e2 : (List.replicate ((vs.length : Int)).toNat [V.non]).flatten = List.replicate rows.length V.non := by
      rw [Int.toNat_natCast, hvl]
      induction rows.length with
      | zero => rfl
      | succ n ih => rw [List.replicate_succ, List.flatten_cons, ih, List.replicate_succ]; rfl
    rw [e2] at h2
    walk_at "rd"
    refine newO_gen fun wt H3 g3 s3 h3 => ?_
    have s03 : Same H H3 := Same.trans (Same.trans s1 s2) s3
    have gm : Frs H m := Same.fre s1 g2
    have gw : Frs H wt := Same.fre (Same.trans s1 s2) g3
    have hmw : m ≠ wt := g3.ne h2
    walk_at "rd"
    rw [show ((vs.length : Int) - 1 - -1).toNat = rows.length by omega]
    refine loopC_by (fun i σ' H' => ∃ (us : List V) (o3 o4 o5 : Option V), σ' = [some (.ref p), some (.ref m), some (.ref wt), o3, o4, o5] ∧ Same H H' ∧ H' m = some (.lst us) ∧ us.length = rows.length ∧
      H' wt = some (.lst ((stkI (rows.length - i) (rows.drop (rows.length - i))).map fun e => V.int e.2).reverse) ∧ ∀ j, rows.length - i ≤ j → j < rows.length → LnkAt K aNode H' us rows j) ?_ ?_ ?_
    · refine ⟨_, none, none, none, rfl, s03, s3 _ _ h2, by rw [List.length_replicate], ?_, fun j h1 h2 => by omega⟩
      rw [Nat.sub_zero, List.drop_eq_nil_of_le (Nat.le_refl _)]
      exact h3
    · rintro i σ' H4 hi ⟨us, o3, o4, o5, rfl, s4, h4m, hul, h4w, hlk⟩
      obtain ⟨j, hj⟩ : ∃ j, rows.length - i = j + 1 := ⟨rows.length - i - 1, by omega⟩
      rw [hj] at h4w hlk
      have hj0 : rows.length - (i + 1) = j := by omega
      rw [hj0]
      have hji : (vs.length : Int) - 1 + (i : Int) * -1 = (j : Int) := by omega
      have hjl : j < rows.length := by omega
      obtain ⟨x, hx⟩ : ∃ x, rows[j]? = some x := ⟨_, List.getElem?_eq_getElem hjl⟩
      obtain ⟨va, hva, pa, rfl, hpa⟩ := Paired.at' hrw hx
      have hatj : atI vs (j : Int) = some (.ref pa) := atI_nat hva
      replace hpa : H pa = some (.tup [.int x.lv, .str x.d.k, .str x.d.s, .int x.d.st, .int x.d.ld, .int x.d.wd, .int x.d.lk, .int x.d.al, .int x.d.pp]) := hpa
      rw [hji]
      have hp4 : H4 p = some (.lst vs) := s4 _ _ hp
      walk_at "rd"
      refine newO_gen fun bl H5 g5 s5 h5 => ?_
      have gb : Frs H bl := Same.fre s4 g5
      have hmb : m ≠ bl := g5.ne h4m
      have hwb : wt ≠ bl := g5.ne h4w
      have h5m := s5 _ _ h4m
      have h5w := s5 _ _ h4w
      generalize hS : stkI (j + 1) (rows.drop (j + 1)) = S at h4w h5w
      have hSm : ∀ e ∈ S, j < e.2 ∧ ∃ y, rows[e.2]? = some y ∧ y.lv = e.1 := fun e he => by
        rw [← hS] at he
        obtain ⟨h1, h2⟩ := stkI_drop he
        exact ⟨h1, h2⟩
      have hSl : S.length ≤ 1000000 := by
        rw [← hS]
        have := stkI_len (xs := rows.drop (j + 1)) (o := j + 1)
        rw [List.length_drop] at this
        omega
      walk_at "rd"
      refine whileC (fun mm σ' H' => ∃ B R, S = B ++ R ∧ (∀ e ∈ B, e.1 = x.lv + 1) ∧ mm = R.length ∧ σ' = [some (.ref p), some (.ref m), some (.ref wt), some (.int j), some (.ref pa), some (.ref bl)] ∧ Same H H' ∧ KpS H5 H' ∧ H' m = some (.lst us) ∧
        H' wt = some (.lst (R.map fun e => V.int e.2).reverse) ∧ H' bl = some (.lst (nodesOf us (B.map (·.2)))))
        (fun σ' H' => ∃ R, σ' = [some (.ref p), some (.ref m), some (.ref wt), some (.int j), some (.ref pa), some (.ref bl)] ∧ Same H H' ∧ KpS H5 H' ∧ H' m = some (.lst us) ∧
        H' wt = some (.lst (R.map fun e => V.int e.2).reverse) ∧ H' bl = some (.lst (nodesOf us (cix rows j x.lv))) ∧ R.length ≤ S.length ∧ stkI j (rows.drop j) = (x.lv, j) :: R) (m := S.length) ⟨[], S, rfl, (fun _ h => nomatch h), rfl, rfl, Same.trans s4 s5, KpS.same (Same.refl _), h5m, h5w, h5⟩ ?_ ?_
      · rintro nx' hnx mm σ' H6 ⟨B, R, hBR, hB, rfl, rfl, s6, k6, h6m, h6w, h6b⟩
        have hp6 : H6 p = some (.lst vs) := s6 _ _ hp
        have hpa6 := s6 _ _ hpa
        have hBl : B.length + R.length = S.length := by rw [hBR, List.length_append]
        have fin : (∀ e, R.head? = some e → ¬ e.1 = x.lv + 1) → nx' [some (.ref p), some (.ref m), some (.ref wt), some (.int j), some (.ref pa), some (.ref bl)] H6 := fun hh => by
          obtain ⟨t1, t2⟩ := tw_of (p := fun e : Int × Nat => decide (e.1 = x.lv + 1)) (B := B) (R := R) (fun e he => decide_eq_true (hB e he)) (fun e he => decide_eq_false (hh e he))
          rw [← hBR] at t1 t2
          refine hnx _ _ ⟨R, rfl, s6, k6, h6m, h6w, ?_, by omega, ?_⟩
          · unfold cix
            rw [hS, t1]
            exact h6b
          · rw [stkI_at hx, hS, t2]
        cases R with
        | nil =>
          walk_at "rd"
          exact fin fun e h => nomatch h
        | cons e R' =>
          have he := hSm e (by rw [hBR]; exact List.mem_append.mpr (.inr (List.mem_cons_self ..)))
          obtain ⟨hej, y, hy, hyl⟩ := he
          rw [show ((e :: R').map fun e => V.int e.2).reverse = (R'.map fun e => V.int e.2).reverse ++ [V.int e.2] by rw [List.map_cons, List.reverse_cons]] at h6w
          have hey := (List.getElem?_eq_some_iff.mp hy).1
          obtain ⟨vy, hvy, py, rfl, hpy⟩ := Paired.at' hrw hy
          have haty : atI vs (e.2 : Int) = some (.ref py) := atI_nat hvy
          replace hpy : H6 py = some (.tup [.int y.lv, .str y.d.k, .str y.d.s, .int y.d.st, .int y.d.ld, .int y.d.wd, .int y.d.lk, .int y.d.al, .int y.d.pp]) := s6 _ _ hpy
          have hlen : ((R'.map fun e => V.int e.2).reverse ++ [V.int e.2]).length = R'.length + 1 := by rw [List.length_append, List.length_reverse, List.length_map]; rfl
          have hlast : ((R'.map fun e => V.int e.2).reverse ++ [V.int e.2])[((R'.map fun e => V.int e.2).reverse ++ [V.int e.2]).length - 1]? = some (V.int e.2) := by
            rw [hlen, List.getElem?_append_right (by rw [List.length_reverse, List.length_map]; omega), List.length_reverse, List.length_map]
            rw [show R'.length + 1 - 1 - R'.length = 0 by omega]
            rfl
          have hatw : atI ((R'.map fun e => V.int e.2).reverse ++ [V.int e.2]) ((((R'.map fun e => V.int e.2).reverse ++ [V.int e.2]).length : Int) - 1) = some (V.int e.2) := at_of (j := ((R'.map fun e => V.int e.2).reverse ++ [V.int e.2]).length - 1) (by omega) hlast
          walk_at "rd"
          rw [show (!((R'.map fun e => V.int e.2).reverse ++ [V.int e.2]).isEmpty) = true by simp]
          walk_at "rd"
          refine ifD (fun hc => ?_) (fun hc => ?_)
          · refine wGo ?_
            obtain ⟨z, pz, dxz, qz, hz1, hz2, hz3, hz4⟩ := hlk e.2 (by omega) hey
            have hatz : atI us (e.2 : Int) = some (.ref pz) := atI_nat hz2
            walk_at "rd"
            refine pop_lst h6w hlast ?_
            refine putO_gen h6w fun H7 s7 h7w => ?_
            have h7m := s7.at hmw h6m
            have h7b := s7.at hwb.symm h6b
            have hbl : (nodesOf us (B.map (·.2))).length = B.length := by unfold nodesOf; rw [List.length_map, List.length_map]
            have hcl : (e :: R').length = R'.length + 1 := rfl
            walk_at "rd"
            refine putO_gen h7b fun H8 s8 h8b => ?_
            refine ⟨R'.length, by omega, B ++ [e], R', by rw [hBR]; simp, fun e' he' => ?_, rfl, rfl, SL.same (SL.same s6 s7 gw) s8 gb, KpS.trans (KpS.trans k6 (KpS.sl s7)) (KpS.sl s8), s8.at hmb h7m, ?_, ?_⟩
            · rcases List.mem_append.mp he' with h | h
              · exact hB e' h
              · rw [List.mem_singleton.mp h, ← hyl]; exact hc
            · rw [List.dropLast_concat] at h7w
              exact s8.at hwb h7w
            · rw [h8b]
              unfold nodesOf
              rw [List.map_append, List.map_append, List.map_singleton, List.map_singleton, hz2]
              rfl
          · walk_at "rd"
            exact fin fun e' h => by cases h; rw [← hyl]; exact hc
      · rintro σ' H6 ⟨R, rfl, s6, k6, h6m, h6w, h6b, hRl, hst⟩
        have hwl : (R.map fun e => V.int e.2).reverse.length = R.length := by rw [List.length_reverse, List.length_map]
        walk_at "rd"
        refine putO_gen h6w fun H7 s7 h7w => ?_
        rw [show (R.map fun e => V.int e.2).reverse ++ [V.int (j : Int)] = ((stkI j (rows.drop j)).map fun e => V.int e.2).reverse by rw [hst, List.map_cons, List.reverse_cons]] at h7w
        have h7m := s7.at hmw h6m
        have h7b := s7.at hwb.symm h6b
        have s07 : Same H H7 := SL.same s6 s7 gw
        have k7 : KpS H5 H7 := KpS.trans k6 (KpS.sl s7)
        have hpa7 := s07 _ _ hpa
        have fin : ∀ (H10 : Hp) (pn dx tb : Addr) (o5 : Option V), Same H H10 → H10 m = some (.lst (us.set j (.ref pn))) → H10 wt = some (.lst ((stkI j (rows.drop j)).map fun e => V.int e.2).reverse) → H10 pn = some (.ins aNode dx (nodF x.d (.ref tb))) → SqT K H10 tb (nodesOf us (cix rows j x.lv)) → KpS H5 H10 →
            ∃ (us : List V) (o3 o4 o5' : Option V), [some (V.ref p), some (V.ref m), some (V.ref wt), some (V.int j), some (V.ref pa), o5] = [some (.ref p), some (.ref m), some (.ref wt), o3, o4, o5'] ∧ Same H H10 ∧ H10 m = some (.lst us) ∧ us.length = rows.length ∧
              H10 wt = some (.lst ((stkI j (rows.drop j)).map fun e => V.int e.2).reverse) ∧ ∀ j', j ≤ j' → j' < rows.length → LnkAt K aNode H10 us rows j' := by
          intro H10 pn dx tb o5 g1 g2 g3 g4 g5 g6
          refine ⟨us.set j (.ref pn), _, _, _, rfl, g1, g2, by rw [List.length_set]; exact hul, g3, fun j' hj1 hj2 => ?_⟩
          rcases Nat.lt_or_ge j j' with c | c
          · exact ((hlk j' (by omega) hj2).kp (KpS.trans (KpS.same s5) g6)).set c
          · have : j' = j := by omega
            subst this
            refine ⟨x, pn, dx, tb, hx, by rw [List.getElem?_set_self (by omega)], g4, ?_⟩
            rw [nodesOf_set fun i hi => (cix_gt hi).1]
            exact g5
        have hix : ixN us.length (j : Int) = some j := by unfold ixN; rw [if_pos (by omega), if_pos (by omega), Int.toNat_natCast]
        refine rIfC (fun H' => H' = H7 ∧ x.d.al = -1 ∧ x.d.pp = 0 ∧ nodesOf us (cix rows j x.lv) = []) (fun H' => H' = H7) ?_ ?_ ?_
        · intro TA TB hA hB
          walk_at "rd"
          refine ifD (fun c1 => ?_) (fun c1 => ?_)
          · walk_at "rd"
            refine ifD (fun c2 => ?_) (fun c2 => ?_)
            · walk_at "rd"
              refine ifD (fun c3 => ?_) (fun c3 => ?_)
              · walk_at "rd"
                cases hE : nodesOf us (cix rows j x.lv) with
                | nil => exact hA _ ⟨rfl, c2, c3, hE⟩
                | cons a l => exact hB _ rfl
              · walk_at "rd"
                exact hB _ rfl
            · walk_at "rd"
              exact hB _ rfl
          · walk_at "rd"
            exact hB _ rfl
        · rintro H' ⟨rfl, hal, hpp, hE⟩
          walk_at "rd"
          refine ⟨x.d, rfl, rfl, hal, hpp, ?_⟩
          refine newI_gen fun pn dx H9 g9 s9 h9 => ?_
          have h9m := s9 _ _ h7m
          have h9w := s9 _ _ h7w
          walk_at "rd"
          refine putO_gen h9m fun H10 s10 h10 => ?_
          refine fin H10 pn dx aNil _ (SL.same (Same.trans s07 s9) s10 gm) h10 (s10.at hmw.symm h9w) (s10.ins h9) (by rw [hE]; exact nil_Node _) ?_
          exact KpS.trans (KpS.trans k7 (KpS.same s9)) (KpS.sl s10)
        · rintro H' rfl
          walk_at "rd"
          refine newO_gen fun tb H8 g8 s8 h8 => ?_
          have h8m := s8 _ _ h7m
          have h8w := s8 _ _ h7w
          have s08 : Same H H8 := Same.trans s07 s8
          walk_at "rd"
          refine ⟨x.d, tb, _, rfl, rfl, SqT.of h8, ?_⟩
          refine newI_gen fun pn dx H9 g9 s9 h9 => ?_
          have h9m := s9 _ _ h8m
          have h9w := s9 _ _ h8w
          walk_at "rd"
          refine putO_gen h9m fun H10 s10 h10 => ?_
          refine fin H10 pn dx tb _ (SL.same (Same.trans s08 s9) s10 gm) h10 (s10.at hmw.symm h9w) (s10.ins h9) (.inl (.inl (s10.tup (s9 _ _ h8)))) ?_
          exact KpS.trans (KpS.trans (KpS.trans k7 (KpS.same s8)) (KpS.same s9)) (KpS.sl s10)
    · rintro σ' H4 ⟨us, o3, o4, o5, rfl, s4, h4m, hul, h4w, hlk⟩
      walk_at "rd"
      exact k m us H4 s4 gm h4m ⟨hul, fun j hj => hlk j (by omega) hj⟩
end
end Z
namespace Z
open PySem PySem.Spec L2 ItX
local macro_rules | `(tactic| walk_at "ne") => `(tactic| first
  | with_reducible assumption
  | with_reducible exact Ne.symm (by assumption)
  | exact Frs.ne (by with_reducible assumption) (by walk_at "hp")
  | exact Frs.ne' (by with_reducible assumption) (by walk_at "hp"))
local macro_rules | `(tactic| walk_at "hp") => `(tactic| first
  | with_reducible assumption
  | (with_reducible refine Same.at (by assumption) ?_; walk_at "hp")
  | (with_reducible refine SL.tup (by assumption) ?_; walk_at "hp")
  | (with_reducible refine SL.at (by assumption) (by walk_at "ne") ?_; walk_at "hp"))
local macro_rules | `(tactic| walk_at "sz") => `(tactic| first
  | with_reducible assumption
  | exact Nat.le_of_ble_eq_true rfl
  | (refine sz_le ?_; omega)
  | (refine sz_lt ?_; omega)
  | decide +kernel)
local macro_rules | `(tactic| walk_at "at") => `(tactic| first
  | with_reducible assumption
  | with_reducible exact at0
  | with_reducible exact at1
  | with_reducible exact at2
  | with_reducible exact ixN0)
local macro_rules | `(tactic| walk_at "nn") => `(tactic| first
  | omega
  | decide
  | exact ⟨by decide, by decide⟩
  | exact ⟨by omega, by omega⟩
  | exact ⟨by omega, by omega, by omega, by omega⟩)
local macro_rules | `(tactic| walk_at "rdv") => `(tactic| first
  | (with_reducible refine add_int ?_)
  | (with_reducible refine sub_int ?_)
  | (with_reducible refine neg_int ?_)
  | ((with_reducible refine ix_tpl (xs := ?xs) (v := ?v) ?h1 ?h2 ?_); (case h1 => walk_at "hp"); (case h2 => walk_at "at"))
  | ((with_reducible refine ix_lst (xs := ?xs) (v := ?v) ?h1 ?h2 ?_); (case h1 => walk_at "hp"); (case h2 => walk_at "at"))
  | (with_reducible refine eq_int ?_)
  | (with_reducible refine ne_int ?_)
  | (with_reducible refine lt_int ?_)
  | (with_reducible refine le_int ?_)
  | (with_reducible refine gt_int ?_)
  | (with_reducible refine ge_int ?_)
  | (with_reducible refine eq_str ?_)
  | (with_reducible refine ne_str ?_)
  | (with_reducible refine eq_bl ?_)
  | (with_reducible refine ne_bl ?_)
  | ((with_reducible refine mod_int ?hc ?_); (case hc => walk_at "nn"))
  | ((with_reducible refine div_int ?hc ?_); (case hc => walk_at "nn"))
  | ((with_reducible refine mul_intR ?hc ?_); (case hc => exact ⟨by decide, by decide⟩))
  | ((with_reducible refine mul_intR ?hc ?_); (case hc => exact ⟨by omega, by omega⟩))
  | ((with_reducible refine mul_intL ?hc ?_); (case hc => exact ⟨by omega, by omega⟩))
  | ((with_reducible refine pow_int ?hc ?_); (case hc => exact ⟨by decide, by decide, by decide⟩))
  | ((with_reducible refine add_str ?hc ?_); (case hc => walk_at "sz"))
  | ((with_reducible refine add_lst (xs := ?xs) (ys := ?ys) ?h1 ?h2 ?hc ?_); (case h1 => walk_at "hp"); (case h2 => walk_at "hp"); (case hc => walk_at "sz"))
  | ((with_reducible refine sl_strU ?hc ?_); (case hc => walk_at "sz"))
  | ((with_reducible refine sl_lst (xs := ?xs) ?h1 ?_); (case h1 => walk_at "hp"))
  | (with_reducible refine is_bl ?_)
  | (with_reducible refine isnt_bl ?_)
  | (with_reducible refine is_non ?_)
  | (with_reducible refine isnt_non ?_))
local macro_rules | `(tactic| walk_at "rdc") => `(tactic| first
  | ((with_reducible refine len_lst (xs := ?xs) ?h1 ?_); (case h1 => walk_at "hp"))
  | ((with_reducible refine len_tup (xs := ?xs) ?h1 ?_); (case h1 => walk_at "hp"))
  | ((with_reducible refine len_str ?hc ?_); (case hc => walk_at "sz"))
  | (with_reducible refine int_int ?_)
  | (with_reducible refine max_int ?_)
  | (with_reducible refine min_int ?_)
  | (with_reducible refine abs_int ?_)
  | (with_reducible refine isi_ii ?_)
  | (with_reducible refine isi_ib ?_)
  | (with_reducible refine isi_ss ?_)
  | (with_reducible refine isi_bb ?_)
  | ((with_reducible refine isi_tt (xs := ?xs) ?h1 ?_); (case h1 => walk_at "hp"))
  | ((with_reducible refine isi_ll (xs := ?xs) ?h1 ?_); (case h1 => walk_at "hp"))
  | ((with_reducible refine list_lst (xs := ?xs) ?h1 ?_); (case h1 => walk_at "hp"))
  | ((with_reducible refine list_tup (xs := ?xs) ?h1 ?_); (case h1 => walk_at "hp"))
  | ((with_reducible refine tuple_lst (xs := ?xs) ?h1 ?_); (case h1 => walk_at "hp"))
  | ((with_reducible refine tuple_tup (xs := ?xs) ?h1 ?_); (case h1 => walk_at "hp"))
  | ((with_reducible refine append_lst (xs := ?xs) ?h1 ?hc ?_); (case h1 => walk_at "hp"); (case hc => walk_at "sz"))
  | ((with_reducible refine clear_lst (xs := ?xs) ?h1 ?_); (case h1 => walk_at "hp"))
  | ((with_reducible refine set_lst (xs := ?xs) (k := ?k) ?h1 ?h2 ?_); (case h1 => walk_at "hp"); (case h2 => walk_at "at")))
local macro_rules | `(tactic| walk_at "rd1") => `(tactic| first
  | ((with_reducible refine rVar (v := ?v) ?h ?_); (case h => exact rfl))
  | (with_reducible refine rC ?_)
  | (with_reducible refine rCons ?_)
  | (with_reducible refine rNil ?_)
  | (with_reducible refine rOp ?_)
  | (with_reducible refine rSeq ?_)
  | (with_reducible refine rAsgN ?_)
  | (with_reducible refine rAsgT ?_)
  | (with_reducible refine rAsgS ?_)
  | (with_reducible refine rTest ?_)
  | (with_reducible refine rBl ?_)
  | (with_reducible refine rBl' ?_)
  | (with_reducible refine rInt ?_)
  | (with_reducible refine rInt' ?_)
  | (with_reducible refine rCall ?_)
  | (with_reducible refine rCB ?_)
  | (with_reducible refine rRet ?_)
  | (with_reducible refine rDrop ?_)
  | (with_reducible refine rIfS ?_)
  | (with_reducible refine rTup ?_)
  | (with_reducible refine rLst ?_)
  | (with_reducible refine ⟨Nat.le_of_ble_eq_true rfl, ?_⟩)
  | (with_reducible refine rSl ?_)
  | (with_reducible refine rPart ?_)
  | (with_reducible refine rNoPart ?_)
  | (with_reducible refine rBM ?_)
  | (with_reducible refine rBM0 ?_)
  | ((with_reducible refine tyL (xs := ?xs) ?h1 ?_); (case h1 => walk_at "hp"))
  | (with_reducible refine rM1 ?_)
  | (with_reducible refine rM0 ?_)
  | (with_reducible refine rStr ?_)
  | (with_reducible refine rTru ?_)
  | (with_reducible refine tru_bl ?_)
  | (with_reducible refine tru_int ?_)
  | ((with_reducible refine tru_lst (xs := ?xs) ?h1 ?_); (case h1 => walk_at "hp"))
  | ((with_reducible refine tru_tup (xs := ?xs) ?h1 ?_); (case h1 => walk_at "hp"))
  | ((with_reducible refine tru_str ?hc ?_); (case hc => walk_at "sz"))
  | (with_reducible refine rAnd ?_)
  | (with_reducible refine rOr ?_)
  | (with_reducible refine rNot ?_)
  | (with_reducible refine rAndV ?_)
  | (with_reducible refine rOrV ?_)
  | (with_reducible refine rNotV ?_)
  | (with_reducible refine rIfE ?_)
  | (with_reducible refine rChain ?_)
  | (with_reducible refine rChain3 ?_)
  | (with_reducible refine ifT ?_)
  | (with_reducible refine ifF ?_)
  | (with_reducible refine ifNF ?_)
  | (with_reducible refine ifNT ?_)
  | (with_reducible refine rNext ?_)
  | (with_reducible refine rBrk ?_)
  | (with_reducible refine rCnt ?_)
  | (with_reducible refine rRetN ?_)
  | (with_reducible refine rForR1 ?_)
  | (with_reducible refine rForR2 ?_)
  | (with_reducible refine rForL ?_)
  | ((with_reducible refine rRg1 ?hb ?_); (case hb => walk_at "nn"))
  | ((with_reducible refine rRg2 ?hb ?_); (case hb => walk_at "nn"))
  | ((with_reducible refine rRf (xs := ?xs) ?h1 ?_); (case h1 => walk_at "hp"))
  | (with_reducible refine rLcR1 ?_)
  | (with_reducible refine rLcR2 ?_)
  | (with_reducible refine rLcL ?_)
  | (with_reducible refine gN ?_)
  | (with_reducible refine gNl ?_)
  | (with_reducible refine gC ?_)
  | ((with_reducible refine gT (xs := ?xs) ?h1 ?h2 ?_); (case h1 => walk_at "hp"); (case h2 => exact rfl))
  | (with_reducible refine rUn ?_)
  | walk_at "rdv"
  | walk_at "rdc")
local macro_rules | `(tactic| walk_at "rd") => `(tactic| repeat walk_at "rd1")

local macro_rules | `(tactic| walk_at "rd1") => `(tactic| first
  | (with_reducible refine rCallS ?_)
  | (with_reducible refine rRaise ?_)
  | (with_reducible refine rXf ?_)
  | (with_reducible refine rXi ?_)
  | (with_reducible refine rOst ?_)
  | (with_reducible refine rRevL ?_)
  | ((with_reducible refine revL_end (xs := ?xs) ?h1 ?_); (case h1 => walk_at "hp")))

local macro_rules | `(tactic| walk_at "rd1") => `(tactic| first
  | (with_reducible refine rForR3 ?_)
  | ((with_reducible refine rRgD ?hb ?_); (case hb => walk_at "nn"))
  | (with_reducible refine gS ?_))

local macro_rules | `(tactic| walk_at "rd1") => `(tactic| first
  | (with_reducible refine rFld ?_)
  | (with_reducible refine rSFld ?_)
  | (with_reducible refine rMake ?_)
  | (with_reducible refine rMeth ?_)
  | (with_reducible refine rForT ?_)
  | (with_reducible refine rLcT ?_)
  | (with_reducible refine rLcO ?_)
  | (with_reducible refine rForO ?_)
  | (with_reducible refine rLstY ?_)
  | ((with_reducible refine rRt (xs := ?xs) ?h1 ?_); (case h1 => walk_at "hp"))
  | ((with_reducible refine listY_lst (xs := ?xs) ?h1 ?_); (case h1 => walk_at "hp"))
  | ((with_reducible refine listY_tup (xs := ?xs) ?h1 ?_); (case h1 => walk_at "hp")))

local macro_rules | `(tactic| walk_at "hp") => `(tactic| first
  | (with_reducible refine SL.ins (by assumption) ?_; walk_at "hp"))
local macro_rules | `(tactic| walk_at "at") => `(tactic| first
  | with_reducible exact at3
  | with_reducible exact at4
  | with_reducible exact at5
  | with_reducible exact at6
  | with_reducible exact at7
  | with_reducible exact at8)
local macro_rules | `(tactic| walk_at "rd1") => `(tactic| first
  | (with_reducible refine rMkWK ?_)
  | (with_reducible refine rForS ?_)
  | (with_reducible refine rDGet ?_)
  | (with_reducible refine rDPut ?_)
  | (with_reducible refine rIts ?_)
  | (with_reducible refine rLstRg ?_)
  | ((with_reducible refine reverse_lst (xs := ?xs) ?h1 ?_); (case h1 => walk_at "hp"))
  | ((with_reducible refine extend_lst (xs := ?xs) (ys := ?ys) ?h1 ?h2 ?hc ?_); (case h1 => walk_at "hp"); (case h2 => walk_at "hp"); (case hc => walk_at "sz"))
  | ((with_reducible refine fN_kind (mg := ?mg) (C := ?C) (dx := ?dx) (d := ?d) (ns := ?ns) ?hu ?hp ?_); (case hu => with_reducible assumption); (case hp => walk_at "hp"))
  | ((with_reducible refine fN_symbol (mg := ?mg) (C := ?C) (dx := ?dx) (d := ?d) (ns := ?ns) ?hu ?hp ?_); (case hu => with_reducible assumption); (case hp => walk_at "hp"))
  | ((with_reducible refine fN_state (mg := ?mg) (C := ?C) (dx := ?dx) (d := ?d) (ns := ?ns) ?hu ?hp ?_); (case hu => with_reducible assumption); (case hp => walk_at "hp"))
  | ((with_reducible refine fN_lead (mg := ?mg) (C := ?C) (dx := ?dx) (d := ?d) (ns := ?ns) ?hu ?hp ?_); (case hu => with_reducible assumption); (case hp => walk_at "hp"))
  | ((with_reducible refine fN_width (mg := ?mg) (C := ?C) (dx := ?dx) (d := ?d) (ns := ?ns) ?hu ?hp ?_); (case hu => with_reducible assumption); (case hp => walk_at "hp"))
  | ((with_reducible refine fN_look (mg := ?mg) (C := ?C) (dx := ?dx) (d := ?d) (ns := ?ns) ?hu ?hp ?_); (case hu => with_reducible assumption); (case hp => walk_at "hp"))
  | ((with_reducible refine fN_alternative (mg := ?mg) (C := ?C) (dx := ?dx) (d := ?d) (ns := ?ns) ?hu ?hp ?_); (case hu => with_reducible assumption); (case hp => walk_at "hp"))
  | ((with_reducible refine fN_nodes (mg := ?mg) (C := ?C) (dx := ?dx) (d := ?d) (ns := ?ns) ?hu ?hp ?_); (case hu => with_reducible assumption); (case hp => walk_at "hp"))
  | ((with_reducible refine fN_popped (mg := ?mg) (C := ?C) (dx := ?dx) (d := ?d) (ns := ?ns) ?hu ?hp ?_); (case hu => with_reducible assumption); (case hp => walk_at "hp")))

local macro_rules | `(tactic| walk_at "rd1") => `(tactic| first
  | (with_reducible refine nin_sign ?_)
  | (with_reducible refine in_sign ?_)
  | (with_reducible refine rForET ?_)
  | (with_reducible refine rForEL ?_)
  | (with_reducible refine rLcRev ?_)
  | ((with_reducible refine ix_str (c := ?c) ?hl ?h2 ?_); (case hl => walk_at "sz"); (case h2 => with_reducible assumption))
  | (with_reducible refine rAsgU ?_)
  | ((with_reducible refine gUl (xs := ?xs) ?h1 ?h2 ?_); (case h1 => walk_at "hp"); (case h2 => exact rfl)))

/-! ## trees and rows, written -/
theorem lim_log {l n : Int} (h : lim l n) (hl : l = -1 ∨ l = 0) : n.natAbs.log2 < 1920 := by
  have h1 := h.1
  have h2 := h.2
  by_cases h0 : n.natAbs = 0
  · rw [h0]; decide
  · have : n.natAbs.log2 < 30 := (Nat.log2_lt h0).mpr (by show n.natAbs < 1073741824; omega)
    omega
theorem sum_len (zs : List Str) : (zs.map (·.length)).sum = ((zs.map TL.tl).flatten).length := by
  induction zs with
  | nil => rfl
  | cons z zs ih => rw [List.map_cons, List.sum_cons, ih, List.map_cons, List.flatten_cons, List.length_append, TL.len_tl]
theorem tl_joinS (y : Str) (zs : List Str) : TL.tl (Txt.join y zs) = TL.joinL (TL.tl y) (zs.map TL.tl) := by rw [TL.join_eq, TL.tl_join]
theorem tl_from1 {z : Str} {l : List Nat} {c : Nat} (h : TL.tl z = c :: l) : TL.tl (cutS z (some 1) none) = l := by
  rw [tl_cutS, cut_from (by decide), h]
  rfl
def wordsOf (d : Dt) : List Str := [d.k, d.s, Str.ofString (toString d.st), Str.ofString (toString d.ld), Str.ofString (toString d.wd), Str.ofString (toString d.lk), Str.ofString (toString d.al), Str.ofString (toString d.pp)]
theorem words_tl (d : Dt) : (wordsOf d).map TL.tl = hdW8 d := rfl
theorem words_join (d : Dt) : TL.tl (Txt.join (" " : Str) (wordsOf d)) = hdL d := by
  rw [tl_joinS, words_tl, show TL.tl (" " : Str) = [32] by decide +kernel]
  rfl
theorem words_sum {d : Dt} (h : DtOk d) : ((wordsOf d).map (·.length)).sum + (wordsOf d).length * (" " : Str).length ≤ 400 := by
  have h1 := numI_len h.st (.inl rfl)
  have h2 := numI_len h.ld (.inr rfl)
  have h3 := numI_len h.wd (.inr rfl)
  have h4 := numI_len h.lk (.inr rfl)
  have h5 := numI_len h.al (.inl rfl)
  have h6 := numI_len h.pp (.inr rfl)
  have h7 := h.k.1.2
  have h8 := h.s.1.2
  rw [TL.len_tl] at h7 h8
  rw [sum_len, words_tl, show (" " : Str).length = 1 by decide +kernel]
  show (([TL.tl d.k, TL.tl d.s, numI d.st, numI d.ld, numI d.wd, numI d.lk, numI d.al, numI d.pp] : List (List Nat)).flatten).length + 8 * 1 ≤ 400
  simp only [List.flatten_cons, List.flatten_nil, List.length_append, List.length_nil]
  omega
theorem strs_val (d : Dt) : (wordsOf d).map V.str = [V.str d.k, .str d.s] ++ [V.str (Str.ofString (toString d.st)), .str (Str.ofString (toString d.ld)), .str (Str.ofString (toString d.wd)), .str (Str.ofString (toString d.lk)), .str (Str.ofString (toString d.al)), .str (Str.ofString (toString d.pp))] := rfl
def nums6 (d : Dt) : List Int := [d.st, d.ld, d.wd, d.lk, d.al, d.pp]
theorem nums6_lim {d : Dt} (h : DtOk d) {i : Nat} {n : Int} (e : (nums6 d)[i]? = some n) : n.natAbs.log2 < 1920 := by
  have hl := (List.getElem?_eq_some_iff.mp e).1
  have hl' : i < 6 := hl
  have : i = 0 ∨ i = 1 ∨ i = 2 ∨ i = 3 ∨ i = 4 ∨ i = 5 := by omega
  rcases this with rfl | rfl | rfl | rfl | rfl | rfl <;> cases e
  · exact lim_log h.st (.inl rfl)
  · exact lim_log h.ld (.inr rfl)
  · exact lim_log h.wd (.inr rfl)
  · exact lim_log h.lk (.inr rfl)
  · exact lim_log h.al (.inl rfl)
  · exact lim_log h.pp (.inr rfl)
theorem str_take {ns : List Int} {k : Nat} {n : Int} (h : ns[k]? = some n) : ((ns.take k).map fun n => V.str (Str.ofString (toString n))) ++ [V.str (Str.ofString (toString n))] = (ns.take (k + 1)).map fun n => V.str (Str.ofString (toString n)) := by
  rw [List.take_succ, h, List.map_append]
  rfl
def sp_written_head (K : PySem.W.Frag) (C : Addr) : Sp := fun vs H Q _ => ∃ (v : V) (d : Dt) (k : Fo), vs = [v] ∧ NodeAt K C H v d k ∧ DtOk d ∧ ∀ (z : Str) (H' : Hp), Same H H' → TL.tl z = hdL d → Q (.str z) H'
theorem use_written_head {K : PySem.W.Frag} {C : Addr} {v : V} {d : Dt} {k : Fo} {H : Hp} {Q : VK} {E : XK} (hv : NodeAt K C H v d k) (hd : DtOk d) (h : ∀ (z : Str) (H' : Hp), Same H H' → TL.tl z = hdL d → Q (.str z) H') : sp_written_head K C [v] H Q E := ⟨v, d, k, rfl, hv, hd, h⟩
def sp_write_tree (K : PySem.W.Frag) (C : Addr) : Sp := fun vs H Q _ => ∃ (v : V) (d : Dt) (k : Fo), vs = [v] ∧ NodeAt K C H v d k ∧ DtOk d ∧ FoOk k ∧ k.cnt ≤ 1000000 ∧ (nodeW d k).length ≤ 9000000 ∧ ∀ (z : Str) (H' : Hp), Same H H' → TL.tl z = nodeW d k → Q (.str z) H'
theorem use_write_tree {K : PySem.W.Frag} {C : Addr} {v : V} {d : Dt} {k : Fo} {H : Hp} {Q : VK} {E : XK} (hv : NodeAt K C H v d k) (hd : DtOk d) (hk : FoOk k) (hl : k.cnt ≤ 1000000) (hw : (nodeW d k).length ≤ 9000000) (h : ∀ (z : Str) (H' : Hp), Same H H' → TL.tl z = nodeW d k → Q (.str z) H') : sp_write_tree K C [v] H Q E := ⟨v, d, k, rfl, hv, hd, hk, hl, hw, h⟩
def sp_law_rows_text : Sp := fun vs H Q _ => ∃ (p : Addr) (d : Dt) (k : Fo), vs = [.ref p] ∧ RowsIn H p (⟨0, d⟩ :: rowsF 1 k) ∧ (∀ x ∈ (⟨0, d⟩ :: rowsF 1 k : List Rw), DtOk x.d) ∧ k.cnt ≤ 20000 ∧ ∀ (z : Str) (H' : Hp), Same H H' → TL.tl z = nodeW d k → Q (.str z) H'
theorem use_rows_text {p : Addr} {d : Dt} {k : Fo} {H : Hp} {Q : VK} {E : XK} (hp : RowsIn H p (⟨0, d⟩ :: rowsF 1 k)) (hok : ∀ x ∈ (⟨0, d⟩ :: rowsF 1 k : List Rw), DtOk x.d) (hl : k.cnt ≤ 20000) (h : ∀ (z : Str) (H' : Hp), Same H H' → TL.tl z = nodeW d k → Q (.str z) H') : sp_law_rows_text [.ref p] H Q E := ⟨p, d, k, rfl, hp, hok, hl, h⟩
/-- what waits to be written: a tree, or what closes it -/
abbrev Wt := (Dt × Fo) × Bool
def WtE (K : PySem.W.Frag) (C : Addr) (H : Hp) (v : V) (e : Wt) : Prop := ∃ (t : Addr) (u : V), v = .ref t ∧ H t = some (.tup [u, .bl e.2]) ∧ NodeAt K C H u e.1.1 e.1.2
theorem WtE.kp {K : PySem.W.Frag} {C : Addr} {H H' : Hp} (s : KpS H H') {v : V} {e : Wt} (h : WtE K C H v e) : WtE K C H' v e := let ⟨t, u, h1, h2, h3⟩ := h; ⟨t, u, h1, s.tp _ _ h2, h3.kp s⟩
def wtT (e : Wt) : List Nat := if e.2 = true then [41] else 32 :: nodeW e.1.1 e.1.2
def wtN (e : Wt) : Nat := if e.2 = true then 1 else 2 * (1 + e.1.2.cnt)
theorem nodes_fks {K : PySem.W.Frag} {C : Addr} {H : Hp} : ∀ {f : Fo} {us : List V}, NodesAt K C H us f → Paired (NdAt K C H) us (fks f)
  | .nil, us, h => by rw [show us = [] from h]; exact .nil
  | .cons d k r, us, h => by
    obtain ⟨p, dx, q, ws, t, rfl, h1, h2, h3, h4⟩ := h
    exact .cons ⟨p, dx, q, ws, rfl, h1, h2, h3⟩ (nodes_fks h4)
theorem fks_ok : ∀ {f : Fo}, FoOk f → ∀ e ∈ fks f, DtOk e.1 ∧ FoOk e.2
  | .nil, _, e, h => nomatch h
  | .cons d k r, h, e, he => by
    rcases List.mem_cons.mp he with rfl | he
    · exact ⟨h.1, h.2.1⟩
    · exact fks_ok h.2.2 e he
theorem wtN_sum (ks : Ks) : ((ks.map fun e => (⟨e, false⟩ : Wt)).map wtN).sum = 2 * ((ks.map fun e => 1 + e.2.cnt).sum) := by
  induction ks with
  | nil => rfl
  | cons e ks ih =>
    rw [List.map_cons, List.map_cons, List.sum_cons, ih, List.map_cons, List.sum_cons]
    show 2 * (1 + e.2.cnt) + _ = _
    omega
theorem wtN_len (es : List Wt) : es.length ≤ (es.map wtN).sum := by
  induction es with
  | nil => exact Nat.zero_le _
  | cons e es ih =>
    rw [List.map_cons, List.sum_cons, List.length_cons]
    have : 1 ≤ wtN e := by unfold wtN; split <;> omega
    omega
theorem wtT_flat (ks : Ks) : (ks.map fun e => (⟨e, false⟩ : Wt)).flatMap wtT = ks.flatMap fun e => 32 :: nodeW e.1 e.2 := by
  induction ks with
  | nil => rfl
  | cons e ks ih => rw [List.map_cons, List.flatMap_cons, ih, List.flatMap_cons]; rfl
theorem fks_len (f : Fo) : (fks f).length ≤ f.cnt := by
  have h := fks_cnt f
  have : ∀ ks : Ks, ks.length ≤ (ks.map fun e => 1 + e.2.cnt).sum := by
    intro ks
    induction ks with
    | nil => exact Nat.zero_le _
    | cons e ks ih => rw [List.map_cons, List.sum_cons, List.length_cons]; omega
  rw [← h]
  exact this _
section
variable {P : Program} {w : World} {K : PySem.W.Frag} {mg : Str → Option Value} {base : Heap} {aE aNode aNil : Addr}
theorem cal_written_head {f : Addr} {fd : FuncData} (T : Txt mg) (FD : C8.Def K mg "written_head" s_written_head f fd) (b : Binds K fd ["node"] [])
    (u_Node : F_Node K mg aNode) : C8.Cal P w K mg base 1 "written_head" (sp_written_head K aNode) [] := by
  refine C8.cal0 FD b .nil sc_written_head (fun vs H Q E h => ?_) (fun cdv A outer s H vs Q E hr h => ?_)
  · obtain ⟨v, d, k, rfl, _⟩ := h; rfl
  · obtain ⟨v, d, k, rfl, ⟨p, dx, q, us, rfl, hp, hq, hus⟩, hd, kk⟩ := h
    refine ⟨_, (pss_cons (ps_set (i := 1) sc_written_head.nd rfl (.inl rfl) (pe_lst (pa_cons (pe_fldK (K := K) (pv 0) rfl) (pa_cons (pe_fldK (K := K) (pv 0) rfl) (pa_cons (pe_fldK (K := K) (pv 0) rfl) (pa_cons (pe_fldK (K := K) (pv 0) rfl) (pa_cons (pe_fldK (K := K) (pv 0) rfl) (pa_cons (pe_fldK (K := K) (pv 0) rfl) pa_nil))))))))
  (pss_one (ps_ret (pe_m1 F.slot_str_join F.type_str_join (mt_joinK K) pe_str (pe_op (op_addK K) (pe_lst (pa_cons (pe_fldK (K := K) (pv 0) rfl) (pa_cons (pe_fldK (K := K) (pv 0) rfl) pa_nil))) (pe_lc (own := [("number", 2)]) rfl sc_written_head.nd (pi_listK K (pv 1)) (blkOk_by (own := [("number", 2)]) (N := ["node", "numbers", "number"]) (sc := C8.fnScope s_written_head) (by decide +kernel)) (fun _ _ _ _ _ => (pg_name (i := 2) sc_written_head.nd rfl (.inl rfl))) (fun _ _ _ _ _ => pts_nil) (fun _ _ _ _ _ => (pe_callTy (call_strU (hu64 hr)) (by rfl) T.n_str (by decide +kernel) (pa_cons (pv 2) pa_nil))))))))), ?_⟩
    show (_ : TS) _ [some (.ref p), none, none] H
    walk_at "rd"
    refine newO_gen fun l H1 g1 s1 h1 => ?_
    have hp1 := s1 _ _ hp
    walk_at "rd"
    refine newO_gen fun l2 H2 g2 s2 h2 => ?_
    have h1' := s2 _ _ h1
    walk_at "rd"
    refine compL_pure h1' (fun acc _ => acc = ((nums6 d).take acc.length).map fun n => V.str (Str.ofString (toString n))) (fun _ _ => rfl) ?_ ?_
    · intro acc x Ha D c hx pa
      have hx' : ∃ n, x = .int n ∧ (nums6 d)[acc.length]? = some n := by
        have e : [V.int d.st, V.int d.ld, V.int d.wd, V.int d.lk, V.int d.al, V.int d.pp] = (nums6 d).map V.int := rfl
        rw [e, List.getElem?_map] at hx
        obtain ⟨n, hn, rfl⟩ := Option.map_eq_some_iff.mp hx
        exact ⟨n, rfl, hn⟩
      obtain ⟨n, rfl, hn⟩ := hx'
      walk_at "rd"
      refine st_int (nums6_lim hd hn) ?_
      refine pD_of c (by show (6 : Nat) < _; decide) (Same.refl _) fun Hb sb => ?_
      rw [List.length_append, show acc.length + [V.str (Str.ofString (toString n))].length = acc.length + 1 from rfl, ← str_take hn, ← pa]
    · intro acc H3 D hal pa s3 h3 f3
      replace hal : acc.length = 6 := hal
      rw [hal] at pa
      replace pa : acc = [V.str (Str.ofString (toString d.st)), .str (Str.ofString (toString d.ld)), .str (Str.ofString (toString d.wd)), .str (Str.ofString (toString d.lk)), .str (Str.ofString (toString d.al)), .str (Str.ofString (toString d.pp))] := pa
      subst pa
      have h2' := s3 _ _ h2
      refine add_lst h2' h3 (sz_le (by show 2 + 6 ≤ 16777216; decide)) ?_
      refine newO_gen fun l3 H4 g4 s4 h4 => ?_
      rw [← strs_val] at h4
      walk_at "rd"
      refine join_lst h4 (by have := words_sum hd; omega) ?_
      exact kk _ H4 (Same.trans (Same.trans s1 s2) (Same.trans s3 s4)) (words_join d)
theorem cal_write_tree {f : Addr} {fd : FuncData} (T : Txt mg) (FD : C8.Def K mg "write_tree" s_write_tree f fd) (b : Binds K fd ["node"] [])
    (c_written_head : C8.Cal P w K mg base 1 "written_head" (sp_written_head K aNode) [])
    (u_Node : F_Node K mg aNode) : C8.Cal P w K mg base 2 "write_tree" (sp_write_tree K aNode) [] := by
  refine C8.cal0 FD b .nil sc_write_tree (fun vs H Q E h => ?_) (fun cdv A outer s H vs Q E hr h => ?_)
  · obtain ⟨v, d, k, rfl, _⟩ := h; rfl
  · obtain ⟨v, d, k, rfl, hv, hd, hk, hl, hw, kk⟩ := h
    refine ⟨_, (pss_cons (ps_set (i := 1) sc_write_tree.nd rfl (.inl rfl) (pe_lst pa_nil))
  (pss_cons (ps_set (i := 2) sc_write_tree.nd rfl (.inl rfl) (pe_lst (pa_cons (pe_tup (pa_cons (pv 0) (pa_cons pe_bl pa_nil))) pa_nil)))
  (pss_cons (ps_while PassesOwn.never (pt_truK K (pv 2) (by intro _; rfl)) (pss_cons (ps_asg (pe_bm0 F.plainAttrs_list F.slot_list_pop F.type_list_pop mt_pop (pv 2)) (pg_tup rfl (pgs_cons (pg_name (i := 3) sc_write_tree.nd rfl (.inl rfl)) (pgs_cons (pg_name (i := 4) sc_write_tree.nd rfl (.inl rfl)) pgs_nil))))
  (pss_one (ps_if (pt_truK K (pv 4) (by intro _; rfl)) (pss_one (ps_expr (pe_bm F.plainAttrs_list F.slot_list_append F.type_list_append mt_append (pv 1) (pa_cons pe_str pa_nil)))) (pss_cons (ps_expr (pe_bm F.plainAttrs_list F.slot_list_append F.type_list_append mt_append (pv 1) (pa_cons (pe_op (op_addK K) pe_str (C8.pe_c c_written_head hr (by decide) (by rfl) (pa_cons (pv 3) pa_nil))) pa_nil)))
  (pss_cons (ps_expr (pe_bm F.plainAttrs_list F.slot_list_append F.type_list_append mt_append (pv 2) (pa_cons (pe_tup (pa_cons (pv 3) (pa_cons pe_bl pa_nil))) pa_nil)))
  (pss_one (ps_expr (pe_bm F.plainAttrs_list F.slot_list_extend F.type_list_extend mt_extend (pv 2) (pa_cons (pe_lc (own := [("child", 5)]) rfl sc_write_tree.nd (pi_revAK (K := K) (by rfl) T.n_reversed (pe_fldK (K := K) (pv 3) rfl)) (blkOk_by (own := [("child", 5)]) (N := ["node", "pieces", "todo", "here", "complete", "child"]) (sc := C8.fnScope s_write_tree) (by decide +kernel)) (fun _ _ _ _ _ => (pg_name (i := 5) sc_write_tree.nd rfl (.inl rfl))) (fun _ _ _ _ _ => pts_nil) (fun _ _ _ _ _ => (pe_tup (pa_cons (pv 5) (pa_cons pe_bl pa_nil))))) pa_nil))))))))))
  (pss_one (ps_ret (pe_slice (sl_K K) (pe_m1 F.slot_str_join F.type_str_join (mt_joinK K) pe_str (pv 1)) (po_some pe_int) po_none)))))), ?_⟩
    show (_ : TS) _ [some v, none, none, none, none, none] H
    walk_at "rd"
    refine newO_gen fun pc H1 g1 s1 h1 => ?_
    walk_at "rd"
    refine newO_gen fun t0 H2 g2 s2 h2 => ?_
    walk_at "rd"
    refine newO_gen fun td H3 g3 s3 h3 => ?_
    have s03 : Same H H3 := Same.trans (Same.trans s1 s2) s3
    have gtd : Frs H td := Same.fre (Same.trans s1 s2) g3
    have hpt : pc ≠ td := g3.ne (s2 _ _ h1)
    have h3p := s3 _ _ (s2 _ _ h1)
    walk_at "rd"
    refine whileC (fun m σ' H' => ∃ (zs : List Str) (S : List V) (es : List Wt) (o3 o4 : Option V), σ' = [some v, some (.ref pc), some (.ref td), o3, o4, none] ∧ Same H H' ∧ H' pc = some (.lst (zs.map V.str)) ∧ H' td = some (.lst S.reverse) ∧ Paired (WtE K aNode H') S es ∧ (∀ e ∈ es, DtOk e.1.1 ∧ FoOk e.1.2) ∧
        (zs.map TL.tl).flatten ++ es.flatMap wtT = 32 :: nodeW d k ∧ zs.length + (es.map wtN).sum ≤ 2 * (1 + k.cnt) ∧ m = (es.map wtN).sum)
      (fun σ' H' => ∃ (zs : List Str) (o3 o4 : Option V), σ' = [some v, some (.ref pc), some (.ref td), o3, o4, none] ∧ Same H H' ∧ H' pc = some (.lst (zs.map V.str)) ∧ (zs.map TL.tl).flatten = 32 :: nodeW d k ∧ zs.length ≤ 2 * (1 + k.cnt)) (m := 2 * (1 + k.cnt)) ?_ ?_ ?_
    · refine ⟨[], [.ref t0], [((d, k), false)], none, none, rfl, s03, h3p, h3, .cons ⟨t0, v, rfl, s3 _ _ h2, hv.kp (KpS.same s03)⟩ .nil, fun e he => ?_, ?_, ?_, ?_⟩
      · rw [List.mem_singleton.mp he]; exact ⟨hd, hk⟩
      · show [] ++ ((32 :: nodeW d k) ++ []) = _
        rw [List.append_nil, List.nil_append]
      · show 0 + (2 * (1 + k.cnt) + 0) ≤ _; omega
      · show _ = 2 * (1 + k.cnt) + 0; omega
    · rintro nx' hnx m σ' H4 ⟨zs, S, es, o3, o4, rfl, s04, h4p, h4t, hS, hok, hE, hN, rfl⟩
      have hzl : (zs.map V.str).length = zs.length := List.length_map ..
      cases hS with
      | nil =>
        replace h4t : H4 td = some (.lst []) := h4t
        walk_at "rd"
        rw [show (!(([] : List V)).isEmpty) = false from rfl]
        walk_at "rd"
        refine hnx _ _ ⟨zs, _, _, rfl, s04, h4p, ?_, by omega⟩
        rw [← hE]
        show _ = _ ++ []
        rw [List.append_nil]
      | @cons x e S' es' hx hS' =>
        obtain ⟨⟨de, ke⟩, b⟩ := e
        obtain ⟨t, u, rfl, ht, hu⟩ := hx
        obtain ⟨od, of⟩ := hok _ (List.mem_cons_self ..)
        have hok' : ∀ e ∈ es', DtOk e.1.1 ∧ FoOk e.1.2 := fun e he => hok e (List.mem_cons_of_mem _ he)
        have hSl := Paired.len hS'
        have hwl := wtN_len es'
        rw [List.reverse_cons] at h4t
        rw [List.map_cons, List.sum_cons] at hN
        rw [List.map_cons, List.sum_cons]
        rw [List.flatMap_cons] at hE
        have hlast : (S'.reverse ++ [V.ref t])[(S'.reverse ++ [V.ref t]).length - 1]? = some (V.ref t) := by
          rw [List.length_append, List.getElem?_append_right (by show S'.reverse.length ≤ S'.reverse.length + 1 - 1; omega)]
          rw [show S'.reverse.length + [V.ref t].length - 1 - S'.reverse.length = 0 by show S'.reverse.length + 1 - 1 - _ = 0; omega]
          rfl
        walk_at "rd"
        rw [show (!(S'.reverse ++ [V.ref t]).isEmpty) = true by simp]
        refine ifT (wGo ?_)
        walk_at "rd"
        refine pop_lst h4t hlast ?_
        refine putO_gen h4t fun H5 s5 h5t => ?_
        rw [List.dropLast_concat] at h5t
        have s05 : Same H H5 := SL.same s04 s5 gtd
        have k5 : KpS H4 H5 := KpS.sl s5
        have ht5 := s5.tup ht
        have h5p := s5.at hpt h4p
        have hS5 : Paired (WtE K aNode H5) S' es' := Paired.imp (fun _ _ r => r.kp k5) hS'
        have hrl : (S'.reverse : List V).length = es'.length := by rw [List.length_reverse, hSl]
        walk_at "rd"
        cases b with
        | true =>
          replace hN : zs.length + (1 + (es'.map wtN).sum) ≤ 2 * (1 + k.cnt) := hN
          walk_at "rd"
          refine putO_gen h5p fun H6 s6 h6p => ?_
          refine ⟨(es'.map wtN).sum, by show _ < 1 + _; omega, zs ++ [(")" : Str)], S', es', _, _, rfl, SL.same s05 s6 g1, by rw [h6p, List.map_append]; rfl, s6.at hpt.symm h5t, Paired.imp (fun _ _ r => r.kp (KpS.sl s6)) hS5, hok', ?_, by rw [List.length_append]; show zs.length + 1 + _ ≤ _; omega, rfl⟩
          rw [← hE, List.map_append, List.flatten_append]
          have e41 : (([(")" : Str)].map TL.tl).flatten) = [41] := by decide +kernel
          rw [e41]
          show _ ++ [41] ++ _ = _ ++ ([41] ++ _)
          rw [List.append_assoc]
        | false =>
          replace hN : zs.length + (2 * (1 + ke.cnt) + (es'.map wtN).sum) ≤ 2 * (1 + k.cnt) := hN
          have hu5 := hu.kp k5
          walk_at "rd"
          refine use_written_head hu5 od fun z H6 s6 hz => ?_
          have hzlen := hdL_len od
          rw [← hz, ← TL.len_tl] at hzlen
          have hu6 := hu5.kp (KpS.same s6)
          have h6p := s6 _ _ h5p
          have h6t := s6 _ _ h5t
          have e2 : (" (" : Str).length = 2 := by decide +kernel
          walk_at "rd"
          refine putO_gen h6p fun H7 s7 h7p => ?_
          have s07 : Same H H7 := SL.same (Same.trans s05 s6) s7 g1
          have h7t := s7.at hpt.symm h6t
          have hu7 := hu6.kp (KpS.sl s7)
          walk_at "rd"
          refine newO_gen fun tq H8 g8 s8 h8 => ?_
          have h8t := s8 _ _ h7t
          walk_at "rd"
          refine putO_gen h8t fun H9 s9 h9t => ?_
          have s09 : Same H H9 := SL.same (Same.trans s07 s8) s9 gtd
          have hu9 := (hu7.kp (KpS.same s8)).kp (KpS.sl s9)
          obtain ⟨pn, dn, qn, un, rfl, hpn, hqn, hun⟩ := hu9
          have hks : Paired (NdAt K aNode H9) un (fks ke) := nodes_fks hun
          have hul := Paired.len hks
          have hkl := fks_len ke
          walk_at "rd"
          refine rLcRevT hqn ?_
          refine compVT_pure hqn (fun acc H' => Paired (WtE K aNode H') acc ((((fks ke).reverse.map fun e => (⟨e, false⟩ : Wt))).take acc.length)) (fun _ _ => .nil) ?_ ?_
          · intro acc x Ha D c hx pa
            have hlt := c.lt
            walk_at "rd"
            refine newO_gen fun tn Hb gb sb hb => ?_
            refine pD_of c (by omega) sb fun Hc sc => ?_
            obtain ⟨e1, he1, hn1⟩ := Paired.at hks hx
            have hr : ((fks ke).reverse.map fun e => (⟨e, false⟩ : Wt))[acc.length]? = some ⟨e1, false⟩ := by
              rw [List.getElem?_map, List.getElem?_reverse (by omega), show (fks ke).length - 1 - acc.length = un.length - 1 - acc.length by omega, he1]
              rfl
            rw [List.length_append, show acc.length + [V.ref tn].length = acc.length + 1 from rfl, List.take_succ, hr]
            have kc : KpS Ha Hc := KpS.trans (KpS.same sb) (KpS.sl sc)
            exact Paired.snoc (Paired.imp (fun _ _ r => r.kp kc) pa) ⟨tn, x, rfl, sc.tup hb, NodeAt.kp (KpS.trans (KpS.same c.since) kc) hn1⟩
          · intro acc Ha D hal pa sa ha fa
            rw [hal, List.take_of_length_le (by rw [List.length_map, List.length_reverse]; omega)] at pa
            have hat := sa _ _ h9t
            have hlen2 : (S'.reverse ++ [V.ref tq]).length = es'.length + 1 := by rw [List.length_append, hrl]; rfl
            walk_at "rd"
            refine putO_gen hat fun Hb sb hb => ?_
            have kb : KpS Ha Hb := KpS.sl sb
            have ka : KpS H9 Ha := KpS.same sa
            have k79 : KpS H5 H9 := KpS.trans (KpS.trans (KpS.trans (KpS.same s6) (KpS.sl s7)) (KpS.same s8)) (KpS.sl s9)
            have pr := Paired.rev (Paired.imp (fun _ _ r => r.kp kb) pa)
            rw [← List.map_reverse, List.reverse_reverse] at pr
            have hsm : (((fks ke).map fun e => (⟨e, false⟩ : Wt)).map wtN).sum = 2 * ke.cnt := by rw [wtN_sum, fks_cnt]
            have hpcD : H9 pc = some (.lst (zs.map V.str ++ [.str (" (" ++ z)])) := s9.at hpt (s8 _ _ h7p)
            refine ⟨_, ?_, zs ++ [(" (" ++ z : Str)], acc.reverse ++ .ref tq :: S', ((fks ke).map fun e => (⟨e, false⟩ : Wt)) ++ ((de, ke), true) :: es', _, _, rfl, SL.same (Same.trans s09 sa) sb gtd, ?_, ?_, Paired.app pr (.cons ⟨tq, .ref pn, rfl, sb.tup (sa _ _ (s9.tup h8)), NodeAt.kp (KpS.trans ka kb) ⟨pn, dn, qn, un, rfl, hpn, hqn, hun⟩⟩ (Paired.imp (fun _ _ r => r.kp (KpS.trans k79 (KpS.trans ka kb))) hS5)), ?_, ?_, ?_, rfl⟩
            · rw [List.map_append, List.sum_append, hsm, List.map_cons, List.sum_cons]
              show 2 * ke.cnt + (1 + _) < 2 * (1 + ke.cnt) + _
              omega
            · rw [List.map_append]
              exact sb.at hpt (sa _ _ hpcD)
            · rw [hb, List.reverse_append, List.reverse_reverse, List.reverse_cons]
            · intro e he
              rcases List.mem_append.mp he with he | he
              · obtain ⟨e', he', rfl⟩ := List.mem_map.mp he
                exact fks_ok of e' he'
              · rcases List.mem_cons.mp he with rfl | he
                · exact ⟨od, of⟩
                · exact hok' e he
            · rw [← hE, List.map_append, List.flatten_append, List.flatMap_append, wtT_flat, ← kidsW_fks, List.flatMap_cons]
              have e1 : (([(" (" ++ z : Str)].map TL.tl).flatten) = 32 :: 40 :: hdL de := by
                show TL.tl (" (" ++ z) ++ [] = _
                rw [List.append_nil, TL.tl_append, hz, show TL.tl (" (" : Str) = [32, 40] by decide +kernel]
                rfl
              rw [e1]
              show (zs.map TL.tl).flatten ++ (32 :: 40 :: hdL de) ++ (kidsW ke ++ ([41] ++ es'.flatMap wtT)) = (zs.map TL.tl).flatten ++ ((32 :: 40 :: (hdL de ++ (kidsW ke ++ [41]))) ++ es'.flatMap wtT)
              simp
            · rw [List.length_append, List.map_append, List.sum_append, hsm, List.map_cons, List.sum_cons]
              show zs.length + 1 + (2 * ke.cnt + (1 + _)) ≤ _
              omega
    · rintro σ' H4 ⟨zs, o3, o4, rfl, s04, h4p, hE, hN⟩
      have hjl : (zs.map (·.length)).sum + zs.length * ("" : Str).length ≤ 16777216 := by
        rw [sum_len, hE, List.length_cons, show ("" : Str).length = 0 by decide +kernel]
        omega
      walk_at "rd"
      refine join_lst h4p hjl ?_
      have hjt : TL.tl (Txt.join ("" : Str) zs) = 32 :: nodeW d k := by rw [show ("" : Str) = Str.empty by rfl, tl_join0, hE]
      have hjl2 : (Txt.join ("" : Str) zs).length ≤ sizeLine := sz_le (by rw [TL.len_tl, hjt, List.length_cons]; omega)
      walk_at "rd"
      exact kk _ _ s04 (tl_from1 hjt)
theorem cal_law_text {f : Addr} {fd : FuncData} (T : Txt mg) (FD : C8.Def K mg "_law_text" s_law_text f fd) (b : Binds K fd ["rows"] []) : C8.Cal P w K mg base 1 "_law_text" sp_law_rows_text [] := by
  refine C8.cal0 FD b .nil sc_law_text (fun vs H Q E h => ?_) (fun cdv A outer s H vs Q E hr h => ?_)
  · obtain ⟨p, d, k, rfl, _⟩ := h; rfl
  · obtain ⟨p, d, k, rfl, ⟨vs, hp, hrw⟩, hok, hl, kk⟩ := h
    refine ⟨_, (pss_cons (ps_set (i := 1) sc_law_text.nd rfl (.inl rfl) (pe_lst pa_nil))
  (pss_cons (ps_set (i := 2) sc_law_text.nd rfl (.inl rfl) (pe_un un_neg pe_int))
  (pss_cons (ps_for PassesOwn.never rfl (pi_listK K (pv 0)) (pg_name (i := 3) sc_law_text.nd rfl (.inr rfl)) (pss_cons (ps_set (i := 4) sc_law_text.nd rfl (.inl rfl) (pe_op (op_addK K) (pe_lst (pa_cons (pe_ix (ix_K K) (pv 3) pe_int (fun _ _ => rfl)) (pa_cons (pe_ix (ix_K K) (pv 3) pe_int (fun _ _ => rfl)) pa_nil))) (pe_lc (own := [("k", 5)]) rfl sc_law_text.nd (pi_range2 rfl T.n_range (pa_cons pe_int (pa_cons pe_int pa_nil))) (blkOk_by (own := [("k", 5)]) (N := ["rows", "pieces", "last", "row", "words", "k"]) (sc := C8.fnScope s_law_text) (by decide +kernel)) (fun _ _ _ _ _ => (pg_name (i := 5) sc_law_text.nd rfl (.inl rfl))) (fun _ _ _ _ _ => pts_nil) (fun _ _ _ _ _ => (pe_callTy (call_strU (hu64 hr)) (by rfl) T.n_str (by decide +kernel) (pa_cons (pe_ix (ix_K K) (pv 3) (pv 5) (fun _ _ => rfl)) pa_nil))))))
  (pss_cons (ps_expr (pe_bm F.plainAttrs_list F.slot_list_append F.type_list_append mt_append (pv 1) (pa_cons (pe_op (op_addK K) (pe_op (op_addK K) (pe_op op_repS pe_str (pe_op op_subU (pe_op (op_addK K) (pv 2) pe_int) (pe_ix (ix_K K) (pv 3) pe_int (fun _ _ => rfl)))) pe_str) (pe_m1 F.slot_str_join F.type_str_join (mt_joinK K) pe_str (pv 4))) pa_nil)))
  (pss_one (ps_set (i := 2) sc_law_text.nd rfl (.inl rfl) (pe_ix (ix_K K) (pv 3) pe_int (fun _ _ => rfl)))))))
  (pss_one (ps_ret (pe_op (op_addK K) (pe_slice (sl_K K) (pe_m1 F.slot_str_join F.type_str_join (mt_joinK K) pe_str (pv 1)) (po_some pe_int) po_none) (pe_op op_repS pe_str (pe_op (op_addK K) (pv 2) pe_int)))))))), ?_⟩
    show (_ : TS) _ [some (.ref p), none, none, none, none, none] H
    have hvl := Paired.len hrw
    rw [List.length_cons, rowsF_len] at hvl
    have hst : Stp 0 (-1) (⟨0, d⟩ :: rowsF 1 k) := by
      refine ⟨Int.le_refl _, by show (0 : Int) ≤ -1 + 1; decide, ?_⟩
      exact (rows_stp (L := 1) (f := k)).up fun x hx => by have := rowsF_low _ _ x hx; omega
    generalize hrows : (⟨0, d⟩ :: rowsF 1 k : List Rw) = rows at hrw hst hok
    have hT := wT_tree d k
    rw [hrows] at hT
    have hrl := Paired.len hrw
    have bnd : ∀ i, i ≤ rows.length → ((pT (-1) (rows.take i)).length : Int) + lastL (-1) (rows.take i) ≤ -1 + 303 * i ∧ -1 ≤ lastL (-1) (rows.take i) := fun i hi => by
      have h1 : Stp 0 (-1) (rows.take i) := by
        have h2 := hst
        rw [← List.take_append_drop i rows] at h2
        exact (stp_app.mp h2).1
      have h3 := pT_len h1 (by decide) (fun x hx => hok x (List.mem_of_mem_take hx))
      rw [List.length_take, Nat.min_eq_left hi] at h3
      exact h3
    walk_at "rd"
    refine newO_gen fun pc H1 g1 s1 h1 => ?_
    have hp1 := s1 _ _ hp
    walk_at "rd"
    refine loopL_by (xs := vs) (fun i σ' H' => ∃ (zs : List Str) (o3 o4 : Option V), σ' = [some (.ref p), some (.ref pc), some (.int (lastL (-1) (rows.take i))), o3, o4, none] ∧ Same H H' ∧ H' pc = some (.lst (zs.map V.str)) ∧ (zs.map TL.tl).flatten = pT (-1) (rows.take i) ∧ zs.length = i) ?_ ?_ ?_ ?_
    · exact ⟨[], none, none, by rw [List.take_zero]; rfl, s1, h1, by rw [List.take_zero]; rfl, rfl⟩
    · rintro i σ' H' _ ⟨zs, o3, o4, _, s', _⟩
      exact s' _ _ hp
    · rintro i x σ' H2 hx ⟨zs, o3, o4, rfl, s02, h2, hE, hzn⟩
      obtain ⟨y, hy, px, rfl, hpx⟩ := Paired.at hrw hx
      have hpx2 : H2 px = some (.tup [.int y.lv, .str y.d.k, .str y.d.s, .int y.d.st, .int y.d.ld, .int y.d.wd, .int y.d.lk, .int y.d.al, .int y.d.pp]) := s02 _ _ hpx
      have hil : i < rows.length := (List.getElem?_eq_some_iff.mp hy).1
      have hyo := hok y (List.mem_of_getElem? hy)
      obtain ⟨b1, b2⟩ := bnd i (by omega)
      obtain ⟨b3, b4⟩ := bnd (i + 1) (by omega)
      have hts : rows.take (i + 1) = rows.take i ++ [y] := by rw [List.take_succ, hy]; rfl
      have hlv0 : 0 ≤ y.lv := hst.low y (List.mem_of_getElem? hy)
      have hlv1 : y.lv ≤ lastL (-1) (rows.take i) + 1 := by
        have h2 := hst
        rw [← List.take_append_drop i rows] at h2
        have h3 := (stp_app.mp h2).2
        cases hd : rows.drop i with
        | nil => rw [← List.head?_drop, hd] at hy; cases hy
        | cons b u =>
          rw [← List.head?_drop, hd] at hy
          cases hy
          rw [hd] at h3
          exact h3.2.1
      walk_at "rd"
      refine newO_gen fun l1 H3 g3 s3 h3 => ?_
      walk_at "rd"
      have hpx3 := s3 _ _ hpx2
      refine compR_pure (fun acc _ => acc = ((nums6 y.d).take acc.length).map fun n => V.str (Str.ofString (toString n))) (fun _ _ => rfl) ?_ ?_
      · intro acc Ha D c pa
        have hlt : acc.length < 6 := c.lt
        obtain ⟨n, hn⟩ : ∃ n, (nums6 y.d)[acc.length]? = some n := ⟨_, List.getElem?_eq_getElem (show acc.length < (nums6 y.d).length from hlt)⟩
        have hpxa := c.since _ _ hpx3
        have hat : atI [V.int y.lv, .str y.d.k, .str y.d.s, .int y.d.st, .int y.d.ld, .int y.d.wd, .int y.d.lk, .int y.d.al, .int y.d.pp] (3 + (acc.length : Int)) = some (.int n) := by
          refine at_of (j := 3 + acc.length) (by omega) ?_
          show ([V.int y.lv, .str y.d.k, .str y.d.s] ++ (nums6 y.d).map V.int)[3 + acc.length]? = _
          rw [List.getElem?_append_right (by show 3 ≤ _; omega), show 3 + acc.length - [V.int y.lv, .str y.d.k, .str y.d.s].length = acc.length by show 3 + acc.length - 3 = _; omega, List.getElem?_map, hn]
          rfl
        walk_at "rd"
        refine st_int (nums6_lim hyo hn) ?_
        refine pD_of c (by show (6 : Nat) < _; decide) (Same.refl _) fun Hb sb => ?_
        rw [List.length_append, show acc.length + [V.str (Str.ofString (toString n))].length = acc.length + 1 from rfl, ← str_take hn, ← pa]
      · intro acc H4 D hal pa s4 h4 f4
        replace hal : acc.length = 6 := hal
        rw [hal] at pa
        replace pa : acc = [V.str (Str.ofString (toString y.d.st)), .str (Str.ofString (toString y.d.ld)), .str (Str.ofString (toString y.d.wd)), .str (Str.ofString (toString y.d.lk)), .str (Str.ofString (toString y.d.al)), .str (Str.ofString (toString y.d.pp))] := pa
        subst pa
        have h3' := s4 _ _ h3
        have hpx4 := s4 _ _ hpx3
        refine add_lst h3' h4 (sz_le (by show 2 + 6 ≤ 16777216; decide)) ?_
        refine newO_gen fun l3 H5 g5 s5 h5 => ?_
        rw [← strs_val] at h5
        have hpx5 := s5 _ _ hpx4
        have e2 : (" (" : Str).length = 2 := by decide +kernel
        have e1 : (")" : Str).length = 1 := by decide +kernel
        walk_at "rd"
        refine rep_str (by omega) (by rw [e1]; omega) ?_
        have hrl1 := repS_len (")" : Str) (lastL (-1) (rows.take i) + 1 - y.lv).toNat
        have hla := len_app (repS (")" : Str) (lastL (-1) (rows.take i) + 1 - y.lv).toNat) (" (" : Str)
        rw [e1] at hrl1
        have hwj := words_join y.d
        have hwl := hdL_len hyo
        rw [← hwj, ← TL.len_tl] at hwl
        walk_at "rd"
        refine join_lst h5 (by have := words_sum hyo; omega) ?_
        have h5p : H5 pc = some (.lst (zs.map V.str)) := s5 _ _ (s4 _ _ (s3 _ _ h2))
        have hzl : (zs.map V.str).length = i := by rw [List.length_map, hzn]
        walk_at "rd"
        refine putO_gen h5p fun H6 s6 h6 => ?_
        have hpx6 := s6.tup hpx5
        walk_at "rd"
        refine ⟨zs ++ [repS ")" (lastL (-1) (rows.take i) + 1 - y.lv).toNat ++ " (" ++ Txt.join " " (wordsOf y.d)], _, _, by rw [hts, lastL_snoc]; rfl, SL.same (Same.trans s02 (Same.trans s3 (Same.trans s4 s5))) s6 g1, by rw [h6, List.map_append]; rfl, ?_, by rw [List.length_append]; show zs.length + 1 = _; omega⟩
        rw [hts, pT_snoc, List.map_append, List.flatten_append, hE]
        congr 1
        show TL.tl (repS ")" (lastL (-1) (rows.take i) + 1 - y.lv).toNat ++ " (" ++ Txt.join " " (wordsOf y.d)) ++ [] = _
        rw [List.append_nil, TL.tl_append, TL.tl_append, hwj, tl_repS, show TL.tl (" (" : Str) = [32, 40] by decide +kernel, show TL.tl (")" : Str) = [41] by decide +kernel, List.append_assoc]
        congr 1
        induction (lastL (-1) (rows.take i) + 1 - y.lv).toNat with
        | zero => rfl
        | succ n ih => rw [List.replicate_succ, List.flatten_cons, ih, List.replicate_succ]; rfl
    · rintro σ' H2 ⟨zs, o3, o4, rfl, s02, h2, hE, hzn⟩
      rw [hrl, List.take_length] at hE
      obtain ⟨b1, b2⟩ := bnd rows.length (Nat.le_refl _)
      rw [List.take_length] at b1 b2
      have hjt : TL.tl (Txt.join ("" : Str) zs) = pT (-1) rows := by rw [show ("" : Str) = Str.empty by rfl, tl_join0, hE]
      have hjl : (zs.map (·.length)).sum + zs.length * ("" : Str).length ≤ 16777216 := by
        rw [sum_len, hE, show ("" : Str).length = 0 by decide +kernel]
        omega
      have hjl3 : (Txt.join ("" : Str) zs).length = (pT (-1) rows).length := by rw [TL.len_tl, hjt]
      have hjl2 : (Txt.join ("" : Str) zs).length ≤ sizeLine := sz_le (by omega)
      have e1 : (")" : Str).length = 1 := by decide +kernel
      rw [hrl, List.take_length]
      walk_at "rd"
      refine join_lst h2 hjl ?_
      have hcl := cutS_length (Txt.join ("" : Str) zs) (some 1) none
      walk_at "rd"
      refine rep_str (by omega) (by rw [e1]; omega) ?_
      have hrl1 := repS_len (")" : Str) (lastL (-1) rows + 1).toNat
      rw [e1] at hrl1
      walk_at "rd"
      refine kk _ _ s02 ?_
      unfold wT at hT
      rw [TL.tl_append, tl_repS, show TL.tl (")" : Str) = [41] by decide +kernel]
      have hrep : (List.replicate (lastL (-1) rows + 1).toNat [41]).flatten = List.replicate (lastL (-1) rows + 1).toNat 41 := by
        induction (lastL (-1) rows + 1).toNat with
        | zero => rfl
        | succ n ih => rw [List.replicate_succ, List.flatten_cons, ih, List.replicate_succ]; rfl
      rw [hrep]
      rw [← hrows] at hjt hT ⊢
      have hp32 : pT (-1) (⟨0, d⟩ :: rowsF 1 k) = 32 :: (40 :: (hdL d ++ pT 0 (rowsF 1 k))) := rfl
      rw [hp32] at hT hjt
      rw [tl_from1 hjt]
      injection hT
end
end Z
namespace Z
open PySem PySem.Spec L2
/-! ## lists of edits as data -/
theorem eds_dp {K : PySem.W.Frag} {H : Hp} : ∀ {us : List V} {es : List Ed}, Edits H us es → DpAll K H us (es.map edD)
  | _, _, .nil => .nil
  | _, _, .cons r t => .cons (ed_dp r) (eds_dp t)
theorem eds_lay : ∀ {es : List Ed}, (∀ x ∈ es, Ok x.n) → PyData.canLayAll0 (es.map edD) = true ∧ PyData.depthAll (es.map edD) ≤ 1
  | [], _ => ⟨rfl, Nat.zero_le _⟩
  | x :: es, h => by
    obtain ⟨h1, h2⟩ := eds_lay (es := es) fun y hy => h y (List.mem_cons_of_mem _ hy)
    have hx := (h x (List.mem_cons_self ..)).strOk
    have e1 : PyData.canLay0 (edD x) = true := by
      unfold edD
      simp [PyData.canLay0, PyData.canLayAll0, hx]
    have e2 : PyData.depth (edD x) ≤ 1 := by
      unfold edD
      simp [PyData.depth, PyData.depthAll]
    refine ⟨?_, ?_⟩
    · show (PyData.canLay0 (edD x) && PyData.canLayAll0 (es.map edD)) = true
      rw [e1, h1]
      rfl
    · show max (PyData.depth (edD x)) (PyData.depthAll (es.map edD)) ≤ 1
      omega
theorem eds_shaped {es : List Ed} (h : ∀ x ∈ es, Ok x.n) (hl : es.length ≤ 400) : SeqAt.shaped (.list (es.map edD)) = true := by
  obtain ⟨h1, h2⟩ := eds_lay h
  unfold SeqAt.shaped
  simp [PyData.canLay0, PyData.depth, h1]
  omega
theorem eds_eqv : ∀ es : List Ed, PyData.eqvAll (es.map edD) (es.map edD) = true
  | [] => by simp only [List.map_nil, PyData.eqvAll]
  | x :: es => by
    simp only [List.map_cons, PyData.eqvAll]
    rw [eds_eqv es, edD_eqv, decide_eq_true rfl]
    rfl
/-- == of a list of edits with itself, as it stands at two places -/
theorem ne_eds {K : PySem.W.Frag} {H : Hp} {p q : Addr} {us ws : List V} {es : List Ed} {Q : VK} (hp : H p = some (.lst us)) (hq : H q = some (.lst ws)) (h1 : Edits H us es) (h2 : Edits H ws es) (hk : ∀ x ∈ es, Ok x.n) (hl : es.length ≤ 400) (h : Q (.bl false) H) : rNeU K (.ref p) (.ref q) H Q := by
  refine ne_deep (.lst (SqL.of hp) (eds_dp h1)) (.lst (SqL.of hq) (eds_dp h2)) (eds_shaped hk hl) (eds_shaped hk hl) ?_
  have e : PyData.eqv (.list (es.map edD)) (.list (es.map edD)) = true := by
    simp only [PyData.eqv]
    exact eds_eqv es
  rw [e]
  exact h
/-- == of two lists of edits -/
theorem eq_eds {K : PySem.W.Frag} {H : Hp} {p q : Addr} {us ws : List V} {es : List Ed} {Q : VK} (hp : H p = some (.lst us)) (hq : H q = some (.lst ws)) (h1 : Edits H us es) (h2 : Edits H ws es) (hk : ∀ x ∈ es, Ok x.n) (hl : es.length ≤ 400) (h : Q (.bl true) H) : rEqU K (.ref p) (.ref q) H Q := by
  refine eq_deep (.lst (SqL.of hp) (eds_dp h1)) (.lst (SqL.of hq) (eds_dp h2)) (eds_shaped hk hl) (eds_shaped hk hl) ?_
  have e : PyData.eqv (.list (es.map edD)) (.list (es.map edD)) = true := by
    simp only [PyData.eqv]
    exact eds_eqv es
  rw [e]
  exact h
theorem fits_fu {sz : Int} {es : List Ed} (h : fu sz es = -1) : fits sz es := by
  rcases fu_cases sz es with ⟨_, h2⟩ | ⟨j, _, e, _, _⟩
  · exact h2
  · omega
/-- the first k fit exactly if all do, or the first that does not stands behind them -/
theorem fu_take {sz : Int} {es : List Ed} (k : Nat) : fu sz (es.take k) = -1 ↔ (fu sz es = -1 ∨ (k : Int) ≤ fu sz es) ∨ (es.length < k ∧ fu sz es = -1) := by
  constructor
  · intro h
    have hf := fits_fu h
    rcases fu_cases sz es with ⟨e, _⟩ | ⟨j, hj, e, _, h3⟩
    · exact .inl (.inl e)
    · refine .inl (.inr ?_)
      rw [e]
      by_cases c : k ≤ j
      · omega
      · exfalso
        refine h3 ?_
        have := fits_take hf (j + 1)
        rw [List.take_take, Nat.min_eq_left (by omega)] at this
        exact this
  · rintro ((e | e) | ⟨_, e⟩)
    · exact fu_fits (fits_take (fits_fu e) k)
    · rcases fu_cases sz es with ⟨e2, h2⟩ | ⟨j, hj, e2, h2, _⟩
      · exact fu_fits (fits_take h2 k)
      · have := fits_take h2 k
        rw [List.take_take, Nat.min_eq_left (by omega)] at this
        exact fu_fits this
    · exact fu_fits (fits_take (fits_fu e) k)
theorem not_bad {sz : Int} {es : List Ed} {P : Nat → Prop} (hf : fits sz es) : ∀ n : Nat, fu sz es = n → n ≤ 1000 → P n := fun n h _ => by
  rw [fu_fits hf] at h
  omega
end Z
namespace Z
open PySem PySem.Spec L2
/-! ## data that is compared -/
section
variable {α : Type} {f : α → PyData}
theorem eqvAll_map [DecidableEq α] (h : ∀ x y, PyData.eqv (f x) (f y) = decide (x = y)) : ∀ l l' : List α, PyData.eqvAll (l.map f) (l'.map f) = decide (l = l')
  | [], [] => by simp [PyData.eqvAll]
  | [], y :: l' => by simp [PyData.eqvAll]
  | x :: l, [] => by simp [PyData.eqvAll]
  | x :: l, y :: l' => by
    rw [Bool.eq_iff_iff]
    simp only [List.map_cons, PyData.eqvAll, eqvAll_map h l l', h, Bool.and_eq_true, decide_eq_true_eq, List.cons.injEq]
theorem eqvL_map [DecidableEq α] (h : ∀ x y, PyData.eqv (f x) (f y) = decide (x = y)) (l l' : List α) : PyData.eqv (.list (l.map f)) (.list (l'.map f)) = decide (l = l') := by
  simp only [PyData.eqv]
  exact eqvAll_map h l l'
theorem eqvT_map [DecidableEq α] (h : ∀ x y, PyData.eqv (f x) (f y) = decide (x = y)) (l l' : List α) : PyData.eqv (.tuple (l.map f)) (.tuple (l'.map f)) = decide (l = l') := by
  simp only [PyData.eqv]
  exact eqvAll_map h l l'
theorem lay_map {n : Nat} : ∀ {l : List α}, (∀ x ∈ l, PyData.canLay0 (f x) = true ∧ PyData.depth (f x) ≤ n) → PyData.canLayAll0 (l.map f) = true ∧ PyData.depthAll (l.map f) ≤ n
  | [], _ => ⟨by simp [PyData.canLayAll0], by simp [PyData.depthAll]⟩
  | x :: l, h => by
    obtain ⟨h1, h2⟩ := lay_map (l := l) fun y hy => h y (List.mem_cons_of_mem _ hy)
    obtain ⟨e1, e2⟩ := h x (List.mem_cons_self ..)
    refine ⟨?_, ?_⟩
    · show (PyData.canLay0 (f x) && PyData.canLayAll0 (l.map f)) = true
      rw [e1, h1]
      rfl
    · show max (PyData.depth (f x)) (PyData.depthAll (l.map f)) ≤ n
      omega
theorem shapedL {n : Nat} {l : List α} (hn : n ≤ 60) (h : ∀ x ∈ l, PyData.canLay0 (f x) = true ∧ PyData.depth (f x) ≤ n) : SeqAt.shaped (.list (l.map f)) = true := by
  obtain ⟨h1, h2⟩ := lay_map h
  unfold SeqAt.shaped
  simp [PyData.canLay0, PyData.depth, h1]
  omega
theorem shapedT {n : Nat} {l : List α} (hn : n ≤ 60) (h : ∀ x ∈ l, PyData.canLay0 (f x) = true ∧ PyData.depth (f x) ≤ n) : SeqAt.shaped (.tuple (l.map f)) = true := by
  obtain ⟨h1, h2⟩ := lay_map h
  unfold SeqAt.shaped
  simp [PyData.canLay0, PyData.depth, h1]
  omega
theorem dp_map {K : PySem.W.Frag} {H : Hp} {R : V → α → Prop} (h : ∀ v x, R v x → Dp K H v (f x)) : ∀ {vs : List V} {l : List α}, Paired R vs l → DpAll K H vs (l.map f)
  | _, _, .nil => .nil
  | _, _, .cons r t => .cons (h _ _ r) (dp_map h t)
end
/-! ### rows -/
def rwD (r : Rw) : PyData := .tuple [.int r.lv, .str r.d.k, .str r.d.s, .int r.d.st, .int r.d.ld, .int r.d.wd, .int r.d.lk, .int r.d.al, .int r.d.pp]
theorem rwD_eqv (x y : Rw) : PyData.eqv (rwD x) (rwD y) = decide (x = y) := by
  obtain ⟨l, a, b, c, d, e, f, g, h⟩ := x
  obtain ⟨l', a', b', c', d', e', f', g', h'⟩ := y
  rw [Bool.eq_iff_iff]
  simp [rwD, PyData.eqv, PyData.eqvAll, and_assoc]
theorem rwD_lay {r : Rw} (h : DtOk r.d) : PyData.canLay0 (rwD r) = true ∧ PyData.depth (rwD r) ≤ 1 := by
  unfold rwD
  refine ⟨?_, ?_⟩
  · simp [PyData.canLay0, PyData.canLayAll0, h.k.2.strOk, h.s.2.strOk]
  · simp [PyData.depth, PyData.depthAll]
/-! ### what two nodes are compared by -/
structure Cm where
  k : Str
  s : Str
  st : Int
  al : Int
  ld : Int
  pp : Int
  n : Int
  w : Int
deriving DecidableEq
def cmOf (d : Dt) (n : Nat) : Cm := ⟨d.k, d.s, d.st, d.al, d.ld, d.pp, n, if n = 0 then d.wd else 0⟩
/-- the order in which each def puts them -/
def cmD (c : Cm) : PyData := .tuple [.str c.k, .str c.s, .int c.st, .int c.al, .int c.ld, .int c.pp, .int c.n, .int c.w]
def cmE (c : Cm) : PyData := .tuple [.str c.k, .str c.s, .int c.st, .int c.ld, .int c.al, .int c.pp, .int c.n, .int c.w]
theorem cmD_eqv (x y : Cm) : PyData.eqv (cmD x) (cmD y) = decide (x = y) := by
  obtain ⟨a, b, c, d, e, f, g, h⟩ := x
  obtain ⟨a', b', c', d', e', f', g', h'⟩ := y
  rw [Bool.eq_iff_iff]
  simp [cmD, PyData.eqv, PyData.eqvAll, and_assoc]
theorem cmE_eqv (x y : Cm) : PyData.eqv (cmE x) (cmE y) = decide (x = y) := by
  obtain ⟨a, b, c, d, e, f, g, h⟩ := x
  obtain ⟨a', b', c', d', e', f', g', h'⟩ := y
  rw [Bool.eq_iff_iff]
  simp [cmE, PyData.eqv, PyData.eqvAll, and_assoc]
  intros
  constructor <;> (rintro ⟨h1, h2, h3⟩; exact ⟨h2, h1, h3⟩)
theorem cmD_shaped {c : Cm} (h1 : Ok c.k) (h2 : Ok c.s) : SeqAt.shaped (cmD c) = true := by
  unfold cmD SeqAt.shaped
  simp [PyData.canLay0, PyData.canLayAll0, PyData.depth, PyData.depthAll, h1.strOk, h2.strOk]
theorem cmE_shaped {c : Cm} (h1 : Ok c.k) (h2 : Ok c.s) : SeqAt.shaped (cmE c) = true := by
  unfold cmE SeqAt.shaped
  simp [PyData.canLay0, PyData.canLayAll0, PyData.depth, PyData.depthAll, h1.strOk, h2.strOk]
/-! ### paths -/
def paD (p : List Int) : PyData := .tuple (p.map PyData.int)
theorem int_eqv (x y : Int) : PyData.eqv (.int x) (.int y) = decide (x = y) := by
  rw [Bool.eq_iff_iff]
  simp [PyData.eqv]
theorem paD_eqv (x y : List Int) : PyData.eqv (paD x) (paD y) = decide (x = y) := eqvT_map int_eqv x y
theorem int_lay {x : Int} : PyData.canLay0 (.int x) = true ∧ PyData.depth (.int x) ≤ 0 := ⟨by simp [PyData.canLay0], by simp [PyData.depth]⟩
theorem paD_lay (p : List Int) : PyData.canLay0 (paD p) = true ∧ PyData.depth (paD p) ≤ 1 := by
  obtain ⟨h1, h2⟩ := lay_map (f := PyData.int) (n := 0) (l := p) fun _ _ => int_lay
  unfold paD
  refine ⟨?_, ?_⟩
  · simp [PyData.canLay0, h1]
  · simp [PyData.depth]
    omega
end Z
namespace Z
open PySem PySem.Spec L2 ItX
local macro_rules | `(tactic| walk_at "ne") => `(tactic| first
  | with_reducible assumption
  | with_reducible exact Ne.symm (by assumption)
  | exact Frs.ne (by with_reducible assumption) (by walk_at "hp")
  | exact Frs.ne' (by with_reducible assumption) (by walk_at "hp"))
local macro_rules | `(tactic| walk_at "hp") => `(tactic| first
  | with_reducible assumption
  | (with_reducible refine Same.at (by assumption) ?_; walk_at "hp")
  | (with_reducible refine SL.tup (by assumption) ?_; walk_at "hp")
  | (with_reducible refine SL.at (by assumption) (by walk_at "ne") ?_; walk_at "hp"))
local macro_rules | `(tactic| walk_at "sz") => `(tactic| first
  | with_reducible assumption
  | exact Nat.le_of_ble_eq_true rfl
  | (refine sz_le ?_; omega)
  | (refine sz_lt ?_; omega)
  | decide +kernel)
local macro_rules | `(tactic| walk_at "at") => `(tactic| first
  | with_reducible assumption
  | with_reducible exact at0
  | with_reducible exact at1
  | with_reducible exact at2
  | with_reducible exact ixN0)
local macro_rules | `(tactic| walk_at "nn") => `(tactic| first
  | omega
  | decide
  | exact ⟨by decide, by decide⟩
  | exact ⟨by omega, by omega⟩
  | exact ⟨by omega, by omega, by omega, by omega⟩)
local macro_rules | `(tactic| walk_at "rdv") => `(tactic| first
  | (with_reducible refine add_int ?_)
  | (with_reducible refine sub_int ?_)
  | (with_reducible refine neg_int ?_)
  | ((with_reducible refine ix_tpl (xs := ?xs) (v := ?v) ?h1 ?h2 ?_); (case h1 => walk_at "hp"); (case h2 => walk_at "at"))
  | ((with_reducible refine ix_lst (xs := ?xs) (v := ?v) ?h1 ?h2 ?_); (case h1 => walk_at "hp"); (case h2 => walk_at "at"))
  | (with_reducible refine eq_int ?_)
  | (with_reducible refine ne_int ?_)
  | (with_reducible refine lt_int ?_)
  | (with_reducible refine le_int ?_)
  | (with_reducible refine gt_int ?_)
  | (with_reducible refine ge_int ?_)
  | (with_reducible refine eq_str ?_)
  | (with_reducible refine ne_str ?_)
  | (with_reducible refine eq_bl ?_)
  | (with_reducible refine ne_bl ?_)
  | ((with_reducible refine mod_int ?hc ?_); (case hc => walk_at "nn"))
  | ((with_reducible refine div_int ?hc ?_); (case hc => walk_at "nn"))
  | ((with_reducible refine mul_intR ?hc ?_); (case hc => exact ⟨by decide, by decide⟩))
  | ((with_reducible refine mul_intR ?hc ?_); (case hc => exact ⟨by omega, by omega⟩))
  | ((with_reducible refine mul_intL ?hc ?_); (case hc => exact ⟨by omega, by omega⟩))
  | ((with_reducible refine pow_int ?hc ?_); (case hc => exact ⟨by decide, by decide, by decide⟩))
  | ((with_reducible refine add_str ?hc ?_); (case hc => walk_at "sz"))
  | ((with_reducible refine add_lst (xs := ?xs) (ys := ?ys) ?h1 ?h2 ?hc ?_); (case h1 => walk_at "hp"); (case h2 => walk_at "hp"); (case hc => walk_at "sz"))
  | ((with_reducible refine sl_strU ?hc ?_); (case hc => walk_at "sz"))
  | ((with_reducible refine sl_lst (xs := ?xs) ?h1 ?_); (case h1 => walk_at "hp"))
  | (with_reducible refine is_bl ?_)
  | (with_reducible refine isnt_bl ?_)
  | (with_reducible refine is_non ?_)
  | (with_reducible refine isnt_non ?_))
local macro_rules | `(tactic| walk_at "rdc") => `(tactic| first
  | ((with_reducible refine len_lst (xs := ?xs) ?h1 ?_); (case h1 => walk_at "hp"))
  | ((with_reducible refine len_tup (xs := ?xs) ?h1 ?_); (case h1 => walk_at "hp"))
  | ((with_reducible refine len_str ?hc ?_); (case hc => walk_at "sz"))
  | (with_reducible refine int_int ?_)
  | (with_reducible refine max_int ?_)
  | (with_reducible refine min_int ?_)
  | (with_reducible refine abs_int ?_)
  | (with_reducible refine isi_ii ?_)
  | (with_reducible refine isi_ib ?_)
  | (with_reducible refine isi_ss ?_)
  | (with_reducible refine isi_bb ?_)
  | ((with_reducible refine isi_tt (xs := ?xs) ?h1 ?_); (case h1 => walk_at "hp"))
  | ((with_reducible refine isi_ll (xs := ?xs) ?h1 ?_); (case h1 => walk_at "hp"))
  | ((with_reducible refine list_lst (xs := ?xs) ?h1 ?_); (case h1 => walk_at "hp"))
  | ((with_reducible refine list_tup (xs := ?xs) ?h1 ?_); (case h1 => walk_at "hp"))
  | ((with_reducible refine tuple_lst (xs := ?xs) ?h1 ?_); (case h1 => walk_at "hp"))
  | ((with_reducible refine tuple_tup (xs := ?xs) ?h1 ?_); (case h1 => walk_at "hp"))
  | ((with_reducible refine append_lst (xs := ?xs) ?h1 ?hc ?_); (case h1 => walk_at "hp"); (case hc => walk_at "sz"))
  | ((with_reducible refine clear_lst (xs := ?xs) ?h1 ?_); (case h1 => walk_at "hp"))
  | ((with_reducible refine set_lst (xs := ?xs) (k := ?k) ?h1 ?h2 ?_); (case h1 => walk_at "hp"); (case h2 => walk_at "at")))
local macro_rules | `(tactic| walk_at "rd1") => `(tactic| first
  | ((with_reducible refine rVar (v := ?v) ?h ?_); (case h => exact rfl))
  | (with_reducible refine rC ?_)
  | (with_reducible refine rCons ?_)
  | (with_reducible refine rNil ?_)
  | (with_reducible refine rOp ?_)
  | (with_reducible refine rSeq ?_)
  | (with_reducible refine rAsgN ?_)
  | (with_reducible refine rAsgT ?_)
  | (with_reducible refine rAsgS ?_)
  | (with_reducible refine rTest ?_)
  | (with_reducible refine rBl ?_)
  | (with_reducible refine rBl' ?_)
  | (with_reducible refine rInt ?_)
  | (with_reducible refine rInt' ?_)
  | (with_reducible refine rCall ?_)
  | (with_reducible refine rCB ?_)
  | (with_reducible refine rRet ?_)
  | (with_reducible refine rDrop ?_)
  | (with_reducible refine rIfS ?_)
  | (with_reducible refine rTup ?_)
  | (with_reducible refine rLst ?_)
  | (with_reducible refine ⟨Nat.le_of_ble_eq_true rfl, ?_⟩)
  | (with_reducible refine rSl ?_)
  | (with_reducible refine rPart ?_)
  | (with_reducible refine rNoPart ?_)
  | (with_reducible refine rBM ?_)
  | (with_reducible refine rBM0 ?_)
  | ((with_reducible refine tyL (xs := ?xs) ?h1 ?_); (case h1 => walk_at "hp"))
  | (with_reducible refine rM1 ?_)
  | (with_reducible refine rM0 ?_)
  | (with_reducible refine rStr ?_)
  | (with_reducible refine rTru ?_)
  | (with_reducible refine tru_bl ?_)
  | (with_reducible refine tru_int ?_)
  | ((with_reducible refine tru_lst (xs := ?xs) ?h1 ?_); (case h1 => walk_at "hp"))
  | ((with_reducible refine tru_tup (xs := ?xs) ?h1 ?_); (case h1 => walk_at "hp"))
  | ((with_reducible refine tru_str ?hc ?_); (case hc => walk_at "sz"))
  | (with_reducible refine rAnd ?_)
  | (with_reducible refine rOr ?_)
  | (with_reducible refine rNot ?_)
  | (with_reducible refine rAndV ?_)
  | (with_reducible refine rOrV ?_)
  | (with_reducible refine rNotV ?_)
  | (with_reducible refine rIfE ?_)
  | (with_reducible refine rChain ?_)
  | (with_reducible refine rChain3 ?_)
  | (with_reducible refine ifT ?_)
  | (with_reducible refine ifF ?_)
  | (with_reducible refine ifNF ?_)
  | (with_reducible refine ifNT ?_)
  | (with_reducible refine rNext ?_)
  | (with_reducible refine rBrk ?_)
  | (with_reducible refine rCnt ?_)
  | (with_reducible refine rRetN ?_)
  | (with_reducible refine rForR1 ?_)
  | (with_reducible refine rForR2 ?_)
  | (with_reducible refine rForL ?_)
  | ((with_reducible refine rRg1 ?hb ?_); (case hb => walk_at "nn"))
  | ((with_reducible refine rRg2 ?hb ?_); (case hb => walk_at "nn"))
  | ((with_reducible refine rRf (xs := ?xs) ?h1 ?_); (case h1 => walk_at "hp"))
  | (with_reducible refine rLcR1 ?_)
  | (with_reducible refine rLcR2 ?_)
  | (with_reducible refine rLcL ?_)
  | (with_reducible refine gN ?_)
  | (with_reducible refine gNl ?_)
  | (with_reducible refine gC ?_)
  | ((with_reducible refine gT (xs := ?xs) ?h1 ?h2 ?_); (case h1 => walk_at "hp"); (case h2 => exact rfl))
  | (with_reducible refine rUn ?_)
  | walk_at "rdv"
  | walk_at "rdc")
local macro_rules | `(tactic| walk_at "rd") => `(tactic| repeat walk_at "rd1")

local macro_rules | `(tactic| walk_at "rd1") => `(tactic| first
  | (with_reducible refine rCallS ?_)
  | (with_reducible refine rRaise ?_)
  | (with_reducible refine rXf ?_)
  | (with_reducible refine rXi ?_)
  | (with_reducible refine rOst ?_)
  | (with_reducible refine rRevL ?_)
  | ((with_reducible refine revL_end (xs := ?xs) ?h1 ?_); (case h1 => walk_at "hp")))

local macro_rules | `(tactic| walk_at "rd1") => `(tactic| first
  | (with_reducible refine rForR3 ?_)
  | ((with_reducible refine rRgD ?hb ?_); (case hb => walk_at "nn"))
  | (with_reducible refine gS ?_))

local macro_rules | `(tactic| walk_at "rd1") => `(tactic| first
  | (with_reducible refine rFld ?_)
  | (with_reducible refine rSFld ?_)
  | (with_reducible refine rMake ?_)
  | (with_reducible refine rMeth ?_)
  | (with_reducible refine rForT ?_)
  | (with_reducible refine rLcT ?_)
  | (with_reducible refine rLcO ?_)
  | (with_reducible refine rForO ?_)
  | (with_reducible refine rLstY ?_)
  | ((with_reducible refine rRt (xs := ?xs) ?h1 ?_); (case h1 => walk_at "hp"))
  | ((with_reducible refine listY_lst (xs := ?xs) ?h1 ?_); (case h1 => walk_at "hp"))
  | ((with_reducible refine listY_tup (xs := ?xs) ?h1 ?_); (case h1 => walk_at "hp")))

local macro_rules | `(tactic| walk_at "hp") => `(tactic| first
  | (with_reducible refine SL.ins (by assumption) ?_; walk_at "hp"))
local macro_rules | `(tactic| walk_at "at") => `(tactic| first
  | with_reducible exact at3
  | with_reducible exact at4
  | with_reducible exact at5
  | with_reducible exact at6
  | with_reducible exact at7
  | with_reducible exact at8)
local macro_rules | `(tactic| walk_at "rd1") => `(tactic| first
  | (with_reducible refine rMkWK ?_)
  | (with_reducible refine rForS ?_)
  | (with_reducible refine rDGet ?_)
  | (with_reducible refine rDPut ?_)
  | (with_reducible refine rIts ?_)
  | (with_reducible refine rLstRg ?_)
  | ((with_reducible refine reverse_lst (xs := ?xs) ?h1 ?_); (case h1 => walk_at "hp"))
  | ((with_reducible refine extend_lst (xs := ?xs) (ys := ?ys) ?h1 ?h2 ?hc ?_); (case h1 => walk_at "hp"); (case h2 => walk_at "hp"); (case hc => walk_at "sz"))
  | ((with_reducible refine fN_kind (mg := ?mg) (C := ?C) (dx := ?dx) (d := ?d) (ns := ?ns) ?hu ?hp ?_); (case hu => with_reducible assumption); (case hp => walk_at "hp"))
  | ((with_reducible refine fN_symbol (mg := ?mg) (C := ?C) (dx := ?dx) (d := ?d) (ns := ?ns) ?hu ?hp ?_); (case hu => with_reducible assumption); (case hp => walk_at "hp"))
  | ((with_reducible refine fN_state (mg := ?mg) (C := ?C) (dx := ?dx) (d := ?d) (ns := ?ns) ?hu ?hp ?_); (case hu => with_reducible assumption); (case hp => walk_at "hp"))
  | ((with_reducible refine fN_lead (mg := ?mg) (C := ?C) (dx := ?dx) (d := ?d) (ns := ?ns) ?hu ?hp ?_); (case hu => with_reducible assumption); (case hp => walk_at "hp"))
  | ((with_reducible refine fN_width (mg := ?mg) (C := ?C) (dx := ?dx) (d := ?d) (ns := ?ns) ?hu ?hp ?_); (case hu => with_reducible assumption); (case hp => walk_at "hp"))
  | ((with_reducible refine fN_look (mg := ?mg) (C := ?C) (dx := ?dx) (d := ?d) (ns := ?ns) ?hu ?hp ?_); (case hu => with_reducible assumption); (case hp => walk_at "hp"))
  | ((with_reducible refine fN_alternative (mg := ?mg) (C := ?C) (dx := ?dx) (d := ?d) (ns := ?ns) ?hu ?hp ?_); (case hu => with_reducible assumption); (case hp => walk_at "hp"))
  | ((with_reducible refine fN_nodes (mg := ?mg) (C := ?C) (dx := ?dx) (d := ?d) (ns := ?ns) ?hu ?hp ?_); (case hu => with_reducible assumption); (case hp => walk_at "hp"))
  | ((with_reducible refine fN_popped (mg := ?mg) (C := ?C) (dx := ?dx) (d := ?d) (ns := ?ns) ?hu ?hp ?_); (case hu => with_reducible assumption); (case hp => walk_at "hp")))

theorem isi_sqt {K : PySem.W.Frag} {H : Hp} {Q : VK} {p : Addr} {xs : List V} (h1 : SqT K H p xs) (h : Q (.bl true) H) : rIsiU K [.ref p, .ty "tuple"] H Q := by
  rcases h1 with (h1 | ⟨o, h1⟩) | ⟨o, its, n, h1, h2, _⟩
  · exact isi_tt h1 h
  · exact isi_ty (.fTuple h1) kb_tt h
  · exact isi_ty (.kTuple h1 h2) kb_tt h
/-- what waits to be told -/
def PendAt (K : PySem.W.Frag) (C : Addr) (H : Hp) (v : V) (e : Rt) : Prop := ∃ (t : Addr) (u : V), v = .ref t ∧ H t = some (.tup [.int e.1, u]) ∧ NodeAt K C H u e.2.1 e.2.2
theorem PendAt.kp {K : PySem.W.Frag} {C : Addr} {H H' : Hp} (s : KpS H H') {v : V} {e : Rt} (h : PendAt K C H v e) : PendAt K C H' v e := let ⟨t, u, h1, h2, h3⟩ := h; ⟨t, u, h1, s.tp _ _ h2, h3.kp s⟩
def pendR : List Rt → List Rw
  | [] => []
  | e :: t => ⟨e.1, e.2.1⟩ :: (rowsF (e.1 + 1) e.2.2 ++ pendR t)
theorem pendR_app : ∀ a b : List Rt, pendR (a ++ b) = pendR a ++ pendR b
  | [], _ => rfl
  | e :: a, b => by
    show _ :: (_ ++ pendR (a ++ b)) = _ :: (_ ++ pendR a) ++ pendR b
    rw [pendR_app a b]
    simp
theorem pendR_roots (L : Int) : ∀ f : Fo, pendR (rootsF L f) = rowsF L f
  | .nil => rfl
  | .cons d k r => by
    show ⟨L, d⟩ :: (rowsF (L + 1) k ++ pendR (rootsF L r)) = _
    rw [pendR_roots L r]
    rfl
theorem roots_len (L : Int) : ∀ f : Fo, (rootsF L f).length = f.len
  | .nil => rfl
  | .cons d k r => congrArg (· + 1) (roots_len L r)
theorem pend_len : ∀ s : List Rt, s.length ≤ (pendR s).length
  | [] => Nat.le_refl _
  | e :: s => by
    have := pend_len s
    show s.length + 1 ≤ (_ ++ pendR s).length + 1
    rw [List.length_append]
    omega
/-- the i-th of a row of nodes -/
theorem NodesAt.at {K : PySem.W.Frag} {C : Addr} {H : Hp} (L : Int) : ∀ {f : Fo} {vs : List V} {i : Nat}, NodesAt K C H vs f → i < f.len → ∃ v e, vs[i]? = some v ∧ (rootsF L f)[i]? = some e ∧ e.1 = L ∧ NodeAt K C H v e.2.1 e.2.2
  | .nil, _, _, _, h => absurd h (Nat.not_lt_zero _)
  | .cons d k r, vs, 0, h, _ => by
    obtain ⟨p, dx, q, us, t, rfl, h1, h2, h3, h4⟩ := h
    exact ⟨.ref p, (L, d, k), rfl, rfl, rfl, p, dx, q, us, rfl, h1, h2, h3⟩
  | .cons d k r, vs, i + 1, h, hi => by
    obtain ⟨p, dx, q, us, t, rfl, h1, h2, h3, h4⟩ := h
    obtain ⟨v, e, a, b, c⟩ := NodesAt.at L (i := i) h4 (by have : i + 1 < r.len + 1 := hi; omega)
    exact ⟨v, e, a, b, c⟩
def sp_law_told (K : PySem.W.Frag) (C : Addr) : Sp := fun vs H Q _ => ∃ (v : V) (d : Dt) (k : Fo) (n : Int), vs = [v, .int n] ∧ NodeAt K C H v d k ∧ n = k.cnt + 2 ∧ k.cnt ≤ 1000000 ∧ ∀ (p : Addr) (H' : Hp), Same H H' → Frs H p → RowsIn H' p (⟨0, d⟩ :: rowsF 1 k) → Q (.ref p) H'
theorem use_told {K : PySem.W.Frag} {C : Addr} {v : V} {d : Dt} {k : Fo} {n : Int} {H : Hp} {Q : VK} {E : XK} (hv : NodeAt K C H v d k) (hn : n = k.cnt + 2) (hl : k.cnt ≤ 1000000) (h : ∀ (p : Addr) (H' : Hp), Same H H' → Frs H p → RowsIn H' p (⟨0, d⟩ :: rowsF 1 k) → Q (.ref p) H') : sp_law_told K C [v, .int n] H Q E := ⟨v, d, k, n, rfl, hv, hn, hl, h⟩
section
variable {P : Program} {w : World} {K : PySem.W.Frag} {mg : Str → Option Value} {base : Heap} {aNode aNil : Addr}
theorem cal_law_told {f : Addr} {fd : FuncData} (T : Txt mg) (FD : C8.Def K mg "_law_told" s_law_told f fd) (b : Binds K fd ["root", "most"] [])
    (u_Node : F_Node K mg aNode) : C8.Cal P w K mg base 1 "_law_told" (sp_law_told K aNode) [] := by
  refine C8.cal0 FD b .nil sc_law_told (fun vs H Q E h => ?_) (fun cdv A outer s H vs Q E hr h => ?_)
  · obtain ⟨v, d, k, n, rfl, _⟩ := h; rfl
  · obtain ⟨v, d, k, n, rfl, hv, rfl, hl, kk⟩ := h
    refine ⟨_, (pss_cons (ps_set (i := 2) sc_law_told.nd rfl (.inl rfl) (pe_lst pa_nil))
  (pss_cons (ps_set (i := 3) sc_law_told.nd rfl (.inl rfl) (pe_lst (pa_cons (pe_tup (pa_cons pe_int (pa_cons (pv 0) pa_nil))) pa_nil)))
  (pss_cons (ps_for PassesOwn.never rfl (pi_range1 rfl T.n_range (pa_cons (pv 1) pa_nil)) (pg_name (i := 4) sc_law_told.nd rfl (.inl rfl)) (pss_cons (ps_if (pt_not (pt_truK K (pv 3) (by intro _; rfl))) (pss_one (ps_ret (pv 2))) pss_nil)
  (pss_cons (ps_asg (pe_bm0 F.plainAttrs_list F.slot_list_pop F.type_list_pop mt_pop (pv 3)) (pg_tup rfl (pgs_cons (pg_name (i := 5) sc_law_told.nd rfl (.inl rfl)) (pgs_cons (pg_name (i := 6) sc_law_told.nd rfl (.inl rfl)) pgs_nil))))
  (pss_cons (ps_if (PW.pt (pw_or (pt_not (pt_truK K (pe_callB (call_isiK' K) (by rfl) T.n_isinstance (by decide +kernel) (pa_cons (pv 6) (pa_cons (pe_cls (by rfl) u_Node.u.mgC) pa_nil))) (by intro _; rfl))) (pw_or1 (pt_not (pt_truK K (pe_callB (call_isiK' K) (by rfl) T.n_isinstance (by decide +kernel) (pa_cons (pe_fldK (K := K) (pv 6) rfl) (pa_cons (pe_bltn (v := .ty "tuple") (by rfl) T.n_tuple (by decide +kernel) rfl) pa_nil))) (by intro _; rfl)))))) (pss_one (ps_ret (pe_lst pa_nil))) pss_nil)
  (pss_cons (ps_set (i := 7) sc_law_told.nd rfl (.inl rfl) (pe_tup (pa_cons (pe_fldK (K := K) (pv 6) rfl) (pa_cons (pe_fldK (K := K) (pv 6) rfl) (pa_cons (pe_fldK (K := K) (pv 6) rfl) (pa_cons (pe_fldK (K := K) (pv 6) rfl) (pa_cons (pe_fldK (K := K) (pv 6) rfl) (pa_cons (pe_fldK (K := K) (pv 6) rfl) pa_nil))))))))
  (pss_cons (ps_for PassesOwn.never rfl (pi_tupK K (pv 7)) (pg_name (i := 8) sc_law_told.nd rfl (.inl rfl)) (pss_one (ps_if (PW.pt (pw_or (pt_not (pt_truK K (pe_callB (call_isiK' K) (by rfl) T.n_isinstance (by decide +kernel) (pa_cons (pv 8) (pa_cons (pe_bltn (v := .ty "int") (by rfl) T.n_int (by decide +kernel) rfl) pa_nil))) (by intro _; rfl))) (pw_or1 (pt_truK K (pe_callB (call_isiK' K) (by rfl) T.n_isinstance (by decide +kernel) (pa_cons (pv 8) (pa_cons (pe_bltn (v := .ty "bool") (by rfl) T.n_bool (by decide +kernel) rfl) pa_nil))) (by intro _; rfl))))) (pss_one (ps_ret (pe_lst pa_nil))) pss_nil)))
  (pss_cons (ps_if (PW.pt (pw_or (pt_not (pt_truK K (pe_callB (call_isiK' K) (by rfl) T.n_isinstance (by decide +kernel) (pa_cons (pe_fldK (K := K) (pv 6) rfl) (pa_cons (pe_bltn (v := .ty "str") (by rfl) T.n_str (by decide +kernel) rfl) pa_nil))) (by intro _; rfl))) (pw_or1 (pt_not (pt_truK K (pe_callB (call_isiK' K) (by rfl) T.n_isinstance (by decide +kernel) (pa_cons (pe_fldK (K := K) (pv 6) rfl) (pa_cons (pe_bltn (v := .ty "str") (by rfl) T.n_str (by decide +kernel) rfl) pa_nil))) (by intro _; rfl)))))) (pss_one (ps_ret (pe_lst pa_nil))) pss_nil)
  (pss_cons (ps_expr (pe_bm F.plainAttrs_list F.slot_list_append F.type_list_append mt_append (pv 2) (pa_cons (pe_op (op_addK K) (pe_tup (pa_cons (pv 5) (pa_cons (pe_fldK (K := K) (pv 6) rfl) (pa_cons (pe_fldK (K := K) (pv 6) rfl) pa_nil)))) (pv 7)) pa_nil)))
  (pss_one (ps_for PassesOwn.never rfl (pi_range3 rfl T.n_range (pa_cons (pe_op op_subU (pe_callB (call_lenK K) (by rfl) T.n_len PySem.boot_len (pa_cons (pe_fldK (K := K) (pv 6) rfl) pa_nil)) pe_int) (pa_cons (pe_un un_neg pe_int) (pa_cons (pe_un un_neg pe_int) pa_nil)))) (pg_name (i := 9) sc_law_told.nd rfl (.inl rfl)) (pss_one (ps_expr (pe_bm F.plainAttrs_list F.slot_list_append F.type_list_append mt_append (pv 3) (pa_cons (pe_tup (pa_cons (pe_op (op_addK K) (pv 5) pe_int) (pa_cons (pe_ix (ix_K K) (pe_fldK (K := K) (pv 6) rfl) (pv 9) (fun _ _ => rfl)) pa_nil))) pa_nil))))))))))))))
  (pss_one (ps_ret (pe_lst pa_nil)))))), ?_⟩
    show (_ : TS) _ [some v, some (.int (k.cnt + 2)), none, none, none, none, none, none, none, none] H
    walk_at "rd"
    refine newO_gen fun t0 H1 g1 s1 h1 => ?_
    walk_at "rd"
    refine newO_gen fun t1 H2 g2 s2 h2 => ?_
    walk_at "rd"
    refine newO_gen fun t2 H3 g3 s3 h3 => ?_
    have s02 : Same H H2 := Same.trans s1 s2
    have s03 : Same H H3 := Same.trans s02 s3
    have gt1 : Frs H t1 := Same.fre s1 g2
    have gt2 : Frs H t2 := Same.fre s02 g3
    walk_at "rd"
    have hall : (⟨0, d⟩ :: rowsF 1 k : List Rw).length = k.cnt + 1 := by rw [List.length_cons, rowsF_len]
    refine loopR_by (fun i σ' H' => ∃ (ts S : List V) (dn : List Rw) (es : List Rt) (o4 o5 o6 o7 o8 o9 : Option V), σ' = [some v, some (.int (k.cnt + 2)), some (.ref t0), some (.ref t2), o4, o5, o6, o7, o8, o9] ∧ Same H H' ∧ H' t0 = some (.lst ts) ∧ Rows H' ts dn ∧ dn.length = i ∧
      H' t2 = some (.lst S.reverse) ∧ Paired (PendAt K aNode H') S es ∧ dn ++ pendR es = ⟨0, d⟩ :: rowsF 1 k) ?_ ?_ ?_
    · refine ⟨[], [.ref t1], [], [(0, d, k)], none, none, none, none, none, none, rfl, s03, s3 _ _ (s2 _ _ h1), .nil, rfl, h3, .cons ⟨t1, v, rfl, s3 _ _ h2, hv.kp (KpS.same s03)⟩ .nil, ?_⟩
      show (⟨0, d⟩ : Rw) :: (rowsF (0 + 1) k ++ []) = _
      rw [List.append_nil]
      rfl
    · rintro i σ' H4 hi ⟨ts, S, dn, es, o4, o5, o6, o7, o8, o9, rfl, s4, h4t, hdn, hdl, h4s, hS, hE⟩
      have htl := Paired.len hdn
      have hdn2 : dn.length + (pendR es).length = k.cnt + 1 := by rw [← List.length_append, hE, hall]
      have hel := pend_len es
      have htt : t0 ≠ t2 := by
        intro e
        have q := s3 _ _ (s2 _ _ h1)
        rw [e, h3] at q
        cases q
      cases hS with
      | nil =>
        replace h4s : H4 t2 = some (.lst []) := h4s
        walk_at "rd"
        rw [show (!(([] : List V)).isEmpty) = false from rfl]
        walk_at "rd"
        refine kk t0 H4 s4 g1 ⟨ts, h4t, ?_⟩
        rw [← hE]
        show Rows H4 ts (dn ++ [])
        rw [List.append_nil]
        exact hdn
      | @cons u e S' es' hu hS' =>
        obtain ⟨pu, nd, rfl, hpu, pn, dx, q, us, rfl, hpn, hq, hus⟩ := hu
        rw [List.reverse_cons] at h4s
        have hSl := Paired.len hS'
        have hlast : (S'.reverse ++ [V.ref pu])[(S'.reverse ++ [V.ref pu]).length - 1]? = some (V.ref pu) := by
          rw [List.length_append, List.getElem?_append_right (by show S'.reverse.length ≤ S'.reverse.length + 1 - 1; omega)]
          rw [show S'.reverse.length + [V.ref pu].length - 1 - S'.reverse.length = 0 by show S'.reverse.length + 1 - 1 - _ = 0; omega]
          rfl
        walk_at "rd"
        rw [show (!(S'.reverse ++ [V.ref pu]).isEmpty) = true by simp]
        walk_at "rd"
        refine pop_lst h4s hlast ?_
        refine putO_gen h4s fun H5 s5 h5s => ?_
        rw [List.dropLast_concat] at h5s
        have h5t := s5.at htt h4t
        have s05 : Same H H5 := SL.same s4 s5 gt2
        have hpu5 := s5.tup hpu
        have hpn5 := s5.ins hpn
        have k5 : KpS H4 H5 := KpS.sl s5
        have hq5 := sqt_kp k5 hq
        have hdn5 : Rows H5 ts dn := hdn.ts (TpS.sl s5)
        have hS5 : Paired (PendAt K aNode H5) S' es' := Paired.imp (fun _ _ r => r.kp k5) hS'
        have hus5 := NodesAt.kp k5 hus
        walk_at "rd"
        refine isi_own hpn5 u_Node.u kit_self ?_
        walk_at "rd"
        refine isi_sqt hq5 ?_
        walk_at "rd"
        refine newO_gen fun nt H6 g6 s6 h6 => ?_
        have h6t := s6 _ _ h5t
        have h6s := s6 _ _ h5s
        have hpn6 := s6 _ _ hpn5
        have hq6 := sqt_kp (KpS.same s6) hq5
        have s06 : Same H H6 := Same.trans s05 s6
        have hdn6 : Rows H6 ts dn := hdn5.ts (TpS.same s6)
        have hS6 : Paired (PendAt K aNode H6) S' es' := Paired.imp (fun _ _ r => r.kp (KpS.same s6)) hS5
        have hus6 := NodesAt.kp (KpS.same s6) hus5
        walk_at "rd"
        refine loopT_by (xs := [.int e.2.1.st, .int e.2.1.ld, .int e.2.1.wd, .int e.2.1.lk, .int e.2.1.al, .int e.2.1.pp]) (fun j σ' H' => ∃ o8, σ' = [some v, some (.int (k.cnt + 2)), some (.ref t0), some (.ref t2), some (.int (0 + (i : Int))), some (.int e.1), some (.ref pn), some (.ref nt), o8, o9] ∧ H' = H6) ⟨o8, rfl, rfl⟩ ?_ ?_ ?_
        · rintro j σ' H' _ ⟨o8, rfl, rfl⟩
          exact h6
        · rintro j x σ' H' hx ⟨o8, rfl, rfl⟩
          have hx' : ∃ n : Int, x = .int n := by
            have hm := List.mem_of_getElem? hx
            simp only [List.mem_cons, List.not_mem_nil, or_false] at hm
            rcases hm with h | h | h | h | h | h <;> exact ⟨_, h⟩
          obtain ⟨n, rfl⟩ := hx'
          walk_at "rd"
          exact ⟨_, rfl, rfl⟩
        · rintro σ' H' ⟨o8, rfl, rfl⟩
          walk_at "rd"
          refine newO_gen fun ta H7 g7 s7 h7 => ?_
          have h7n := s7 _ _ h6
          have hpn7 := s7 _ _ hpn6
          walk_at "rd"
          refine add_tup h7 h7n (by simp) (by simp) (by walk_at "sz") ?_
          refine newO_gen fun tr H8 g8 s8 h8 => ?_
          have s68 : Same H' H8 := Same.trans s7 s8
          have h8t := s68 _ _ h6t
          have h8s := s68 _ _ h6s
          have hq8 := sqt_kp (KpS.same s68) hq6
          have hpn8 := s68 _ _ hpn6
          have s08 : Same H H8 := Same.trans s06 s68
          walk_at "rd"
          refine putO_gen h8t fun H9 s9 h9t => ?_
          have h9s := s9.at htt.symm h8s
          have hpn9 := s9.ins hpn8
          have hq9 := sqt_kp (KpS.sl s9) hq8
          have s09 : Same H H9 := SL.same s08 s9 g1
          have k69 : KpS H' H9 := KpS.trans (KpS.same s68) (KpS.sl s9)
          have hS9 : Paired (PendAt K aNode H9) S' es' := Paired.imp (fun _ _ r => r.kp k69) hS6
          have hus9 := NodesAt.kp k69 hus6
          have hdn9 : Rows H9 (ts ++ [.ref tr]) (dn ++ [⟨e.1, e.2.1⟩]) := Paired.snoc (hdn6.ts ((TpS.same s68).trans (TpS.sl s9))) ⟨tr, rfl, s9.tup h8⟩
          have hul := hus9.len
          have hpl : (pendR (e :: es')).length = 1 + e.2.2.cnt + (pendR es').length := by
            show (_ ++ pendR es').length + 1 = _
            rw [List.length_append, rowsF_len]
            omega
          have hfl : e.2.2.len ≤ e.2.2.cnt := by
            rw [← roots_len 0, ← rowsF_len 0, ← pendR_roots]
            exact pend_len _
          walk_at "rd"
          refine len_sqt hq9 ?_
          walk_at "rd"
          rw [show ((us.length : Int) - 1 - -1).toNat = us.length by omega]
          have hpe := pend_len es'
          refine loopC_by (fun j σ' H' => ∃ (ws : List V) (o9 : Option V), σ' = [some v, some (.int (k.cnt + 2)), some (.ref t0), some (.ref t2), some (.int (0 + (i : Int))), some (.int e.1), some (.ref pn), some (.ref nt), o8, o9] ∧ Same H H' ∧ KpS H9 H' ∧ H' t0 = some (.lst (ts ++ [.ref tr])) ∧
            H' t2 = some (.lst (ws ++ S').reverse) ∧ Paired (PendAt K aNode H') ws ((rootsF (e.1 + 1) e.2.2).drop (us.length - j)) ∧ ws.length = j) ?_ ?_ ?_
          · refine ⟨[], o9, rfl, s09, KpS.same (Same.refl _), h9t, h9s, ?_, rfl⟩
            rw [List.drop_eq_nil_of_le (by rw [roots_len]; omega)]
            exact .nil
          · rintro j σ' H10 hj ⟨ws, o9', rfl, s10, k10, h10t, h10s, hws, hwl⟩
            have hji : (us.length : Int) - 1 + (j : Int) * -1 = ((us.length - 1 - j : Nat) : Int) := by omega
            rw [hji]
            obtain ⟨vv, ee, hv1, hv2, hv3, hv4⟩ := NodesAt.at (e.1 + 1) (i := us.length - 1 - j) hus9 (by omega)
            have hat : atI us ((us.length - 1 - j : Nat) : Int) = some vv := atI_nat hv1
            have hpn10 := k10.ins hpn9
            have hq10 := sqt_kp k10 hq9
            have hrl : (ws ++ S').reverse.length = j + es'.length := by rw [List.length_reverse, List.length_append, hwl, hSl]
            walk_at "rd"
            refine ix_sqt hq10 hat ?_
            walk_at "rd"
            refine newO_gen fun tn H11 g11 s11 h11 => ?_
            have h11s := s11 _ _ h10s
            walk_at "rd"
            refine putO_gen h11s fun H12 s12 h12s => ?_
            refine ⟨.ref tn :: ws, _, rfl, SL.same (Same.trans s10 s11) s12 gt2, KpS.trans k10 (KpS.trans (KpS.same s11) (KpS.sl s12)), s12.at htt (s11 _ _ h10t), ?_, ?_, by rw [List.length_cons, hwl]⟩
            · rw [h12s, List.cons_append, List.reverse_cons]
            · have kk12 : KpS H10 H12 := KpS.trans (KpS.same s11) (KpS.sl s12)
              rw [show us.length - (j + 1) = us.length - 1 - j by omega, List.drop_eq_getElem_cons (by rw [roots_len]; omega)]
              have hee : (rootsF (e.1 + 1) e.2.2)[us.length - 1 - j]'(by rw [roots_len]; omega) = ee := by
                rw [List.getElem?_eq_getElem (by rw [roots_len]; omega)] at hv2
                exact Option.some.inj hv2
              rw [hee, show us.length - 1 - j + 1 = us.length - j by omega]
              refine .cons ⟨tn, vv, rfl, ?_, hv4.kp (KpS.trans k10 kk12)⟩ (Paired.imp (fun _ _ r => r.kp kk12) hws)
              rw [hv3]
              exact s12.tup h11
          · rintro σ' H10 ⟨ws, o9', rfl, s10, k10, h10t, h10s, hws, hwl⟩
            rw [Nat.sub_self, List.drop_zero] at hws
            refine ⟨_, ws ++ S', dn ++ [⟨e.1, e.2.1⟩], rootsF (e.1 + 1) e.2.2 ++ es', _, _, _, _, _, _, rfl, s10, h10t, hdn9.ts k10.tp, by rw [List.length_append, hdl]; rfl, h10s, Paired.app hws (Paired.imp (fun _ _ r => r.kp k10) hS9), ?_⟩
            rw [← hE, pendR_app, pendR_roots, List.append_assoc]
            rfl
    · rintro σ' H4 ⟨ts, S, dn, es, o4, o5, o6, o7, o8, o9, rfl, s4, h4t, hdn, hdl, h4s, hS, hE⟩
      exfalso
      have : dn.length + (pendR es).length = k.cnt + 1 := by rw [← List.length_append, hE, hall]
      omega
end
end Z
namespace Z
open PySem PySem.Spec L2 ItX
/-! ## lists of rows, compared -/
theorem row_dp {K : PySem.W.Frag} {H : Hp} {v : V} {r : Rw} (h : RowAt H v r) : Dp K H v (rwD r) := by
  obtain ⟨a, rfl, e⟩ := h
  exact .tup (SqT.of e) (.cons (.int _) (.cons (.str _) (.cons (.str _) (.cons (.int _) (.cons (.int _) (.cons (.int _) (.cons (.int _) (.cons (.int _) (.cons (.int _) .nil)))))))))
theorem eq_rows {K : PySem.W.Frag} {H : Hp} {p q : Addr} {r1 r2 : List Rw} {Q : VK} (h1 : RowsIn H p r1) (h2 : RowsIn H q r2) (o1 : ∀ x ∈ r1, DtOk x.d) (o2 : ∀ x ∈ r2, DtOk x.d) (h : Q (.bl (decide (r1 = r2))) H) : rEqU K (.ref p) (.ref q) H Q := by
  obtain ⟨us, hp, hr⟩ := h1
  obtain ⟨ws, hq, hw⟩ := h2
  refine eq_deep (.lst (SqL.of hp) (dp_map (fun _ _ r => row_dp r) hr)) (.lst (SqL.of hq) (dp_map (fun _ _ r => row_dp r) hw)) (shapedL (n := 1) (by omega) fun x hx => rwD_lay (o1 x hx)) (shapedL (n := 1) (by omega) fun x hx => rwD_lay (o2 x hx)) ?_
  rw [eqvL_map rwD_eqv]
  exact h
theorem ne_rows {K : PySem.W.Frag} {H : Hp} {p q : Addr} {r1 r2 : List Rw} {Q : VK} (h1 : RowsIn H p r1) (h2 : RowsIn H q r2) (o1 : ∀ x ∈ r1, DtOk x.d) (o2 : ∀ x ∈ r2, DtOk x.d) (h : Q (.bl (!decide (r1 = r2))) H) : rNeU K (.ref p) (.ref q) H Q := by
  obtain ⟨us, hp, hr⟩ := h1
  obtain ⟨ws, hq, hw⟩ := h2
  refine ne_deep (.lst (SqL.of hp) (dp_map (fun _ _ r => row_dp r) hr)) (.lst (SqL.of hq) (dp_map (fun _ _ r => row_dp r) hw)) (shapedL (n := 1) (by omega) fun x hx => rwD_lay (o1 x hx)) (shapedL (n := 1) (by omega) fun x hx => rwD_lay (o2 x hx)) ?_
  rw [eqvL_map rwD_eqv]
  exact h
abbrev trR (d : Dt) (k : Fo) : List Rw := ⟨0, d⟩ :: rowsF 1 k
theorem trR_len (d : Dt) (k : Fo) : (trR d k).length = k.cnt + 1 := by
  show (rowsF 1 k).length + 1 = _
  rw [rowsF_len]
theorem Lnk.root {K : PySem.W.Frag} {C : Addr} {H : Hp} {us : List V} {d : Dt} {k : Fo} (h : Lnk K C H us (trR d k)) : ∃ v, atI us 0 = some v ∧ NodeAt K C H v d k := by
  obtain ⟨v, hv, hn⟩ := h.node (j := 0) (by rw [trR_len]; omega) (stk_tree d k)
  exact ⟨v, atI_nat hv, hn⟩
theorem Grow.tr {n : Nat} {rows : List Rw} (h : Grow n rows) : ∃ d k, rows = trR d k ∧ k.cnt + 1 ≤ n ∧ (∀ x ∈ trR d k, DtOk x.d) ∧ DtOk d ∧ FoOk k := by
  obtain ⟨d, k, rfl⟩ := h.tre
  have hl := h.len
  have e := trR_len d k
  refine ⟨d, k, rfl, by rw [← e]; exact hl, h.ok, h.ok ⟨0, d⟩ (List.mem_cons_self ..), foOk_of fun x hx => h.ok x (List.mem_cons_of_mem _ hx)⟩
end Z
namespace Z
open PySem PySem.Spec L2 ItX
local macro_rules | `(tactic| walk_at "ne") => `(tactic| first
  | with_reducible assumption
  | with_reducible exact Ne.symm (by assumption)
  | exact Frs.ne (by with_reducible assumption) (by walk_at "hp")
  | exact Frs.ne' (by with_reducible assumption) (by walk_at "hp"))
local macro_rules | `(tactic| walk_at "hp") => `(tactic| first
  | with_reducible assumption
  | (with_reducible refine Same.at (by assumption) ?_; walk_at "hp")
  | (with_reducible refine SL.tup (by assumption) ?_; walk_at "hp")
  | (with_reducible refine SL.at (by assumption) (by walk_at "ne") ?_; walk_at "hp"))
local macro_rules | `(tactic| walk_at "sz") => `(tactic| first
  | with_reducible assumption
  | exact Nat.le_of_ble_eq_true rfl
  | (refine sz_le ?_; omega)
  | (refine sz_lt ?_; omega)
  | decide +kernel)
local macro_rules | `(tactic| walk_at "at") => `(tactic| first
  | with_reducible assumption
  | with_reducible exact at0
  | with_reducible exact at1
  | with_reducible exact at2
  | with_reducible exact ixN0)
local macro_rules | `(tactic| walk_at "nn") => `(tactic| first
  | omega
  | decide
  | exact ⟨by decide, by decide⟩
  | exact ⟨by omega, by omega⟩
  | exact ⟨by omega, by omega, by omega, by omega⟩)
local macro_rules | `(tactic| walk_at "rdv") => `(tactic| first
  | (with_reducible refine add_int ?_)
  | (with_reducible refine sub_int ?_)
  | (with_reducible refine neg_int ?_)
  | ((with_reducible refine ix_tpl (xs := ?xs) (v := ?v) ?h1 ?h2 ?_); (case h1 => walk_at "hp"); (case h2 => walk_at "at"))
  | ((with_reducible refine ix_lst (xs := ?xs) (v := ?v) ?h1 ?h2 ?_); (case h1 => walk_at "hp"); (case h2 => walk_at "at"))
  | (with_reducible refine eq_int ?_)
  | (with_reducible refine ne_int ?_)
  | (with_reducible refine lt_int ?_)
  | (with_reducible refine le_int ?_)
  | (with_reducible refine gt_int ?_)
  | (with_reducible refine ge_int ?_)
  | (with_reducible refine eq_str ?_)
  | (with_reducible refine ne_str ?_)
  | (with_reducible refine eq_bl ?_)
  | (with_reducible refine ne_bl ?_)
  | ((with_reducible refine mod_int ?hc ?_); (case hc => walk_at "nn"))
  | ((with_reducible refine div_int ?hc ?_); (case hc => walk_at "nn"))
  | ((with_reducible refine mul_intR ?hc ?_); (case hc => exact ⟨by decide, by decide⟩))
  | ((with_reducible refine mul_intR ?hc ?_); (case hc => exact ⟨by omega, by omega⟩))
  | ((with_reducible refine mul_intL ?hc ?_); (case hc => exact ⟨by omega, by omega⟩))
  | ((with_reducible refine pow_int ?hc ?_); (case hc => exact ⟨by decide, by decide, by decide⟩))
  | ((with_reducible refine add_str ?hc ?_); (case hc => walk_at "sz"))
  | ((with_reducible refine add_lst (xs := ?xs) (ys := ?ys) ?h1 ?h2 ?hc ?_); (case h1 => walk_at "hp"); (case h2 => walk_at "hp"); (case hc => walk_at "sz"))
  | ((with_reducible refine sl_strU ?hc ?_); (case hc => walk_at "sz"))
  | ((with_reducible refine sl_lst (xs := ?xs) ?h1 ?_); (case h1 => walk_at "hp"))
  | (with_reducible refine is_bl ?_)
  | (with_reducible refine isnt_bl ?_)
  | (with_reducible refine is_non ?_)
  | (with_reducible refine isnt_non ?_))
local macro_rules | `(tactic| walk_at "rdc") => `(tactic| first
  | ((with_reducible refine len_lst (xs := ?xs) ?h1 ?_); (case h1 => walk_at "hp"))
  | ((with_reducible refine len_tup (xs := ?xs) ?h1 ?_); (case h1 => walk_at "hp"))
  | ((with_reducible refine len_str ?hc ?_); (case hc => walk_at "sz"))
  | (with_reducible refine int_int ?_)
  | (with_reducible refine max_int ?_)
  | (with_reducible refine min_int ?_)
  | (with_reducible refine abs_int ?_)
  | (with_reducible refine isi_ii ?_)
  | (with_reducible refine isi_ib ?_)
  | (with_reducible refine isi_ss ?_)
  | (with_reducible refine isi_bb ?_)
  | ((with_reducible refine isi_tt (xs := ?xs) ?h1 ?_); (case h1 => walk_at "hp"))
  | ((with_reducible refine isi_ll (xs := ?xs) ?h1 ?_); (case h1 => walk_at "hp"))
  | ((with_reducible refine list_lst (xs := ?xs) ?h1 ?_); (case h1 => walk_at "hp"))
  | ((with_reducible refine list_tup (xs := ?xs) ?h1 ?_); (case h1 => walk_at "hp"))
  | ((with_reducible refine tuple_lst (xs := ?xs) ?h1 ?_); (case h1 => walk_at "hp"))
  | ((with_reducible refine tuple_tup (xs := ?xs) ?h1 ?_); (case h1 => walk_at "hp"))
  | ((with_reducible refine append_lst (xs := ?xs) ?h1 ?hc ?_); (case h1 => walk_at "hp"); (case hc => walk_at "sz"))
  | ((with_reducible refine clear_lst (xs := ?xs) ?h1 ?_); (case h1 => walk_at "hp"))
  | ((with_reducible refine set_lst (xs := ?xs) (k := ?k) ?h1 ?h2 ?_); (case h1 => walk_at "hp"); (case h2 => walk_at "at")))
local macro_rules | `(tactic| walk_at "rd1") => `(tactic| first
  | ((with_reducible refine rVar (v := ?v) ?h ?_); (case h => exact rfl))
  | (with_reducible refine rC ?_)
  | (with_reducible refine rCons ?_)
  | (with_reducible refine rNil ?_)
  | (with_reducible refine rOp ?_)
  | (with_reducible refine rSeq ?_)
  | (with_reducible refine rAsgN ?_)
  | (with_reducible refine rAsgT ?_)
  | (with_reducible refine rAsgS ?_)
  | (with_reducible refine rTest ?_)
  | (with_reducible refine rBl ?_)
  | (with_reducible refine rBl' ?_)
  | (with_reducible refine rInt ?_)
  | (with_reducible refine rInt' ?_)
  | (with_reducible refine rCall ?_)
  | (with_reducible refine rCB ?_)
  | (with_reducible refine rRet ?_)
  | (with_reducible refine rDrop ?_)
  | (with_reducible refine rIfS ?_)
  | (with_reducible refine rTup ?_)
  | (with_reducible refine rLst ?_)
  | (with_reducible refine ⟨Nat.le_of_ble_eq_true rfl, ?_⟩)
  | (with_reducible refine rSl ?_)
  | (with_reducible refine rPart ?_)
  | (with_reducible refine rNoPart ?_)
  | (with_reducible refine rBM ?_)
  | (with_reducible refine rBM0 ?_)
  | ((with_reducible refine tyL (xs := ?xs) ?h1 ?_); (case h1 => walk_at "hp"))
  | (with_reducible refine rM1 ?_)
  | (with_reducible refine rM0 ?_)
  | (with_reducible refine rStr ?_)
  | (with_reducible refine rTru ?_)
  | (with_reducible refine tru_bl ?_)
  | (with_reducible refine tru_int ?_)
  | ((with_reducible refine tru_lst (xs := ?xs) ?h1 ?_); (case h1 => walk_at "hp"))
  | ((with_reducible refine tru_tup (xs := ?xs) ?h1 ?_); (case h1 => walk_at "hp"))
  | ((with_reducible refine tru_str ?hc ?_); (case hc => walk_at "sz"))
  | (with_reducible refine rAnd ?_)
  | (with_reducible refine rOr ?_)
  | (with_reducible refine rNot ?_)
  | (with_reducible refine rAndV ?_)
  | (with_reducible refine rOrV ?_)
  | (with_reducible refine rNotV ?_)
  | (with_reducible refine rIfE ?_)
  | (with_reducible refine rChain ?_)
  | (with_reducible refine rChain3 ?_)
  | (with_reducible refine ifT ?_)
  | (with_reducible refine ifF ?_)
  | (with_reducible refine ifNF ?_)
  | (with_reducible refine ifNT ?_)
  | (with_reducible refine rNext ?_)
  | (with_reducible refine rBrk ?_)
  | (with_reducible refine rCnt ?_)
  | (with_reducible refine rRetN ?_)
  | (with_reducible refine rForR1 ?_)
  | (with_reducible refine rForR2 ?_)
  | (with_reducible refine rForL ?_)
  | ((with_reducible refine rRg1 ?hb ?_); (case hb => walk_at "nn"))
  | ((with_reducible refine rRg2 ?hb ?_); (case hb => walk_at "nn"))
  | ((with_reducible refine rRf (xs := ?xs) ?h1 ?_); (case h1 => walk_at "hp"))
  | (with_reducible refine rLcR1 ?_)
  | (with_reducible refine rLcR2 ?_)
  | (with_reducible refine rLcL ?_)
  | (with_reducible refine gN ?_)
  | (with_reducible refine gNl ?_)
  | (with_reducible refine gC ?_)
  | ((with_reducible refine gT (xs := ?xs) ?h1 ?h2 ?_); (case h1 => walk_at "hp"); (case h2 => exact rfl))
  | (with_reducible refine rUn ?_)
  | walk_at "rdv"
  | walk_at "rdc")
local macro_rules | `(tactic| walk_at "rd") => `(tactic| repeat walk_at "rd1")

local macro_rules | `(tactic| walk_at "rd1") => `(tactic| first
  | (with_reducible refine rCallS ?_)
  | (with_reducible refine rRaise ?_)
  | (with_reducible refine rXf ?_)
  | (with_reducible refine rXi ?_)
  | (with_reducible refine rOst ?_)
  | (with_reducible refine rRevL ?_)
  | ((with_reducible refine revL_end (xs := ?xs) ?h1 ?_); (case h1 => walk_at "hp")))

local macro_rules | `(tactic| walk_at "rd1") => `(tactic| first
  | (with_reducible refine rForR3 ?_)
  | ((with_reducible refine rRgD ?hb ?_); (case hb => walk_at "nn"))
  | (with_reducible refine gS ?_))

local macro_rules | `(tactic| walk_at "rd1") => `(tactic| first
  | (with_reducible refine rFld ?_)
  | (with_reducible refine rSFld ?_)
  | (with_reducible refine rMake ?_)
  | (with_reducible refine rMeth ?_)
  | (with_reducible refine rForT ?_)
  | (with_reducible refine rLcT ?_)
  | (with_reducible refine rLcO ?_)
  | (with_reducible refine rForO ?_)
  | (with_reducible refine rLstY ?_)
  | ((with_reducible refine rRt (xs := ?xs) ?h1 ?_); (case h1 => walk_at "hp"))
  | ((with_reducible refine listY_lst (xs := ?xs) ?h1 ?_); (case h1 => walk_at "hp"))
  | ((with_reducible refine listY_tup (xs := ?xs) ?h1 ?_); (case h1 => walk_at "hp")))

local macro_rules | `(tactic| walk_at "hp") => `(tactic| first
  | (with_reducible refine SL.ins (by assumption) ?_; walk_at "hp"))
local macro_rules | `(tactic| walk_at "at") => `(tactic| first
  | with_reducible exact at3
  | with_reducible exact at4
  | with_reducible exact at5
  | with_reducible exact at6
  | with_reducible exact at7
  | with_reducible exact at8)
local macro_rules | `(tactic| walk_at "rd1") => `(tactic| first
  | (with_reducible refine rMkWK ?_)
  | (with_reducible refine rForS ?_)
  | (with_reducible refine rDGet ?_)
  | (with_reducible refine rDPut ?_)
  | (with_reducible refine rIts ?_)
  | (with_reducible refine rLstRg ?_)
  | ((with_reducible refine reverse_lst (xs := ?xs) ?h1 ?_); (case h1 => walk_at "hp"))
  | ((with_reducible refine extend_lst (xs := ?xs) (ys := ?ys) ?h1 ?h2 ?hc ?_); (case h1 => walk_at "hp"); (case h2 => walk_at "hp"); (case hc => walk_at "sz"))
  | ((with_reducible refine fN_kind (mg := ?mg) (C := ?C) (dx := ?dx) (d := ?d) (ns := ?ns) ?hu ?hp ?_); (case hu => with_reducible assumption); (case hp => walk_at "hp"))
  | ((with_reducible refine fN_symbol (mg := ?mg) (C := ?C) (dx := ?dx) (d := ?d) (ns := ?ns) ?hu ?hp ?_); (case hu => with_reducible assumption); (case hp => walk_at "hp"))
  | ((with_reducible refine fN_state (mg := ?mg) (C := ?C) (dx := ?dx) (d := ?d) (ns := ?ns) ?hu ?hp ?_); (case hu => with_reducible assumption); (case hp => walk_at "hp"))
  | ((with_reducible refine fN_lead (mg := ?mg) (C := ?C) (dx := ?dx) (d := ?d) (ns := ?ns) ?hu ?hp ?_); (case hu => with_reducible assumption); (case hp => walk_at "hp"))
  | ((with_reducible refine fN_width (mg := ?mg) (C := ?C) (dx := ?dx) (d := ?d) (ns := ?ns) ?hu ?hp ?_); (case hu => with_reducible assumption); (case hp => walk_at "hp"))
  | ((with_reducible refine fN_look (mg := ?mg) (C := ?C) (dx := ?dx) (d := ?d) (ns := ?ns) ?hu ?hp ?_); (case hu => with_reducible assumption); (case hp => walk_at "hp"))
  | ((with_reducible refine fN_alternative (mg := ?mg) (C := ?C) (dx := ?dx) (d := ?d) (ns := ?ns) ?hu ?hp ?_); (case hu => with_reducible assumption); (case hp => walk_at "hp"))
  | ((with_reducible refine fN_nodes (mg := ?mg) (C := ?C) (dx := ?dx) (d := ?d) (ns := ?ns) ?hu ?hp ?_); (case hu => with_reducible assumption); (case hp => walk_at "hp"))
  | ((with_reducible refine fN_popped (mg := ?mg) (C := ?C) (dx := ?dx) (d := ?d) (ns := ?ns) ?hu ?hp ?_); (case hu => with_reducible assumption); (case hp => walk_at "hp")))

local macro_rules | `(tactic| walk_at "rd1") => `(tactic| first
  | (with_reducible refine nin_sign ?_)
  | (with_reducible refine in_sign ?_)
  | (with_reducible refine rForET ?_)
  | (with_reducible refine rForEL ?_)
  | (with_reducible refine rLcRev ?_)
  | ((with_reducible refine ix_str (c := ?c) ?hl ?h2 ?_); (case hl => walk_at "sz"); (case h2 => with_reducible assumption))
  | (with_reducible refine rAsgU ?_)
  | ((with_reducible refine gUl (xs := ?xs) ?h1 ?h2 ?_); (case h1 => walk_at "hp"); (case h2 => exact rfl)))

def sp_law (K : PySem.W.Frag) : Sp := fun vs H Q _ => ∃ (a : Addr) (ns : List Int), vs = [.ref a] ∧ SqL K H a (ns.map V.int) ∧ ns.length ≤ 63 ∧ ∀ H', Q (.bl true) H'
theorem FoOk.fw : ∀ {f : Fo}, FoOk f → FoW f
  | .nil, _ => trivial
  | .cons d k r, h => ⟨h.1.w, FoOk.fw h.2.1, FoOk.fw h.2.2⟩
theorem use_read_tree {K : PySem.W.Frag} {C aE : Addr} {z : Str} {d : Dt} {k : Fo} {H : Hp} {Q : VK} {E : XK} (hz : TL.tl z = nodeW d k) (hd : DtOk d) (hk : FoOk k) (hl : z.length ≤ 9000000) (h : ∀ v H', Same H H' → NodeAt K C H' v d k → Q v H') : sp_read_tree K C aE [.str z] H Q E := by
  refine ⟨z, .ok (d, k), rfl, hl, by rw [hz]; exact run_node hd.w hk.fw, fun d' k' e v H' s n => ?_, fun e q => by cases q⟩
  cases e
  exact h v H' s n
def topD : Dt := ⟨"top", "top", 0, 0, 0, 0, 1, 0⟩
def pairD : Dt := ⟨"pair", "pair", 0, 0, 0, 0, 0, 0⟩
theorem topD_ok : DtOk topD := ⟨⟨⟨.inl (by decide +kernel), by decide +kernel⟩, ok_of (by decide +kernel)⟩, ⟨⟨.inl (by decide +kernel), by decide +kernel⟩, ok_of (by decide +kernel)⟩, ⟨by decide, by decide⟩, ⟨by decide, by decide⟩, ⟨by decide, by decide⟩, ⟨by decide, by decide⟩, ⟨by decide, by decide⟩, ⟨by decide, by decide⟩⟩
theorem pairD_ok : DtOk pairD := ⟨⟨⟨.inl (by decide +kernel), by decide +kernel⟩, ok_of (by decide +kernel)⟩, ⟨⟨.inl (by decide +kernel), by decide +kernel⟩, ok_of (by decide +kernel)⟩, ⟨by decide, by decide⟩, ⟨by decide, by decide⟩, ⟨by decide, by decide⟩, ⟨by decide, by decide⟩, ⟨by decide, by decide⟩, ⟨by decide, by decide⟩⟩
def topK (d : Dt) (k : Fo) : Fo := .cons pairD (.cons d k (.cons d k .nil)) (.cons d k .nil)
def topS (z : Str) : Str := ("(top top 0 0 0 0 1 0 (pair pair 0 0 0 0 0 0 " : Str) ++ z ++ " " ++ z ++ ") " ++ z ++ ")"
theorem top_text {z : Str} {d : Dt} {k : Fo} (hz : TL.tl z = nodeW d k) : TL.tl (topS z) = nodeW topD (topK d k) := by
  have e1 : TL.tl ("(top top 0 0 0 0 1 0 (pair pair 0 0 0 0 0 0 " : Str) = 40 :: (hdL topD ++ (32 :: 40 :: (hdL pairD ++ [32]))) := by decide +kernel
  have e2 : TL.tl (" " : Str) = [32] := by decide +kernel
  have e3 : TL.tl (") " : Str) = [41, 32] := by decide +kernel
  have e4 : TL.tl (")" : Str) = [41] := by decide +kernel
  unfold topS
  simp only [TL.tl_append, hz, e1, e2, e3, e4]
  show _ = 40 :: (hdL topD ++ (kidsW (topK d k) ++ [41]))
  have hk : ∀ r : Fo, kidsW (.cons d k r) = 32 :: (nodeW d k ++ kidsW r) := fun r => by
    show 32 :: 40 :: (hdL d ++ (kidsW k ++ (41 :: kidsW r))) = 32 :: ((40 :: (hdL d ++ (kidsW k ++ [41]))) ++ kidsW r)
    simp
  have ht : kidsW (topK d k) = 32 :: 40 :: (hdL pairD ++ ((32 :: (nodeW d k ++ (32 :: (nodeW d k ++ [])))) ++ (41 :: (32 :: (nodeW d k ++ []))))) := by
    show 32 :: 40 :: (hdL pairD ++ (kidsW (.cons d k (.cons d k .nil)) ++ (41 :: kidsW (.cons d k .nil)))) = _
    rw [hk, hk]
    rfl
  rw [ht]
  simp
section
variable {P : Program} {w : World} {K : PySem.W.Frag} {mg : Str → Option Value} {base : Heap} {aNode aNil aE : Addr}
theorem fn_law {f : Addr} {fd : FuncData} (T : Txt mg) (FD : C8.Def K mg "law" s_law f fd)
    (c_law_reel : C8.Cal P w K mg base 1 "_law_reel" (sp_law_reel K) [])
    (c_law_tree : C8.Cal P w K mg base 7 "_law_tree" sp_law_tree [])
    (c_law_text : C8.Cal P w K mg base 1 "_law_text" sp_law_rows_text [])
    (c_read_tree : CalX P w K mg base 8 "read_tree" (sp_read_tree K aNode aE))
    (c_law_row : C8.Cal P w K mg base 6 "_law_row" sp_law_row [])
    (c_law_made : C8.Cal P w K mg base 3 "_law_made" (sp_law_made K aNode) [])
    (c_write_tree : C8.Cal P w K mg base 2 "write_tree" (sp_write_tree K aNode) [])
    (c_law_levels : C8.Cal P w K mg base 3 "_law_levels" sp_law_levels [])
    (c_law_told : C8.Cal P w K mg base 1 "_law_told" (sp_law_told K aNode) [])
    (c_Node_init6 : MakK P w K mg base 1 "Node" aNode 2 ["state", "lead", "width", "look", "alternative", "nodes"] (sp_Node_init K aNode) (gKW [.int (0)])) : FnOk P w K mg base C8.CX0 9 f fd ["script"] (sp_law K) := by
  refine C8.fn0 FD.fn sc_law (fun vs H Q E h => ?_) (fun cdv A outer s H vs Q E hr h => ?_)
  · obtain ⟨a, ns, rfl, _⟩ := h; rfl
  · obtain ⟨a, ns, rfl, hS, hl, kk⟩ := h
    refine ⟨_, (pss_cons (ps_set (i := 1) sc_law.nd rfl (.inr rfl) (C8.pe_c c_law_reel hr (by decide) (by rfl) (pa_cons (pv 0) pa_nil)))
  (pss_cons (ps_set (i := 2) sc_law.nd rfl (.inl rfl) (C8.pe_c c_law_tree hr (by decide) (by rfl) (pa_cons (pv 1) pa_nil)))
  (pss_cons (ps_setLc (i := 3) (own := [("level", 16)]) rfl sc_law.nd rfl rfl (sw_true rfl rfl rfl (by decide +kernel)) (pi_listK K (C8.pe_c c_law_levels hr (by decide) (by rfl) (pa_cons (pv 1) pa_nil))) (blkOk_by (own := [("level", 16)]) (N := ["script", "reel", "rows", "others", "first", "second", "text", "near", "pair", "top", "twice", "tree", "due", "written", "back", "beside", "level"]) (sc := C8.fnScope s_law) (by decide +kernel)) (fun _ _ _ _ _ => (pg_name (i := 16) sc_law.nd rfl (.inl rfl))) (fun _ _ _ _ _ => pts_nil) (fun _ _ _ _ _ => (C8.pe_c c_law_row hr (by decide) (by rfl) (pa_cons (pv 1) (pa_cons (pv 16) pa_nil)))))
  (pss_cons (ps_set (i := 4) sc_law.nd rfl (.inl rfl) (pe_ix (ix_K K) (C8.pe_c c_law_made hr (by decide) (by rfl) (pa_cons (pv 2) pa_nil)) pe_int (fun _ _ => rfl)))
  (pss_cons (ps_set (i := 5) sc_law.nd rfl (.inl rfl) (pe_ix (ix_K K) (C8.pe_c c_law_made hr (by decide) (by rfl) (pa_cons (pv 3) pa_nil)) pe_int (fun _ _ => rfl)))
  (pss_cons (ps_set (i := 6) sc_law.nd rfl (.inl rfl) (C8.pe_c c_law_text hr (by decide) (by rfl) (pa_cons (pv 2) pa_nil)))
  (pss_cons (ps_set (i := 7) sc_law.nd rfl (.inl rfl) (C8.pe_c c_law_text hr (by decide) (by rfl) (pa_cons (pv 3) pa_nil)))
  (pss_cons (ps_set (i := 8) sc_law.nd rfl (.inl rfl) (pe_mkIK (W := W_Node6 K aNode) c_Node_init6 hr (by decide) (by rfl) (pa_cons pe_str (pa_cons pe_str pa_nil)) (pk_cons pe_int (pk_cons pe_int (pk_cons pe_int (pk_cons pe_int (pk_cons pe_int (pk_cons (pe_tup (pa_cons (pv 5) (pa_cons (pv 5) pa_nil))) pk_nil)))))) mk_Node6))
  (pss_cons (ps_set (i := 9) sc_law.nd rfl (.inl rfl) (pe_mkIK (W := W_Node6 K aNode) c_Node_init6 hr (by decide) (by rfl) (pa_cons pe_str (pa_cons pe_str pa_nil)) (pk_cons pe_int (pk_cons pe_int (pk_cons pe_int (pk_cons pe_int (pk_cons pe_int (pk_cons (pe_tup (pa_cons (pv 8) (pa_cons (pv 5) pa_nil))) pk_nil)))))) mk_Node6))
  (pss_cons (ps_set (i := 10) sc_law.nd rfl (.inl rfl) (pe_op (op_addK K) (pe_op (op_addK K) (pe_op (op_addK K) (pe_op (op_addK K) (pe_op (op_addK K) (pe_op (op_addK K) pe_str (pv 7)) pe_str) (pv 7)) pe_str) (pv 7)) pe_str))
  (pss_cons (ps_for PassesOwn.never rfl (pi_listK K (pe_lst (pa_cons (pe_tup (pa_cons (pv 4) (pa_cons (pv 6) pa_nil))) (pa_cons (pe_tup (pa_cons (pv 5) (pa_cons (pv 7) pa_nil))) (pa_cons (pe_tup (pa_cons (pv 9) (pa_cons (pv 10) pa_nil))) pa_nil))))) (pg_tup rfl (pgs_cons (pg_name (i := 11) sc_law.nd rfl (.inl rfl)) (pgs_cons (pg_name (i := 12) sc_law.nd rfl (.inl rfl)) pgs_nil))) (pss_cons (ps_set (i := 13) sc_law.nd rfl (.inl rfl) (C8.pe_c c_write_tree hr (by decide) (by rfl) (pa_cons (pv 11) pa_nil)))
  (pss_one (ps_if (PW.pt (pw_or (pt_not (pt_truK K (pe_callB (call_isiK' K) (by rfl) T.n_isinstance (by decide +kernel) (pa_cons (pv 13) (pa_cons (pe_bltn (v := .ty "str") (by rfl) T.n_str (by decide +kernel) rfl) pa_nil))) (by intro _; rfl))) (pw_or1 (pt_cmpR (op_neK K (hu64 hr)) (pv 13) (pv 12) (nomark _))))) (pss_one (ps_ret pe_bl)) pss_nil))))
  (pss_cons (ps_set (i := 14) sc_law.nd rfl (.inl rfl) (pe_cn c_read_tree hr (by decide) (by rfl) (pa_cons (pv 6) pa_nil)))
  (pss_cons (ps_set (i := 15) sc_law.nd rfl (.inl rfl) (pe_cn c_read_tree hr (by decide) (by rfl) (pa_cons (pv 7) pa_nil)))
  (pss_cons (ps_if (PW.pt (pw_or (pt_cmpR (op_neK K (hu64 hr)) (C8.pe_c c_write_tree hr (by decide) (by rfl) (pa_cons (pv 14) pa_nil)) (pv 6) (nomark _)) (pw_or1 (pt_cmpR (op_neK K (hu64 hr)) (C8.pe_c c_write_tree hr (by decide) (by rfl) (pa_cons (pv 15) pa_nil)) (pv 7) (nomark _))))) (pss_one (ps_ret pe_bl)) pss_nil)
  (pss_cons (ps_for PassesOwn.never rfl (pi_listK K (pe_lst (pa_cons (pe_tup (pa_cons (pv 14) (pa_cons (pv 2) pa_nil))) (pa_cons (pe_tup (pa_cons (pv 15) (pa_cons (pv 3) pa_nil))) (pa_cons (pe_tup (pa_cons (pv 4) (pa_cons (pv 2) pa_nil))) (pa_cons (pe_tup (pa_cons (pv 5) (pa_cons (pv 3) pa_nil))) pa_nil)))))) (pg_tup rfl (pgs_cons (pg_name (i := 11) sc_law.nd rfl (.inl rfl)) (pgs_cons (pg_name (i := 12) sc_law.nd rfl (.inl rfl)) pgs_nil))) (pss_one (ps_if (pt_cmpR (op_neK K (hu64 hr)) (C8.pe_c c_law_told hr (by decide) (by rfl) (pa_cons (pv 11) (pa_cons (pe_op (op_addK K) (pe_callB (call_lenK K) (by rfl) T.n_len PySem.boot_len (pa_cons (pv 12) pa_nil)) pe_int) pa_nil))) (pv 12) (nomark _)) (pss_one (ps_ret pe_bl)) pss_nil)))
  (pss_one (ps_ret pe_bl))))))))))))))))), ?_⟩
    show (_ : TS) _ [some (.ref a), none, none, none, none, none, none, none, none, none, none, none, none, none, none, none, none] H
    walk_at "rd"
    refine use_reel hS hl fun r H1 f1 s1 r1 => ?_
    walk_at "rd"
    refine use_tree r1 fun p rows1 H2 s2 r2 g2 hw1 hg1 => ?_
    have hpr : p ≠ r := (r1.ne g2).symm
    walk_at "rd"
    refine use_levels r2 fun lp lvs H3 s3 r3 g3 h3 hlv hll => ?_
    have hlr : lp ≠ r := (r2.ne g3).symm
    have hw1 := hw1.sl s3 hpr
    walk_at "rd"
    refine compL_draw h3 hlr r3 (fun acc H' => RowsFor lvs acc H') (fun _ => .nil) ?_ ?_
    · intro acc x Ha D c hx pa
      rw [List.getElem?_map] at hx
      obtain ⟨l, hl', rfl⟩ := Option.map_eq_some_iff.mp hx
      walk_at "rd"
      refine use_row1 c.reel fun v d Hb hd sb rb hv => ?_
      exact cDH_of c (by rw [List.length_map]; omega) sb rb fun Hc sc => pa.snoc ((TpS.sl sb).trans (TpS.sl sc)) hl' hd (hv.ts (TpS.sl sc))
    · intro acc H4 q hal pa s4 r4 h4 g4
      rw [List.length_map] at hal
      obtain ⟨rows2, e1, hg2⟩ := pa.all hal hlv
      have hw1 := hw1.sl s4 hpr
      have hw2 : RowsIn H4 q rows2 := ⟨acc, h4, e1⟩
      clear hS s1 s2 s3 s4 r1 r2 r3 r4 f1 g2 g3 g4 h3 hlr h4 e1 pa hpr
      obtain ⟨d, k, rfl, hk, ok1, od, of⟩ := hg1.tr
      obtain ⟨d', k', rfl, hk', ok2, od', of'⟩ := hg2.tr
      have hn1 := nodeW_len ok1
      have hn2 := nodeW_len ok2
      walk_at "rd"
      refine use_made hw1 (by rw [trR_len]; omega) fun m1 us1 H5 s5 g5 h5 hL1 => ?_
      obtain ⟨v1, hv1, hN1⟩ := hL1.root
      walk_at "rd"
      refine use_made (hw2.sm s5) (by rw [trR_len]; omega) fun m2 us2 H6 s6 g6 h6 hL2 => ?_
      obtain ⟨v2, hv2, hN2⟩ := hL2.root
      have s46 : Same H4 H6 := Same.trans s5 s6
      walk_at "rd"
      refine use_rows_text (hw1.sm s46) ok1 (by omega) fun z1 H7 s7 hz1 => ?_
      have s47 : Same H4 H7 := Same.trans s46 s7
      walk_at "rd"
      refine use_rows_text (hw2.sm s47) ok2 (by omega) fun z2 H8 s8 hz2 => ?_
      have hz1l : z1.length ≤ 9000000 := by rw [TL.len_tl, hz1]; omega
      have hz2l : z2.length ≤ 20000 := by rw [TL.len_tl, hz2]; omega
      have s48 : Same H4 H8 := Same.trans s47 s8
      have hN1 := hN1.kp (KpS.same (Same.trans (Same.trans s6 s7) s8))
      have hN2 := hN2.kp (KpS.same (Same.trans s7 s8))
      have hw1 := hw1.sm s48
      have hw2 := hw2.sm s48
      clear s48 s47 s46 s5 s6 s7 s8 hL1 hL2 h5 h6 g5 g6
      walk_at "rd"
      refine newO_gen fun q1 H9 g9 s9 h9 => ?_
      walk_at "rd"
      refine ⟨pairD, q1, _, rfl, rfl, rfl, SqT.of h9, ?_⟩
      refine newI_gen fun pp dp H10 g10 s10 h10 => ?_
      have s810 : Same H8 H10 := Same.trans s9 s10
      have hN2b := hN2.kp (KpS.same s810)
      have hPr : NodeAt K aNode H10 (.ref pp) pairD (.cons d' k' (.cons d' k' .nil)) := ⟨pp, dp, q1, [v2, v2], rfl, h10, SqT.of (s10 _ _ h9), NodesAt.cons hN2b (NodesAt.cons hN2b rfl)⟩
      walk_at "rd"
      refine newO_gen fun q2 H11 g11 s11 h11 => ?_
      walk_at "rd"
      refine ⟨topD, q2, _, rfl, rfl, rfl, SqT.of h11, ?_⟩
      refine newI_gen fun tp dt H12 g12 s12 h12 => ?_
      have s1012 : Same H10 H12 := Same.trans s11 s12
      have s812 : Same H8 H12 := Same.trans s810 s1012
      have hTp : NodeAt K aNode H12 (.ref tp) topD (topK d' k') := ⟨tp, dt, q2, [.ref pp, v2], rfl, h12, SqT.of (s12 _ _ h11), NodesAt.cons (hPr.kp (KpS.same s1012)) (NodesAt.cons (hN2.kp (KpS.same s812)) rfl)⟩
      have hN1 := hN1.kp (KpS.same s812)
      have hN2 := hN2.kp (KpS.same s812)
      have hw1 := hw1.sm s812
      have hw2 := hw2.sm s812
      have l0 : ("(top top 0 0 0 0 1 0 (pair pair 0 0 0 0 0 0 " : Str).length = 44 := by decide +kernel
      have l1 : (" " : Str).length = 1 := by decide +kernel
      have l2 : (") " : Str).length = 2 := by decide +kernel
      have l3 : (")" : Str).length = 1 := by decide +kernel
      have a1 := len_app ("(top top 0 0 0 0 1 0 (pair pair 0 0 0 0 0 0 " : Str) z2
      have a2 := len_app (("(top top 0 0 0 0 1 0 (pair pair 0 0 0 0 0 0 " : Str) ++ z2) " "
      have a3 := len_app (("(top top 0 0 0 0 1 0 (pair pair 0 0 0 0 0 0 " : Str) ++ z2 ++ " ") z2
      have a4 := len_app (("(top top 0 0 0 0 1 0 (pair pair 0 0 0 0 0 0 " : Str) ++ z2 ++ " " ++ z2) ") "
      have a5 := len_app (("(top top 0 0 0 0 1 0 (pair pair 0 0 0 0 0 0 " : Str) ++ z2 ++ " " ++ z2 ++ ") ") z2
      have htt := top_text hz2
      walk_at "rd"
      generalize htw : (("(top top 0 0 0 0 1 0 (pair pair 0 0 0 0 0 0 " : Str) ++ z2 ++ " " ++ z2 ++ ") " ++ z2 ++ ")") = tw
      rw [show topS z2 = tw from htw] at htt
      clear a1 a2 a3 a4 a5 s9 s10 s11 s12 s810 s1012 s812 h9 h10 h11 h12 g9 g10 g11 g12 hPr hN2b
      have hnt : (nodeW topD (topK d' k')).length ≤ 9000000 := by
        rw [← htt, ← TL.len_tl, ← htw]
        simp only [len_app]
        omega
      refine newO_gen fun ta H13 g13 s13 h13 => ?_
      walk_at "rd"
      refine newO_gen fun tb H14 g14 s14 h14 => ?_
      walk_at "rd"
      refine newO_gen fun tc H15 g15 s15 h15 => ?_
      walk_at "rd"
      refine newO_gen fun tl H16 g16 s16 h16 => ?_
      have s1216 : Same H12 H16 := Same.trans (Same.trans s13 s14) (Same.trans s15 s16)
      have h16a := s16 _ _ (s15 _ _ (s14 _ _ h13))
      have h16b := s16 _ _ (s15 _ _ h14)
      have h16c := s16 _ _ h15
      have hN1 := hN1.kp (KpS.same s1216)
      have hN2 := hN2.kp (KpS.same s1216)
      have hTp := hTp.kp (KpS.same s1216)
      have hw1 := hw1.sm s1216
      have hw2 := hw2.sm s1216
      clear s13 s14 s15 s16 s1216 g13 g14 g15 g16 h13 h14 h15
      walk_at "rd"
      have one : ∀ {i : Nat} {o11 o12 o13 : Option V} {H' : Hp} {t : Addr} {v : V} {dd : Dt} {kf : Fo} {z : Str}, Same H16 H' → H16 t = some (.tup [v, .str z]) → NodeAt K aNode H16 v dd kf → DtOk dd → FoOk kf → kf.cnt ≤ 1000000 → TL.tl z = nodeW dd kf → (nodeW dd kf).length ≤ 9000000 → True := fun _ _ _ _ _ _ _ _ => trivial
      refine loopL_by (xs := [.ref ta, .ref tb, .ref tc]) (fun i σ' H' => ∃ (o11 o12 o13 : Option V), σ' = [some (.ref a), some (.ref r), some (.ref p), some (.ref q), some v1, some v2, some (.str z1), some (.str z2), some (.ref pp), some (.ref tp), some (.str tw), o11, o12, o13, none, none, none] ∧ Same H16 H') ?_ ?_ ?_ ?_
      · exact ⟨_, _, _, rfl, Same.refl _⟩
      · rintro i σ' H' hi ⟨_, _, _, rfl, s'⟩
        exact s' _ _ h16
      · rintro i x σ' H17 hx ⟨x11, x12, x13, rfl, s17⟩
        have h17a := s17 _ _ h16a
        have h17b := s17 _ _ h16b
        have h17c := s17 _ _ h16c
        match i, hx with
        | 0, hx =>
          cases hx
          walk_at "rd"
          refine use_write_tree (hN1.kp (KpS.same s17)) od of (by omega) (by omega) fun z H18 s18 hz => ?_
          have e : z = z1 := TL.ext_tl (hz.trans hz1.symm)
          subst e
          walk_at "rd"
          rw [decide_eq_true rfl]
          walk_at "rd"
          exact ⟨_, _, _, rfl, Same.trans s17 s18⟩
        | 1, hx =>
          cases hx
          walk_at "rd"
          refine use_write_tree (hN2.kp (KpS.same s17)) od' of' (by omega) (by omega) fun z H18 s18 hz => ?_
          have e : z = z2 := TL.ext_tl (hz.trans hz2.symm)
          subst e
          walk_at "rd"
          rw [decide_eq_true rfl]
          walk_at "rd"
          exact ⟨_, _, _, rfl, Same.trans s17 s18⟩
        | 2, hx =>
          cases hx
          have hct : (topK d' k').cnt = 1 + (1 + k'.cnt + (1 + k'.cnt + 0)) + (1 + k'.cnt + 0) := rfl
          walk_at "rd"
          refine use_write_tree (hTp.kp (KpS.same s17)) topD_ok ⟨pairD_ok, ⟨od', of', od', of', trivial⟩, od', of', trivial⟩ (by rw [hct]; omega) hnt fun z H18 s18 hz => ?_
          have e : z = tw := TL.ext_tl (hz.trans htt.symm)
          subst e
          walk_at "rd"
          rw [decide_eq_true rfl]
          walk_at "rd"
          exact ⟨_, _, _, rfl, Same.trans s17 s18⟩
        | (j + 3), hx => cases hx
      · clear one h16a h16b h16c hTp
        rintro σ' H17 ⟨x11, x12, x13, rfl, s17⟩
        have hN1 := hN1.kp (KpS.same s17)
        have hN2 := hN2.kp (KpS.same s17)
        have hw1 := hw1.sm s17
        have hw2 := hw2.sm s17
        walk_at "rd"
        refine use_read_tree hz1 od of hz1l fun b1 H18 s18 hB1 => ?_
        walk_at "rd"
        refine use_read_tree hz2 od' of' (by omega) fun b2 H19 s19 hB2 => ?_
        have hB1 := hB1.kp (KpS.same s19)
        walk_at "rd"
        refine use_write_tree hB1 od of (by omega) (by omega) fun z H20 s20 hz => ?_
        have e : z = z1 := TL.ext_tl (hz.trans hz1.symm)
        subst e
        walk_at "rd"
        rw [decide_eq_true rfl]
        walk_at "rd"
        refine use_write_tree (hB2.kp (KpS.same s20)) od' of' (by omega) (by omega) fun z' H21 s21 hz' => ?_
        have e : z' = z2 := TL.ext_tl (hz'.trans hz2.symm)
        subst e
        walk_at "rd"
        rw [decide_eq_true rfl]
        walk_at "rd"
        have s1921 : Same H19 H21 := Same.trans s20 s21
        have s1721 : Same H17 H21 := Same.trans (Same.trans s18 s19) s1921
        have hB1 := hB1.kp (KpS.same s1921)
        have hB2 := hB2.kp (KpS.same s1921)
        have hN1 := hN1.kp (KpS.same s1721)
        have hN2 := hN2.kp (KpS.same s1721)
        have hw1 := hw1.sm s1721
        have hw2 := hw2.sm s1721
        clear s17 s18 s19 s20 s21 s1921 s1721
        refine newO_gen fun ta H22 g22 s22 h22 => ?_
        walk_at "rd"
        refine newO_gen fun tb H23 g23 s23 h23 => ?_
        walk_at "rd"
        refine newO_gen fun tc H24 g24 s24 h24 => ?_
        walk_at "rd"
        refine newO_gen fun td H25 g25 s25 h25 => ?_
        walk_at "rd"
        refine newO_gen fun tl H26 g26 s26 h26 => ?_
        have s2126 : Same H21 H26 := Same.trans (Same.trans s22 s23) (Same.trans (Same.trans s24 s25) s26)
        have ha := s26 _ _ (s25 _ _ (s24 _ _ (s23 _ _ h22)))
        have hb := s26 _ _ (s25 _ _ (s24 _ _ h23))
        have hc := s26 _ _ (s25 _ _ h24)
        have hd := s26 _ _ h25
        have hB1 := hB1.kp (KpS.same s2126)
        have hB2 := hB2.kp (KpS.same s2126)
        have hN1 := hN1.kp (KpS.same s2126)
        have hN2 := hN2.kp (KpS.same s2126)
        have hw1 := hw1.sm s2126
        have hw2 := hw2.sm s2126
        clear s22 s23 s24 s25 s26 s2126 g22 g23 g24 g25 g26 h22 h23 h24 h25
        walk_at "rd"
        refine loopL_by (xs := [.ref ta, .ref tb, .ref tc, .ref td]) (fun i σ' H' => ∃ (o11 o12 o13 o16 : Option V), σ' = [some (.ref a), some (.ref r), some (.ref p), some (.ref q), some v1, some v2, some (.str z), some (.str z'), some (.ref pp), some (.ref tp), some (.str tw), o11, o12, o13, some b1, some b2, o16] ∧ Same H26 H') ?_ ?_ ?_ ?_
        · exact ⟨_, _, _, _, rfl, Same.refl _⟩
        · rintro i σ' H' hi ⟨_, _, _, _, rfl, s'⟩
          exact s' _ _ h26
        · rintro i x σ' H27 hx ⟨x11, x12, x13, x16, rfl, s27⟩
          have ha := s27 _ _ ha
          have hb := s27 _ _ hb
          have hc := s27 _ _ hc
          have hd := s27 _ _ hd
          have hw1 := hw1.sm s27
          have hw2 := hw2.sm s27
          obtain ⟨vs1, hp1, hr1⟩ := hw1
          obtain ⟨vs2, hp2, hr2⟩ := hw2
          have hl1 := Paired.len hr1
          have hl2 := Paired.len hr2
          rw [trR_len] at hl1 hl2
          match i, hx with
          | 0, hx =>
            cases hx
            walk_at "rd"
            refine use_told (hB1.kp (KpS.same s27)) (by omega) (by omega) fun t H28 s28 g28 ht => ?_
            walk_at "rd"
            refine ne_rows ht ⟨vs1, s28 _ _ hp1, hr1.ts (TpS.same s28)⟩ ok1 ok1 ?_
            rw [decide_eq_true rfl]
            walk_at "rd"
            exact ⟨_, _, _, _, rfl, Same.trans s27 s28⟩
          | 1, hx =>
            cases hx
            walk_at "rd"
            refine use_told (hB2.kp (KpS.same s27)) (by omega) (by omega) fun t H28 s28 g28 ht => ?_
            walk_at "rd"
            refine ne_rows ht ⟨vs2, s28 _ _ hp2, hr2.ts (TpS.same s28)⟩ ok2 ok2 ?_
            rw [decide_eq_true rfl]
            walk_at "rd"
            exact ⟨_, _, _, _, rfl, Same.trans s27 s28⟩
          | 2, hx =>
            cases hx
            walk_at "rd"
            refine use_told (hN1.kp (KpS.same s27)) (by omega) (by omega) fun t H28 s28 g28 ht => ?_
            walk_at "rd"
            refine ne_rows ht ⟨vs1, s28 _ _ hp1, hr1.ts (TpS.same s28)⟩ ok1 ok1 ?_
            rw [decide_eq_true rfl]
            walk_at "rd"
            exact ⟨_, _, _, _, rfl, Same.trans s27 s28⟩
          | 3, hx =>
            cases hx
            walk_at "rd"
            refine use_told (hN2.kp (KpS.same s27)) (by omega) (by omega) fun t H28 s28 g28 ht => ?_
            walk_at "rd"
            refine ne_rows ht ⟨vs2, s28 _ _ hp2, hr2.ts (TpS.same s28)⟩ ok2 ok2 ?_
            rw [decide_eq_true rfl]
            walk_at "rd"
            exact ⟨_, _, _, _, rfl, Same.trans s27 s28⟩
          | (j + 4), hx => cases hx
        · rintro σ' H27 ⟨x11, x12, x13, x16, rfl, s27⟩
          walk_at "rd"
          exact kk _
end
end Z
namespace Z
open PySem PySem.Spec PyProof.Rows L2
theorem top_super : (PySem.Challenge.rw_mendedtree_k32_tree_written.prog.main.scope.names.lookup ("super" : Str)).isSome = false := by decide +kernel
theorem all_mk {w : World} {K : PySem.W.Frag} {h : Heap} {mg : Str → Option Value} {fa : Addr} (X : K.In h) (G : h.Ns mainGlobals mg) (hfa : mg "law" = some (.ref fa))
    {t_DIGITS : Tok}
    {t_ESCAPED_CHARS : Tok}
    {ta_LEAST_NUMBERS : Addr} {to_LEAST_NUMBERS : Option Addr} {tn_LEAST_NUMBERS : Nat} {ts_LEAST_NUMBERS : Array (Option Value)} {tk0_LEAST_NUMBERS tk1_LEAST_NUMBERS tk2_LEAST_NUMBERS tk3_LEAST_NUMBERS tk4_LEAST_NUMBERS tk5_LEAST_NUMBERS : Tok}
    {t_LETTERS : Tok}
    {t_LITERAL_CHARS : Tok}
    {t_MOST_DIGITS : Tok}
    {t_NAME_CHARS : Tok}
    {f_char_of : Addr} {od_char_of an_char_of : Option Addr} {sl_char_of : Array (Option Value)} {oc_char_of kV_char_of dc_char_of pm_char_of cd_char_of ct_char_of : Value}
    {f_name_end : Addr} {od_name_end an_name_end : Option Addr} {sl_name_end : Array (Option Value)} {oc_name_end kV_name_end dc_name_end pm_name_end cd_name_end ct_name_end : Value}
    {f_written_char_end : Addr} {od_written_char_end an_written_char_end : Option Addr} {sl_written_char_end : Array (Option Value)} {oc_written_char_end kV_written_char_end dc_written_char_end pm_written_char_end cd_written_char_end ct_written_char_end : Value}
    {f_literal_end : Addr} {od_literal_end an_literal_end : Option Addr} {sl_literal_end : Array (Option Value)} {oc_literal_end kV_literal_end dc_literal_end pm_literal_end cd_literal_end ct_literal_end : Value}
    {f_word_end : Addr} {od_word_end an_word_end : Option Addr} {sl_word_end : Array (Option Value)} {oc_word_end kV_word_end dc_word_end pm_word_end cd_word_end ct_word_end : Value}
    {f_number_end : Addr} {od_number_end an_number_end : Option Addr} {sl_number_end : Array (Option Value)} {oc_number_end kV_number_end dc_number_end pm_number_end cd_number_end ct_number_end : Value}
    {f_written_head : Addr} {od_written_head an_written_head : Option Addr} {sl_written_head : Array (Option Value)} {oc_written_head kV_written_head dc_written_head pm_written_head cd_written_head ct_written_head : Value}
    {f_write_tree : Addr} {od_write_tree an_write_tree : Option Addr} {sl_write_tree : Array (Option Value)} {oc_write_tree kV_write_tree dc_write_tree pm_write_tree cd_write_tree ct_write_tree : Value}
    {f_read_head : Addr} {od_read_head an_read_head : Option Addr} {sl_read_head : Array (Option Value)} {oc_read_head kV_read_head dc_read_head pm_read_head cd_read_head ct_read_head : Value}
    {f_built_node : Addr} {od_built_node an_built_node : Option Addr} {sl_built_node : Array (Option Value)} {oc_built_node kV_built_node dc_built_node pm_built_node cd_built_node ct_built_node : Value}
    {f_read_tree : Addr} {od_read_tree an_read_tree : Option Addr} {sl_read_tree : Array (Option Value)} {oc_read_tree kV_read_tree dc_read_tree pm_read_tree cd_read_tree ct_read_tree : Value}
    {f_law_reel : Addr} {od_law_reel an_law_reel : Option Addr} {sl_law_reel : Array (Option Value)} {oc_law_reel kV_law_reel dc_law_reel pm_law_reel cd_law_reel ct_law_reel : Value}
    {f_law_draw : Addr} {od_law_draw an_law_draw : Option Addr} {sl_law_draw : Array (Option Value)} {oc_law_draw kV_law_draw dc_law_draw pm_law_draw cd_law_draw ct_law_draw : Value}
    {f_law_pick : Addr} {od_law_pick an_law_pick : Option Addr} {sl_law_pick : Array (Option Value)} {oc_law_pick kV_law_pick dc_law_pick pm_law_pick cd_law_pick ct_law_pick : Value}
    {f_law_word : Addr} {od_law_word an_law_word : Option Addr} {sl_law_word : Array (Option Value)} {oc_law_word kV_law_word dc_law_word pm_law_word cd_law_word ct_law_word : Value}
    {f_law_quoted : Addr} {od_law_quoted an_law_quoted : Option Addr} {sl_law_quoted : Array (Option Value)} {oc_law_quoted kV_law_quoted dc_law_quoted pm_law_quoted cd_law_quoted ct_law_quoted : Value}
    {f_law_literal : Addr} {od_law_literal an_law_literal : Option Addr} {sl_law_literal : Array (Option Value)} {oc_law_literal kV_law_literal dc_law_literal pm_law_literal cd_law_literal ct_law_literal : Value}
    {f_law_name : Addr} {od_law_name an_law_name : Option Addr} {sl_law_name : Array (Option Value)} {oc_law_name kV_law_name dc_law_name pm_law_name cd_law_name ct_law_name : Value}
    {f_law_sort : Addr} {od_law_sort an_law_sort : Option Addr} {sl_law_sort : Array (Option Value)} {oc_law_sort kV_law_sort dc_law_sort pm_law_sort cd_law_sort ct_law_sort : Value}
    {f_law_comb : Addr} {od_law_comb an_law_comb : Option Addr} {sl_law_comb : Array (Option Value)} {oc_law_comb kV_law_comb dc_law_comb pm_law_comb cd_law_comb ct_law_comb : Value}
    {f_law_levels : Addr} {od_law_levels an_law_levels : Option Addr} {sl_law_levels : Array (Option Value)} {oc_law_levels kV_law_levels dc_law_levels pm_law_levels cd_law_levels ct_law_levels : Value}
    {f_law_count : Addr} {od_law_count an_law_count : Option Addr} {sl_law_count : Array (Option Value)} {oc_law_count kV_law_count dc_law_count pm_law_count cd_law_count ct_law_count : Value}
    {f_law_row : Addr} {od_law_row an_law_row : Option Addr} {sl_law_row : Array (Option Value)} {oc_law_row kV_law_row dc_law_row pm_law_row cd_law_row ct_law_row : Value}
    {f_law_small_row : Addr} {od_law_small_row an_law_small_row : Option Addr} {sl_law_small_row : Array (Option Value)} {oc_law_small_row kV_law_small_row dc_law_small_row pm_law_small_row cd_law_small_row ct_law_small_row : Value}
    {f_law_tree : Addr} {od_law_tree an_law_tree : Option Addr} {sl_law_tree : Array (Option Value)} {oc_law_tree kV_law_tree dc_law_tree pm_law_tree cd_law_tree ct_law_tree : Value}
    {f_law_made : Addr} {od_law_made an_law_made : Option Addr} {sl_law_made : Array (Option Value)} {oc_law_made kV_law_made dc_law_made pm_law_made cd_law_made ct_law_made : Value}
    {f_law_told : Addr} {od_law_told an_law_told : Option Addr} {sl_law_told : Array (Option Value)} {oc_law_told kV_law_told dc_law_told pm_law_told cd_law_told ct_law_told : Value}
    {f_law_text : Addr} {od_law_text an_law_text : Option Addr} {sl_law_text : Array (Option Value)} {oc_law_text kV_law_text dc_law_text pm_law_text cd_law_text ct_law_text : Value}
    {f_law : Addr} {od_law an_law : Option Addr} {sl_law : Array (Option Value)} {oc_law kV_law dc_law pm_law cd_law ct_law : Value}
    {C_TreeError : Addr}
    {nm_TreeError q_TreeError : Str} {N_TreeError : Addr} {bs_TreeError bm_TreeError : List Value} {sn_TreeError : List Str} {sub_TreeError : List Value} {ab_TreeError : Bool} {col_TreeError : Option Bool} {dd_TreeError : Option Addr} {m0_TreeError m1_TreeError m2_TreeError m3_TreeError m5_TreeError : Option Value}
    {g_TreeError cda_TreeError cc_TreeError : Addr} {go_TreeError gk_TreeError gd_TreeError gp_TreeError gt_TreeError u1_TreeError u2_TreeError : Value} {ge_TreeError gn_TreeError u3_TreeError u4_TreeError : Option Addr} {gs_TreeError u5_TreeError u6_TreeError : Array (Option Value)} {vs_TreeError : Array Value} {fl_TreeError : Str} {tf_TreeError : Tok}
    {C_Node : Addr}
    {g_Node_init : Addr} {od_Node_init an_Node_init : Option Addr} {sl_Node_init : Array (Option Value)} {oc_Node_init dc_Node_init pm_Node_init cd_Node_init ct_Node_init : Value}
    {D_Node_init e_Node_init : Addr} {eo_Node_init : Option Addr} {en_Node_init : Nat} {es_Node_init : Array (Option Value)}
    {kt_Node_init_alternative : Tok}
    {kt_Node_init_popped : Tok}
    (z_ValueError : PySem.W.nsIn K mainGlobals "ValueError" = some none)
    (z_abs : PySem.W.nsIn K mainGlobals "abs" = some none)
    (z_bool : PySem.W.nsIn K mainGlobals "bool" = some none)
    (z_enumerate : PySem.W.nsIn K mainGlobals "enumerate" = some none)
    (z_int : PySem.W.nsIn K mainGlobals "int" = some none)
    (z_isinstance : PySem.W.nsIn K mainGlobals "isinstance" = some none)
    (z_iter : PySem.W.nsIn K mainGlobals "iter" = some none)
    (z_len : PySem.W.nsIn K mainGlobals "len" = some none)
    (z_max : PySem.W.nsIn K mainGlobals "max" = some none)
    (z_min : PySem.W.nsIn K mainGlobals "min" = some none)
    (z_range : PySem.W.nsIn K mainGlobals "range" = some none)
    (z_reversed : PySem.W.nsIn K mainGlobals "reversed" = some none)
    (z_str : PySem.W.nsIn K mainGlobals "str" = some none)
    (z_sum : PySem.W.nsIn K mainGlobals "sum" = some none)
    (z_tuple : PySem.W.nsIn K mainGlobals "tuple" = some none)
    (z_DIGITS : PySem.W.nsIn K mainGlobals "DIGITS" = some (some (.str "0123456789" t_DIGITS)))
    (z_ESCAPED_CHARS : PySem.W.nsIn K mainGlobals "ESCAPED_CHARS" = some (some (.str "nt\\\"" t_ESCAPED_CHARS)))
    (z_LEAST_NUMBERS : PySem.W.nsIn K mainGlobals "LEAST_NUMBERS" = some (some (.ref ta_LEAST_NUMBERS)))
    (zl_LEAST_NUMBERS : K.lookup ta_LEAST_NUMBERS = some ⟨.type "tuple", to_LEAST_NUMBERS, .seq #[.int (-1) tk0_LEAST_NUMBERS, .int (0) tk1_LEAST_NUMBERS, .int (0) tk2_LEAST_NUMBERS, .int (0) tk3_LEAST_NUMBERS, .int (-1) tk4_LEAST_NUMBERS, .int (0) tk5_LEAST_NUMBERS] tn_LEAST_NUMBERS, ts_LEAST_NUMBERS⟩)
    (z_LETTERS : PySem.W.nsIn K mainGlobals "LETTERS" = some (some (.str "abcdefghijklmnopqrstuvwxyz" t_LETTERS)))
    (z_LITERAL_CHARS : PySem.W.nsIn K mainGlobals "LITERAL_CHARS" = some (some (.str " !#$&'()*+,-./0123456789:;<=>?@ABCDEFGHIJKLMNOPQRSTUVWXYZ[]^_abcdefghijklmnopqrstuvwxyz{|}~" t_LITERAL_CHARS)))
    (z_MOST_DIGITS : PySem.W.nsIn K mainGlobals "MOST_DIGITS" = some (some (.int (9) t_MOST_DIGITS)))
    (z_NAME_CHARS : PySem.W.nsIn K mainGlobals "NAME_CHARS" = some (some (.str "abcdefghijklmnopqrstuvwxyz0123456789_~" t_NAME_CHARS)))
    (a_char_of : PySem.W.nsIn K mainGlobals "char_of" = some (some (.ref f_char_of)))
    (l_char_of : K.lookup f_char_of = some ⟨oc_char_of, od_char_of, .func (PySem.W.fnOf "char_of" "char_of" (C8.fnArgs s_char_of) (C8.fnBody s_char_of) (C8.fnScope s_char_of) .none kV_char_of dc_char_of pm_char_of an_char_of cd_char_of ct_char_of), sl_char_of⟩)
    (c_char_of : PySem.W.codeIn K cd_char_of "char_of" = true)
    (k_char_of : PySem.W.keepIn K (.ref f_char_of) = true)
    (a_name_end : PySem.W.nsIn K mainGlobals "name_end" = some (some (.ref f_name_end)))
    (l_name_end : K.lookup f_name_end = some ⟨oc_name_end, od_name_end, .func (PySem.W.fnOf "name_end" "name_end" (C8.fnArgs s_name_end) (C8.fnBody s_name_end) (C8.fnScope s_name_end) .none kV_name_end dc_name_end pm_name_end an_name_end cd_name_end ct_name_end), sl_name_end⟩)
    (c_name_end : PySem.W.codeIn K cd_name_end "name_end" = true)
    (k_name_end : PySem.W.keepIn K (.ref f_name_end) = true)
    (a_written_char_end : PySem.W.nsIn K mainGlobals "written_char_end" = some (some (.ref f_written_char_end)))
    (l_written_char_end : K.lookup f_written_char_end = some ⟨oc_written_char_end, od_written_char_end, .func (PySem.W.fnOf "written_char_end" "written_char_end" (C8.fnArgs s_written_char_end) (C8.fnBody s_written_char_end) (C8.fnScope s_written_char_end) .none kV_written_char_end dc_written_char_end pm_written_char_end an_written_char_end cd_written_char_end ct_written_char_end), sl_written_char_end⟩)
    (c_written_char_end : PySem.W.codeIn K cd_written_char_end "written_char_end" = true)
    (k_written_char_end : PySem.W.keepIn K (.ref f_written_char_end) = true)
    (a_literal_end : PySem.W.nsIn K mainGlobals "literal_end" = some (some (.ref f_literal_end)))
    (l_literal_end : K.lookup f_literal_end = some ⟨oc_literal_end, od_literal_end, .func (PySem.W.fnOf "literal_end" "literal_end" (C8.fnArgs s_literal_end) (C8.fnBody s_literal_end) (C8.fnScope s_literal_end) .none kV_literal_end dc_literal_end pm_literal_end an_literal_end cd_literal_end ct_literal_end), sl_literal_end⟩)
    (c_literal_end : PySem.W.codeIn K cd_literal_end "literal_end" = true)
    (k_literal_end : PySem.W.keepIn K (.ref f_literal_end) = true)
    (a_word_end : PySem.W.nsIn K mainGlobals "word_end" = some (some (.ref f_word_end)))
    (l_word_end : K.lookup f_word_end = some ⟨oc_word_end, od_word_end, .func (PySem.W.fnOf "word_end" "word_end" (C8.fnArgs s_word_end) (C8.fnBody s_word_end) (C8.fnScope s_word_end) .none kV_word_end dc_word_end pm_word_end an_word_end cd_word_end ct_word_end), sl_word_end⟩)
    (c_word_end : PySem.W.codeIn K cd_word_end "word_end" = true)
    (k_word_end : PySem.W.keepIn K (.ref f_word_end) = true)
    (a_number_end : PySem.W.nsIn K mainGlobals "number_end" = some (some (.ref f_number_end)))
    (l_number_end : K.lookup f_number_end = some ⟨oc_number_end, od_number_end, .func (PySem.W.fnOf "number_end" "number_end" (C8.fnArgs s_number_end) (C8.fnBody s_number_end) (C8.fnScope s_number_end) .none kV_number_end dc_number_end pm_number_end an_number_end cd_number_end ct_number_end), sl_number_end⟩)
    (c_number_end : PySem.W.codeIn K cd_number_end "number_end" = true)
    (k_number_end : PySem.W.keepIn K (.ref f_number_end) = true)
    (a_written_head : PySem.W.nsIn K mainGlobals "written_head" = some (some (.ref f_written_head)))
    (l_written_head : K.lookup f_written_head = some ⟨oc_written_head, od_written_head, .func (PySem.W.fnOf "written_head" "written_head" (C8.fnArgs s_written_head) (C8.fnBody s_written_head) (C8.fnScope s_written_head) .none kV_written_head dc_written_head pm_written_head an_written_head cd_written_head ct_written_head), sl_written_head⟩)
    (c_written_head : PySem.W.codeIn K cd_written_head "written_head" = true)
    (k_written_head : PySem.W.keepIn K (.ref f_written_head) = true)
    (a_write_tree : PySem.W.nsIn K mainGlobals "write_tree" = some (some (.ref f_write_tree)))
    (l_write_tree : K.lookup f_write_tree = some ⟨oc_write_tree, od_write_tree, .func (PySem.W.fnOf "write_tree" "write_tree" (C8.fnArgs s_write_tree) (C8.fnBody s_write_tree) (C8.fnScope s_write_tree) .none kV_write_tree dc_write_tree pm_write_tree an_write_tree cd_write_tree ct_write_tree), sl_write_tree⟩)
    (c_write_tree : PySem.W.codeIn K cd_write_tree "write_tree" = true)
    (k_write_tree : PySem.W.keepIn K (.ref f_write_tree) = true)
    (a_read_head : PySem.W.nsIn K mainGlobals "read_head" = some (some (.ref f_read_head)))
    (l_read_head : K.lookup f_read_head = some ⟨oc_read_head, od_read_head, .func (PySem.W.fnOf "read_head" "read_head" (C8.fnArgs s_read_head) (C8.fnBody s_read_head) (C8.fnScope s_read_head) .none kV_read_head dc_read_head pm_read_head an_read_head cd_read_head ct_read_head), sl_read_head⟩)
    (c_read_head : PySem.W.codeIn K cd_read_head "read_head" = true)
    (k_read_head : PySem.W.keepIn K (.ref f_read_head) = true)
    (a_built_node : PySem.W.nsIn K mainGlobals "built_node" = some (some (.ref f_built_node)))
    (l_built_node : K.lookup f_built_node = some ⟨oc_built_node, od_built_node, .func (PySem.W.fnOf "built_node" "built_node" (C8.fnArgs s_built_node) (C8.fnBody s_built_node) (C8.fnScope s_built_node) .none kV_built_node dc_built_node pm_built_node an_built_node cd_built_node ct_built_node), sl_built_node⟩)
    (c_built_node : PySem.W.codeIn K cd_built_node "built_node" = true)
    (k_built_node : PySem.W.keepIn K (.ref f_built_node) = true)
    (a_read_tree : PySem.W.nsIn K mainGlobals "read_tree" = some (some (.ref f_read_tree)))
    (l_read_tree : K.lookup f_read_tree = some ⟨oc_read_tree, od_read_tree, .func (PySem.W.fnOf "read_tree" "read_tree" (C8.fnArgs s_read_tree) (C8.fnBody s_read_tree) (C8.fnScope s_read_tree) .none kV_read_tree dc_read_tree pm_read_tree an_read_tree cd_read_tree ct_read_tree), sl_read_tree⟩)
    (c_read_tree : PySem.W.codeIn K cd_read_tree "read_tree" = true)
    (k_read_tree : PySem.W.keepIn K (.ref f_read_tree) = true)
    (a_law_reel : PySem.W.nsIn K mainGlobals "_law_reel" = some (some (.ref f_law_reel)))
    (l_law_reel : K.lookup f_law_reel = some ⟨oc_law_reel, od_law_reel, .func (PySem.W.fnOf "_law_reel" "_law_reel" (C8.fnArgs s_law_reel) (C8.fnBody s_law_reel) (C8.fnScope s_law_reel) .none kV_law_reel dc_law_reel pm_law_reel an_law_reel cd_law_reel ct_law_reel), sl_law_reel⟩)
    (c_law_reel : PySem.W.codeIn K cd_law_reel "_law_reel" = true)
    (k_law_reel : PySem.W.keepIn K (.ref f_law_reel) = true)
    (a_law_draw : PySem.W.nsIn K mainGlobals "_law_draw" = some (some (.ref f_law_draw)))
    (l_law_draw : K.lookup f_law_draw = some ⟨oc_law_draw, od_law_draw, .func (PySem.W.fnOf "_law_draw" "_law_draw" (C8.fnArgs s_law_draw) (C8.fnBody s_law_draw) (C8.fnScope s_law_draw) .none kV_law_draw dc_law_draw pm_law_draw an_law_draw cd_law_draw ct_law_draw), sl_law_draw⟩)
    (c_law_draw : PySem.W.codeIn K cd_law_draw "_law_draw" = true)
    (k_law_draw : PySem.W.keepIn K (.ref f_law_draw) = true)
    (a_law_pick : PySem.W.nsIn K mainGlobals "_law_pick" = some (some (.ref f_law_pick)))
    (l_law_pick : K.lookup f_law_pick = some ⟨oc_law_pick, od_law_pick, .func (PySem.W.fnOf "_law_pick" "_law_pick" (C8.fnArgs s_law_pick) (C8.fnBody s_law_pick) (C8.fnScope s_law_pick) .none kV_law_pick dc_law_pick pm_law_pick an_law_pick cd_law_pick ct_law_pick), sl_law_pick⟩)
    (c_law_pick : PySem.W.codeIn K cd_law_pick "_law_pick" = true)
    (k_law_pick : PySem.W.keepIn K (.ref f_law_pick) = true)
    (a_law_word : PySem.W.nsIn K mainGlobals "_law_word" = some (some (.ref f_law_word)))
    (l_law_word : K.lookup f_law_word = some ⟨oc_law_word, od_law_word, .func (PySem.W.fnOf "_law_word" "_law_word" (C8.fnArgs s_law_word) (C8.fnBody s_law_word) (C8.fnScope s_law_word) .none kV_law_word dc_law_word pm_law_word an_law_word cd_law_word ct_law_word), sl_law_word⟩)
    (c_law_word : PySem.W.codeIn K cd_law_word "_law_word" = true)
    (k_law_word : PySem.W.keepIn K (.ref f_law_word) = true)
    (a_law_quoted : PySem.W.nsIn K mainGlobals "_law_quoted" = some (some (.ref f_law_quoted)))
    (l_law_quoted : K.lookup f_law_quoted = some ⟨oc_law_quoted, od_law_quoted, .func (PySem.W.fnOf "_law_quoted" "_law_quoted" (C8.fnArgs s_law_quoted) (C8.fnBody s_law_quoted) (C8.fnScope s_law_quoted) .none kV_law_quoted dc_law_quoted pm_law_quoted an_law_quoted cd_law_quoted ct_law_quoted), sl_law_quoted⟩)
    (c_law_quoted : PySem.W.codeIn K cd_law_quoted "_law_quoted" = true)
    (k_law_quoted : PySem.W.keepIn K (.ref f_law_quoted) = true)
    (a_law_literal : PySem.W.nsIn K mainGlobals "_law_literal" = some (some (.ref f_law_literal)))
    (l_law_literal : K.lookup f_law_literal = some ⟨oc_law_literal, od_law_literal, .func (PySem.W.fnOf "_law_literal" "_law_literal" (C8.fnArgs s_law_literal) (C8.fnBody s_law_literal) (C8.fnScope s_law_literal) .none kV_law_literal dc_law_literal pm_law_literal an_law_literal cd_law_literal ct_law_literal), sl_law_literal⟩)
    (c_law_literal : PySem.W.codeIn K cd_law_literal "_law_literal" = true)
    (k_law_literal : PySem.W.keepIn K (.ref f_law_literal) = true)
    (a_law_name : PySem.W.nsIn K mainGlobals "_law_name" = some (some (.ref f_law_name)))
    (l_law_name : K.lookup f_law_name = some ⟨oc_law_name, od_law_name, .func (PySem.W.fnOf "_law_name" "_law_name" (C8.fnArgs s_law_name) (C8.fnBody s_law_name) (C8.fnScope s_law_name) .none kV_law_name dc_law_name pm_law_name an_law_name cd_law_name ct_law_name), sl_law_name⟩)
    (c_law_name : PySem.W.codeIn K cd_law_name "_law_name" = true)
    (k_law_name : PySem.W.keepIn K (.ref f_law_name) = true)
    (a_law_sort : PySem.W.nsIn K mainGlobals "_law_sort" = some (some (.ref f_law_sort)))
    (l_law_sort : K.lookup f_law_sort = some ⟨oc_law_sort, od_law_sort, .func (PySem.W.fnOf "_law_sort" "_law_sort" (C8.fnArgs s_law_sort) (C8.fnBody s_law_sort) (C8.fnScope s_law_sort) .none kV_law_sort dc_law_sort pm_law_sort an_law_sort cd_law_sort ct_law_sort), sl_law_sort⟩)
    (c_law_sort : PySem.W.codeIn K cd_law_sort "_law_sort" = true)
    (k_law_sort : PySem.W.keepIn K (.ref f_law_sort) = true)
    (a_law_comb : PySem.W.nsIn K mainGlobals "_law_comb" = some (some (.ref f_law_comb)))
    (l_law_comb : K.lookup f_law_comb = some ⟨oc_law_comb, od_law_comb, .func (PySem.W.fnOf "_law_comb" "_law_comb" (C8.fnArgs s_law_comb) (C8.fnBody s_law_comb) (C8.fnScope s_law_comb) .none kV_law_comb dc_law_comb pm_law_comb an_law_comb cd_law_comb ct_law_comb), sl_law_comb⟩)
    (c_law_comb : PySem.W.codeIn K cd_law_comb "_law_comb" = true)
    (k_law_comb : PySem.W.keepIn K (.ref f_law_comb) = true)
    (a_law_levels : PySem.W.nsIn K mainGlobals "_law_levels" = some (some (.ref f_law_levels)))
    (l_law_levels : K.lookup f_law_levels = some ⟨oc_law_levels, od_law_levels, .func (PySem.W.fnOf "_law_levels" "_law_levels" (C8.fnArgs s_law_levels) (C8.fnBody s_law_levels) (C8.fnScope s_law_levels) .none kV_law_levels dc_law_levels pm_law_levels an_law_levels cd_law_levels ct_law_levels), sl_law_levels⟩)
    (c_law_levels : PySem.W.codeIn K cd_law_levels "_law_levels" = true)
    (k_law_levels : PySem.W.keepIn K (.ref f_law_levels) = true)
    (a_law_count : PySem.W.nsIn K mainGlobals "_law_count" = some (some (.ref f_law_count)))
    (l_law_count : K.lookup f_law_count = some ⟨oc_law_count, od_law_count, .func (PySem.W.fnOf "_law_count" "_law_count" (C8.fnArgs s_law_count) (C8.fnBody s_law_count) (C8.fnScope s_law_count) .none kV_law_count dc_law_count pm_law_count an_law_count cd_law_count ct_law_count), sl_law_count⟩)
    (c_law_count : PySem.W.codeIn K cd_law_count "_law_count" = true)
    (k_law_count : PySem.W.keepIn K (.ref f_law_count) = true)
    (a_law_row : PySem.W.nsIn K mainGlobals "_law_row" = some (some (.ref f_law_row)))
    (l_law_row : K.lookup f_law_row = some ⟨oc_law_row, od_law_row, .func (PySem.W.fnOf "_law_row" "_law_row" (C8.fnArgs s_law_row) (C8.fnBody s_law_row) (C8.fnScope s_law_row) .none kV_law_row dc_law_row pm_law_row an_law_row cd_law_row ct_law_row), sl_law_row⟩)
    (c_law_row : PySem.W.codeIn K cd_law_row "_law_row" = true)
    (k_law_row : PySem.W.keepIn K (.ref f_law_row) = true)
    (a_law_small_row : PySem.W.nsIn K mainGlobals "_law_small_row" = some (some (.ref f_law_small_row)))
    (l_law_small_row : K.lookup f_law_small_row = some ⟨oc_law_small_row, od_law_small_row, .func (PySem.W.fnOf "_law_small_row" "_law_small_row" (C8.fnArgs s_law_small_row) (C8.fnBody s_law_small_row) (C8.fnScope s_law_small_row) .none kV_law_small_row dc_law_small_row pm_law_small_row an_law_small_row cd_law_small_row ct_law_small_row), sl_law_small_row⟩)
    (c_law_small_row : PySem.W.codeIn K cd_law_small_row "_law_small_row" = true)
    (k_law_small_row : PySem.W.keepIn K (.ref f_law_small_row) = true)
    (a_law_tree : PySem.W.nsIn K mainGlobals "_law_tree" = some (some (.ref f_law_tree)))
    (l_law_tree : K.lookup f_law_tree = some ⟨oc_law_tree, od_law_tree, .func (PySem.W.fnOf "_law_tree" "_law_tree" (C8.fnArgs s_law_tree) (C8.fnBody s_law_tree) (C8.fnScope s_law_tree) .none kV_law_tree dc_law_tree pm_law_tree an_law_tree cd_law_tree ct_law_tree), sl_law_tree⟩)
    (c_law_tree : PySem.W.codeIn K cd_law_tree "_law_tree" = true)
    (k_law_tree : PySem.W.keepIn K (.ref f_law_tree) = true)
    (a_law_made : PySem.W.nsIn K mainGlobals "_law_made" = some (some (.ref f_law_made)))
    (l_law_made : K.lookup f_law_made = some ⟨oc_law_made, od_law_made, .func (PySem.W.fnOf "_law_made" "_law_made" (C8.fnArgs s_law_made) (C8.fnBody s_law_made) (C8.fnScope s_law_made) .none kV_law_made dc_law_made pm_law_made an_law_made cd_law_made ct_law_made), sl_law_made⟩)
    (c_law_made : PySem.W.codeIn K cd_law_made "_law_made" = true)
    (k_law_made : PySem.W.keepIn K (.ref f_law_made) = true)
    (a_law_told : PySem.W.nsIn K mainGlobals "_law_told" = some (some (.ref f_law_told)))
    (l_law_told : K.lookup f_law_told = some ⟨oc_law_told, od_law_told, .func (PySem.W.fnOf "_law_told" "_law_told" (C8.fnArgs s_law_told) (C8.fnBody s_law_told) (C8.fnScope s_law_told) .none kV_law_told dc_law_told pm_law_told an_law_told cd_law_told ct_law_told), sl_law_told⟩)
    (c_law_told : PySem.W.codeIn K cd_law_told "_law_told" = true)
    (k_law_told : PySem.W.keepIn K (.ref f_law_told) = true)
    (a_law_text : PySem.W.nsIn K mainGlobals "_law_text" = some (some (.ref f_law_text)))
    (l_law_text : K.lookup f_law_text = some ⟨oc_law_text, od_law_text, .func (PySem.W.fnOf "_law_text" "_law_text" (C8.fnArgs s_law_text) (C8.fnBody s_law_text) (C8.fnScope s_law_text) .none kV_law_text dc_law_text pm_law_text an_law_text cd_law_text ct_law_text), sl_law_text⟩)
    (c_law_text : PySem.W.codeIn K cd_law_text "_law_text" = true)
    (k_law_text : PySem.W.keepIn K (.ref f_law_text) = true)
    (a_law : PySem.W.nsIn K mainGlobals "law" = some (some (.ref f_law)))
    (l_law : K.lookup f_law = some ⟨oc_law, od_law, .func (PySem.W.fnOf "law" "law" (C8.fnArgs s_law) (C8.fnBody s_law) (C8.fnScope s_law) .none kV_law dc_law pm_law an_law cd_law ct_law), sl_law⟩)
    (c_law : PySem.W.codeIn K cd_law "law" = true)
    (k_law : PySem.W.keepIn K (.ref f_law) = true)
    (a_TreeError : PySem.W.nsIn K mainGlobals "TreeError" = some (some (.ref C_TreeError)))
    (ic_TreeError : PySem.W.isClsIn K C_TreeError = true)
    (tc_TreeError : PySem.W.typeIn K (.ref C_TreeError) = some (.type "type"))
    (be_TreeError : PySem.W.subIn K (.ref C_TreeError) (.type "BaseException") = some true)
    (ss_TreeError : PySem.W.subIn K (.ref C_TreeError) (.ref C_TreeError) = some true)
    (sv_TreeError : PySem.W.subIn K (.ref C_TreeError) (.type "ValueError") = some true)
    (ga_TreeError : PySem.W.findIn K (.ref C_TreeError) "__getattribute__" = some (some (.builtin "BaseException.__getattribute__")))
    (gg_TreeError : PySem.W.findIn K (.ref C_TreeError) "__getattr__" = some none)
    (hd_TreeError : PySem.W.hasDictIn K C_TreeError = true)
    (cl_TreeError : PySem.W.findIn K (.ref C_TreeError) "__class__" = some (some (.builtin "object.__class__")))
    (mo_TreeError : PySem.W.mroIn K C_TreeError (.type "object") = some true)
    (nof_TreeError_place : PySem.W.findIn K (.ref C_TreeError) "place" = some none)
    (xl_TreeError : K.lookup C_TreeError = some (excClassObj nm_TreeError q_TreeError C_TreeError N_TreeError bs_TreeError bm_TreeError true sn_TreeError sub_TreeError ab_TreeError col_TreeError dd_TreeError m0_TreeError m1_TreeError m2_TreeError m3_TreeError m5_TreeError "ValueError.__new__"))
    (bmok_TreeError : PySem.HandSPX.refsVE bm_TreeError = true)
    (sa_TreeError : PySem.W.findIn K (.ref C_TreeError) "__setattr__" = some (some (.builtin "object.__setattr__")))
    (kc_TreeError : PySem.W.keepIn K (.ref C_TreeError) = true)
    (in_TreeError : PySem.W.findIn K (.ref C_TreeError) "__init__" = some (some (.ref g_TreeError)))
    (ti_TreeError : PySem.W.typeIn K (.ref g_TreeError) = some (.type "function"))
    (li_TreeError : K.lookup g_TreeError = some ⟨go_TreeError, ge_TreeError, .func (PySem.W.ksFn "__init__" "TreeError.__init__" (C8.fnArgs s_TreeError___init__) (C8.fnBody s_TreeError___init__) (C8.fnScope s_TreeError___init__) .none gk_TreeError gd_TreeError gp_TreeError gn_TreeError (.ref cda_TreeError) gt_TreeError cc_TreeError), gs_TreeError⟩)
    (ci_TreeError : PySem.W.codeIn K (.ref cda_TreeError) "TreeError.__init__" = true)
    (co_TreeError : K.lookup cda_TreeError = some ⟨u1_TreeError, u3_TreeError, .fields vs_TreeError, u5_TreeError⟩)
    (v2_TreeError : vs_TreeError[2]? = some (.str fl_TreeError tf_TreeError))
    (fl_ok_TreeError : ((PySem.Challenge.rw_mendedtree_k32_tree_written.prog.main.file : Str) == fl_TreeError) = true)
    (ce_TreeError : K.lookup cc_TreeError = some ⟨u2_TreeError, u4_TreeError, .cell (some (.ref C_TreeError)), u6_TreeError⟩)
    (mr_TreeError : PySem.W.mroIn K C_TreeError (.ref C_TreeError) = some true)
    (al_TreeError : PySem.W.ks_superIn K C_TreeError C_TreeError "__init__" = some (some (.builtin "ValueError.__init__")))
    (z1 : PySem.W.specialIn K (.builtin "object.__class__") "__get__" = some (some (.builtin "getset_descriptor.__get__")))
    (z2 : PySem.W.takesIn K (.builtin "object.__class__") = some true)
    (z_super : PySem.W.nsIn K mainGlobals "super" = some none)
    (z3 : PySem.W.nsIn K cStatics "thirdparty.any" = some none)
    (a_Node : PySem.W.nsIn K mainGlobals "Node" = some (some (.ref C_Node)))
    (pg_Node : PySem.W.plainGet K C_Node Str.empty = true)
    (hd_Node : PySem.W.hasDictIn K C_Node = true)
    (po_Node : PySem.W.plainOver K C_Node = true)
    (sa_Node : PySem.W.findIn K (.ref C_Node) "__setattr__" = some (some (.builtin "object.__setattr__")))
    (mk_Node : PySem.W.makesIn K C_Node = true)
    (kc_Node : PySem.W.keepIn K (.ref C_Node) = true)
    (cl_Node : PySem.W.findIn K (.ref C_Node) "__class__" = some (some (.builtin "object.__class__")))
    (mo_Node : PySem.W.mroIn K C_Node (.type "object") = some true)
    (nf_Node_kind : PySem.W.findIn K (.ref C_Node) "kind" = some none)
    (nf_Node_symbol : PySem.W.findIn K (.ref C_Node) "symbol" = some none)
    (nf_Node_state : PySem.W.findIn K (.ref C_Node) "state" = some none)
    (nf_Node_lead : PySem.W.findIn K (.ref C_Node) "lead" = some none)
    (nf_Node_width : PySem.W.findIn K (.ref C_Node) "width" = some none)
    (nf_Node_look : PySem.W.findIn K (.ref C_Node) "look" = some none)
    (nf_Node_alternative : PySem.W.findIn K (.ref C_Node) "alternative" = some none)
    (nf_Node_nodes : PySem.W.findIn K (.ref C_Node) "nodes" = some none)
    (nf_Node_popped : PySem.W.findIn K (.ref C_Node) "popped" = some none)
    (at_Node_init : PySem.W.findIn K (.ref C_Node) "__init__" = some (some (.ref g_Node_init)))
    (is_Node_init : PySem.W.isFn K (.ref g_Node_init) = true)
    (l_Node_init : K.lookup g_Node_init = some ⟨oc_Node_init, od_Node_init, .func (PySem.W.fnOf "__init__" "Node.__init__" (C8.fnArgs s_Node___init__) (C8.fnBody s_Node___init__) (C8.fnScope s_Node___init__) .none (.ref D_Node_init) dc_Node_init pm_Node_init an_Node_init cd_Node_init ct_Node_init), sl_Node_init⟩)
    (c_Node_init : PySem.W.codeIn K cd_Node_init "Node.__init__" = true)
    (k_Node_init : PySem.W.keepIn K (.ref g_Node_init) = true)
    (kd_Node_init_alternative : PySem.W.nsIn K D_Node_init "alternative" = some (some (.int (-1) kt_Node_init_alternative)))
    (kd_Node_init_nodes : PySem.W.nsIn K D_Node_init "nodes" = some (some (.ref e_Node_init)))
    (ke_Node_init : K.lookup e_Node_init = some ⟨.type "tuple", eo_Node_init, .seq #[] en_Node_init, es_Node_init⟩)
    (kd_Node_init_popped : PySem.W.nsIn K D_Node_init "popped" = some (some (.int (0) kt_Node_init_popped))) :
    ∃ fd : FuncData, (∀ (s : Shared) (v : Value), BindsTo s fd ⟨[v], []⟩ [("script", v)]) ∧ ∀ base : Heap, K.In base → base.Ns mainGlobals mg → FnOk PySem.Challenge.rw_mendedtree_k32_tree_written.prog w K mg base C8.CX0 9 fa fd ["script"] (sp_law K) := by
  have e := hfa.symm.trans (PySem.W.mg_of X G a_law)
  cases e
  have T : Txt mg := ⟨PySem.W.mg_none_of X G z_ValueError, PySem.W.mg_none_of X G z_abs, PySem.W.mg_none_of X G z_bool, PySem.W.mg_none_of X G z_enumerate, PySem.W.mg_none_of X G z_int, PySem.W.mg_none_of X G z_isinstance, PySem.W.mg_none_of X G z_iter, PySem.W.mg_none_of X G z_len, PySem.W.mg_none_of X G z_max, PySem.W.mg_none_of X G z_min, PySem.W.mg_none_of X G z_range, PySem.W.mg_none_of X G z_reversed, PySem.W.mg_none_of X G z_str, PySem.W.mg_none_of X G z_sum, PySem.W.mg_none_of X G z_tuple, ⟨_, PySem.W.mg_of X G z_DIGITS⟩, ⟨_, PySem.W.mg_of X G z_ESCAPED_CHARS⟩, ⟨_, PySem.W.mg_of X G z_LETTERS⟩, ⟨_, PySem.W.mg_of X G z_LITERAL_CHARS⟩, ⟨_, PySem.W.mg_of X G z_MOST_DIGITS⟩, ⟨_, PySem.W.mg_of X G z_NAME_CHARS⟩⟩
  have tg_LEAST_NUMBERS : TupG K mg "LEAST_NUMBERS" [.int (-1), .int (0), .int (0), .int (0), .int (-1), .int (0)] ta_LEAST_NUMBERS := ⟨PySem.W.mg_of X G z_LEAST_NUMBERS, fun H => .inr ⟨_, _, _, zl_LEAST_NUMBERS, rfl, rfl, by show 6 ≤ sizeLine; decide, .cons ⟨_, rfl⟩ (.cons ⟨_, rfl⟩ (.cons ⟨_, rfl⟩ (.cons ⟨_, rfl⟩ (.cons ⟨_, rfl⟩ (.cons ⟨_, rfl⟩ (.nil))))))⟩⟩
  have F_char_of : C8.Def K mg "char_of" s_char_of f_char_of _ := ⟨⟨_, _, _, _, _, _, _, _, _, _, rfl, l_char_of, c_char_of⟩, PySem.W.mg_of X G a_char_of, k_char_of⟩
  have b_char_of := C8.Fun.binds F_char_of.fn rfl (ps := ["notation", "place", "chars"]) fun _ _ _ _ _ _ us hl => match us, hl with | [_, _, _], _ => rfl
  have F_name_end : C8.Def K mg "name_end" s_name_end f_name_end _ := ⟨⟨_, _, _, _, _, _, _, _, _, _, rfl, l_name_end, c_name_end⟩, PySem.W.mg_of X G a_name_end, k_name_end⟩
  have b_name_end := C8.Fun.binds F_name_end.fn rfl (ps := ["notation", "place"]) fun _ _ _ _ _ _ us hl => match us, hl with | [_, _], _ => rfl
  have F_written_char_end : C8.Def K mg "written_char_end" s_written_char_end f_written_char_end _ := ⟨⟨_, _, _, _, _, _, _, _, _, _, rfl, l_written_char_end, c_written_char_end⟩, PySem.W.mg_of X G a_written_char_end, k_written_char_end⟩
  have b_written_char_end := C8.Fun.binds F_written_char_end.fn rfl (ps := ["notation", "place"]) fun _ _ _ _ _ _ us hl => match us, hl with | [_, _], _ => rfl
  have F_literal_end : C8.Def K mg "literal_end" s_literal_end f_literal_end _ := ⟨⟨_, _, _, _, _, _, _, _, _, _, rfl, l_literal_end, c_literal_end⟩, PySem.W.mg_of X G a_literal_end, k_literal_end⟩
  have b_literal_end := C8.Fun.binds F_literal_end.fn rfl (ps := ["notation", "place"]) fun _ _ _ _ _ _ us hl => match us, hl with | [_, _], _ => rfl
  have F_word_end : C8.Def K mg "word_end" s_word_end f_word_end _ := ⟨⟨_, _, _, _, _, _, _, _, _, _, rfl, l_word_end, c_word_end⟩, PySem.W.mg_of X G a_word_end, k_word_end⟩
  have b_word_end := C8.Fun.binds F_word_end.fn rfl (ps := ["notation", "place"]) fun _ _ _ _ _ _ us hl => match us, hl with | [_, _], _ => rfl
  have F_number_end : C8.Def K mg "number_end" s_number_end f_number_end _ := ⟨⟨_, _, _, _, _, _, _, _, _, _, rfl, l_number_end, c_number_end⟩, PySem.W.mg_of X G a_number_end, k_number_end⟩
  have b_number_end := C8.Fun.binds F_number_end.fn rfl (ps := ["notation", "place", "least"]) fun _ _ _ _ _ _ us hl => match us, hl with | [_, _, _], _ => rfl
  have F_written_head : C8.Def K mg "written_head" s_written_head f_written_head _ := ⟨⟨_, _, _, _, _, _, _, _, _, _, rfl, l_written_head, c_written_head⟩, PySem.W.mg_of X G a_written_head, k_written_head⟩
  have b_written_head := C8.Fun.binds F_written_head.fn rfl (ps := ["node"]) fun _ _ _ _ _ _ us hl => match us, hl with | [_], _ => rfl
  have F_write_tree : C8.Def K mg "write_tree" s_write_tree f_write_tree _ := ⟨⟨_, _, _, _, _, _, _, _, _, _, rfl, l_write_tree, c_write_tree⟩, PySem.W.mg_of X G a_write_tree, k_write_tree⟩
  have b_write_tree := C8.Fun.binds F_write_tree.fn rfl (ps := ["node"]) fun _ _ _ _ _ _ us hl => match us, hl with | [_], _ => rfl
  have F_read_head : C8.Def K mg "read_head" s_read_head f_read_head _ := ⟨⟨_, _, _, _, _, _, _, _, _, _, rfl, l_read_head, c_read_head⟩, PySem.W.mg_of X G a_read_head, k_read_head⟩
  have b_read_head := C8.Fun.binds F_read_head.fn rfl (ps := ["notation", "place"]) fun _ _ _ _ _ _ us hl => match us, hl with | [_, _], _ => rfl
  have F_built_node : C8.Def K mg "built_node" s_built_node f_built_node _ := ⟨⟨_, _, _, _, _, _, _, _, _, _, rfl, l_built_node, c_built_node⟩, PySem.W.mg_of X G a_built_node, k_built_node⟩
  have b_built_node := C8.Fun.binds F_built_node.fn rfl (ps := ["words", "nodes"]) fun _ _ _ _ _ _ us hl => match us, hl with | [_, _], _ => rfl
  have F_read_tree : C8.Def K mg "read_tree" s_read_tree f_read_tree _ := ⟨⟨_, _, _, _, _, _, _, _, _, _, rfl, l_read_tree, c_read_tree⟩, PySem.W.mg_of X G a_read_tree, k_read_tree⟩
  have b_read_tree := C8.Fun.binds F_read_tree.fn rfl (ps := ["notation"]) fun _ _ _ _ _ _ us hl => match us, hl with | [_], _ => rfl
  have F_law_reel : C8.Def K mg "_law_reel" s_law_reel f_law_reel _ := ⟨⟨_, _, _, _, _, _, _, _, _, _, rfl, l_law_reel, c_law_reel⟩, PySem.W.mg_of X G a_law_reel, k_law_reel⟩
  have b_law_reel := C8.Fun.binds F_law_reel.fn rfl (ps := ["script"]) fun _ _ _ _ _ _ us hl => match us, hl with | [_], _ => rfl
  have F_law_draw : C8.Def K mg "_law_draw" s_law_draw f_law_draw _ := ⟨⟨_, _, _, _, _, _, _, _, _, _, rfl, l_law_draw, c_law_draw⟩, PySem.W.mg_of X G a_law_draw, k_law_draw⟩
  have b_law_draw := C8.Fun.binds F_law_draw.fn rfl (ps := ["reel", "size"]) fun _ _ _ _ _ _ us hl => match us, hl with | [_, _], _ => rfl
  have F_law_pick : C8.Def K mg "_law_pick" s_law_pick f_law_pick _ := ⟨⟨_, _, _, _, _, _, _, _, _, _, rfl, l_law_pick, c_law_pick⟩, PySem.W.mg_of X G a_law_pick, k_law_pick⟩
  have b_law_pick := C8.Fun.binds F_law_pick.fn rfl (ps := ["reel", "row"]) fun _ _ _ _ _ _ us hl => match us, hl with | [_, _], _ => rfl
  have F_law_word : C8.Def K mg "_law_word" s_law_word f_law_word _ := ⟨⟨_, _, _, _, _, _, _, _, _, _, rfl, l_law_word, c_law_word⟩, PySem.W.mg_of X G a_law_word, k_law_word⟩
  have b_law_word := C8.Fun.binds F_law_word.fn rfl (ps := ["reel", "letters", "least", "most"]) fun _ _ _ _ _ _ us hl => match us, hl with | [_, _, _, _], _ => rfl
  have F_law_quoted : C8.Def K mg "_law_quoted" s_law_quoted f_law_quoted _ := ⟨⟨_, _, _, _, _, _, _, _, _, _, rfl, l_law_quoted, c_law_quoted⟩, PySem.W.mg_of X G a_law_quoted, k_law_quoted⟩
  have b_law_quoted := C8.Fun.binds F_law_quoted.fn rfl (ps := ["chars"]) fun _ _ _ _ _ _ us hl => match us, hl with | [_], _ => rfl
  have F_law_literal : C8.Def K mg "_law_literal" s_law_literal f_law_literal _ := ⟨⟨_, _, _, _, _, _, _, _, _, _, rfl, l_law_literal, c_law_literal⟩, PySem.W.mg_of X G a_law_literal, k_law_literal⟩
  have b_law_literal := C8.Fun.binds F_law_literal.fn rfl (ps := ["reel"]) fun _ _ _ _ _ _ us hl => match us, hl with | [_], _ => rfl
  have F_law_name : C8.Def K mg "_law_name" s_law_name f_law_name _ := ⟨⟨_, _, _, _, _, _, _, _, _, _, rfl, l_law_name, c_law_name⟩, PySem.W.mg_of X G a_law_name, k_law_name⟩
  have b_law_name := C8.Fun.binds F_law_name.fn rfl (ps := ["reel"]) fun _ _ _ _ _ _ us hl => match us, hl with | [_], _ => rfl
  have F_law_sort : C8.Def K mg "_law_sort" s_law_sort f_law_sort _ := ⟨⟨_, _, _, _, _, _, _, _, _, _, rfl, l_law_sort, c_law_sort⟩, PySem.W.mg_of X G a_law_sort, k_law_sort⟩
  have b_law_sort := C8.Fun.binds F_law_sort.fn rfl (ps := ["reel"]) fun _ _ _ _ _ _ us hl => match us, hl with | [_], _ => rfl
  have F_law_comb : C8.Def K mg "_law_comb" s_law_comb f_law_comb _ := ⟨⟨_, _, _, _, _, _, _, _, _, _, rfl, l_law_comb, c_law_comb⟩, PySem.W.mg_of X G a_law_comb, k_law_comb⟩
  have b_law_comb := C8.Fun.binds F_law_comb.fn rfl (ps := ["reel", "deep"]) fun _ _ _ _ _ _ us hl => match us, hl with | [_, _], _ => rfl
  have F_law_levels : C8.Def K mg "_law_levels" s_law_levels f_law_levels _ := ⟨⟨_, _, _, _, _, _, _, _, _, _, rfl, l_law_levels, c_law_levels⟩, PySem.W.mg_of X G a_law_levels, k_law_levels⟩
  have b_law_levels := C8.Fun.binds F_law_levels.fn rfl (ps := ["reel"]) fun _ _ _ _ _ _ us hl => match us, hl with | [_], _ => rfl
  have F_law_count : C8.Def K mg "_law_count" s_law_count f_law_count _ := ⟨⟨_, _, _, _, _, _, _, _, _, _, rfl, l_law_count, c_law_count⟩, PySem.W.mg_of X G a_law_count, k_law_count⟩
  have b_law_count := C8.Fun.binds F_law_count.fn rfl (ps := ["reel", "least"]) fun _ _ _ _ _ _ us hl => match us, hl with | [_, _], _ => rfl
  have F_law_row : C8.Def K mg "_law_row" s_law_row f_law_row _ := ⟨⟨_, _, _, _, _, _, _, _, _, _, rfl, l_law_row, c_law_row⟩, PySem.W.mg_of X G a_law_row, k_law_row⟩
  have b_law_row := C8.Fun.binds F_law_row.fn rfl (ps := ["reel", "level"]) fun _ _ _ _ _ _ us hl => match us, hl with | [_, _], _ => rfl
  have F_law_small_row : C8.Def K mg "_law_small_row" s_law_small_row f_law_small_row _ := ⟨⟨_, _, _, _, _, _, _, _, _, _, rfl, l_law_small_row, c_law_small_row⟩, PySem.W.mg_of X G a_law_small_row, k_law_small_row⟩
  have b_law_small_row := C8.Fun.binds F_law_small_row.fn rfl (ps := ["reel", "level"]) fun _ _ _ _ _ _ us hl => match us, hl with | [_, _], _ => rfl
  have F_law_tree : C8.Def K mg "_law_tree" s_law_tree f_law_tree _ := ⟨⟨_, _, _, _, _, _, _, _, _, _, rfl, l_law_tree, c_law_tree⟩, PySem.W.mg_of X G a_law_tree, k_law_tree⟩
  have b_law_tree := C8.Fun.binds F_law_tree.fn rfl (ps := ["reel"]) fun _ _ _ _ _ _ us hl => match us, hl with | [_], _ => rfl
  have F_law_made : C8.Def K mg "_law_made" s_law_made f_law_made _ := ⟨⟨_, _, _, _, _, _, _, _, _, _, rfl, l_law_made, c_law_made⟩, PySem.W.mg_of X G a_law_made, k_law_made⟩
  have b_law_made := C8.Fun.binds F_law_made.fn rfl (ps := ["rows"]) fun _ _ _ _ _ _ us hl => match us, hl with | [_], _ => rfl
  have F_law_told : C8.Def K mg "_law_told" s_law_told f_law_told _ := ⟨⟨_, _, _, _, _, _, _, _, _, _, rfl, l_law_told, c_law_told⟩, PySem.W.mg_of X G a_law_told, k_law_told⟩
  have b_law_told := C8.Fun.binds F_law_told.fn rfl (ps := ["root", "most"]) fun _ _ _ _ _ _ us hl => match us, hl with | [_, _], _ => rfl
  have F_law_text : C8.Def K mg "_law_text" s_law_text f_law_text _ := ⟨⟨_, _, _, _, _, _, _, _, _, _, rfl, l_law_text, c_law_text⟩, PySem.W.mg_of X G a_law_text, k_law_text⟩
  have b_law_text := C8.Fun.binds F_law_text.fn rfl (ps := ["rows"]) fun _ _ _ _ _ _ us hl => match us, hl with | [_], _ => rfl
  have F_law : C8.Def K mg "law" s_law _ _ := ⟨⟨_, _, _, _, _, _, _, _, _, _, rfl, l_law, c_law⟩, PySem.W.mg_of X G a_law, k_law⟩
  have x_TreeError : ExcK K C_TreeError := ⟨ic_TreeError, ga_TreeError, gg_TreeError, be_TreeError, cl_TreeError, z1, z2, mo_TreeError⟩
  have f_TreeError : XfC K C_TreeError := ⟨ga_TreeError, gg_TreeError, be_TreeError, hd_TreeError⟩
  have o_TreeError : OexC K C_TreeError := ⟨⟨_, _, _, _, _, _, _, _, _, _, _, _, _, _, _, xl_TreeError, bmok_TreeError⟩, sa_TreeError, be_TreeError, tc_TreeError, kc_TreeError⟩
  have u_TreeError : SupC PySem.Challenge.rw_mendedtree_k32_tree_written.prog K mg C_TreeError cda_TreeError cc_TreeError := ⟨o_TreeError, ⟨_, _, _, _, _, _, co_TreeError, v2_TreeError, fl_ok_TreeError⟩, ⟨_, _, _, ce_TreeError⟩, mr_TreeError, PySem.W.mg_none_of X G z_super, z3, al_TreeError, sv_TreeError, top_super⟩
  have u_Node : F_Node K mg C_Node := ⟨⟨⟨pg_Node, hd_Node, po_Node, sa_Node⟩, PySem.W.mg_of X G a_Node, cl_Node, z1, z2, mo_Node⟩, nf_Node_kind, nf_Node_symbol, nf_Node_state, nf_Node_lead, nf_Node_width, nf_Node_look, nf_Node_alternative, nf_Node_nodes, nf_Node_popped⟩
  have F_Node_init : C8.Fun K "__init__" "Node.__init__" s_Node___init__ g_Node_init _ := ⟨_, _, _, _, _, _, _, _, _, _, rfl, l_Node_init, c_Node_init⟩
  have D_Node_init : FunD K "__init__" "Node.__init__" (C8.fnArgs s_Node___init__) (C8.fnBody s_Node___init__) (C8.fnScope s_Node___init__) [] [("alternative", .int (-1)), ("nodes", .ref e_Node_init), ("popped", .int (0))] g_Node_init _ := ⟨⟨_, _, _, _, _, _, _, _, _, _, rfl, l_Node_init, c_Node_init, .inl ⟨rfl, rfl⟩, .inr ⟨_, rfl, fun q hq => by
    simp only [List.mem_cons, List.not_mem_nil, or_false] at hq
    rcases hq with rfl | rfl | rfl
    · exact ⟨_, kd_Node_init_alternative, ⟨_, rfl⟩⟩
    · exact ⟨_, kd_Node_init_nodes, rfl⟩
    · exact ⟨_, kd_Node_init_popped, ⟨_, rfl⟩⟩⟩⟩, k_Node_init⟩
  obtain ⟨_, kb_Node_init7⟩ := FunD.kbinds0 D_Node_init (ps := ["self", "kind", "symbol", "state", "lead", "width", "look", "alternative", "nodes", "popped"]) 3 ["state", "lead", "width", "look", "alternative", "nodes", "popped"] [] (fun us mv ws => us ++ (ws ++ mv)) (by simp) (fun q hq => nomatch hq) (fun r1 r2 r3 => r1.append (r3.append r2)) (fun D doc pm an cdv ct us mv ws h1 h2 h3 => match us, mv, ws, h1, h2, h3 with | [_, _, _], [], [_, _, _, _, _, _, _], _, _, _ => rfl)
  obtain ⟨_, kb_Node_init4⟩ := FunD.kbinds0 D_Node_init (ps := ["self", "kind", "symbol", "state", "lead", "width", "look", "alternative", "nodes", "popped"]) 3 ["state", "lead", "width", "look"] [("alternative", .int (-1)), ("nodes", .ref e_Node_init), ("popped", .int (0))] (fun us mv ws => us ++ (ws ++ mv)) (by simp) (fun q hq => by simp only [List.mem_cons, List.not_mem_nil, or_false] at hq ⊢; rcases hq with rfl | rfl | rfl <;> simp) (fun r1 r2 r3 => r1.append (r3.append r2)) (fun D doc pm an cdv ct us mv ws h1 h2 h3 => match us, mv, ws, h1, h2, h3 with | [_, _, _], [_, _, _], [_, _, _, _], _, _, _ => ⟨_, _, _, _, _, _, rfl, rfl, ⟨_, _, _, _, _, _, rfl, rfl, ⟨_, _, _, _, _, _, rfl, rfl, rfl⟩⟩⟩)
  obtain ⟨_, kb_Node_init6⟩ := FunD.kbinds0 D_Node_init (ps := ["self", "kind", "symbol", "state", "lead", "width", "look", "alternative", "nodes", "popped"]) 3 ["state", "lead", "width", "look", "alternative", "nodes"] [("popped", .int (0))] (fun us mv ws => us ++ (ws ++ mv)) (by simp) (fun q hq => by simp only [List.mem_cons, List.not_mem_nil, or_false] at hq ⊢; rcases hq with rfl <;> simp) (fun r1 r2 r3 => r1.append (r3.append r2)) (fun D doc pm an cdv ct us mv ws h1 h2 h3 => match us, mv, ws, h1, h2, h3 with | [_, _, _], [_], [_, _, _, _, _, _], _, _, _ => ⟨_, _, _, _, _, _, rfl, rfl, rfl⟩)
  refine ⟨PySem.W.fnOf "law" "law" (C8.fnArgs s_law) (C8.fnBody s_law) (C8.fnScope s_law) .none kV_law dc_law pm_law an_law cd_law ct_law, fun s v => .of_eq rfl, fun base _ _ => ?_⟩
  have c_TreeError := init_TreeError (P := PySem.Challenge.rw_mendedtree_k32_tree_written.prog) (w := w) (base := base) T li_TreeError ci_TreeError u_TreeError in_TreeError ti_TreeError (PySem.W.mg_of X G a_TreeError) nof_TreeError_place
  have c_law_reel := cal_law_reel (P := PySem.Challenge.rw_mendedtree_k32_tree_written.prog) (w := w) (base := base) T F_law_reel b_law_reel
  have c_law_draw := cal_law_draw (P := PySem.Challenge.rw_mendedtree_k32_tree_written.prog) (w := w) (base := base) T F_law_draw b_law_draw
  have c_law_pick := cal_law_pick (P := PySem.Challenge.rw_mendedtree_k32_tree_written.prog) (w := w) (base := base) T F_law_pick b_law_pick c_law_draw
  have c_law_levels := cal_law_levels (P := PySem.Challenge.rw_mendedtree_k32_tree_written.prog) (w := w) (base := base) T F_law_levels b_law_levels c_law_pick
  have c_law_comb := cal_law_comb (P := PySem.Challenge.rw_mendedtree_k32_tree_written.prog) (w := w) (base := base) T F_law_comb b_law_comb c_law_draw
  have c_law_word := cal_law_word (P := PySem.Challenge.rw_mendedtree_k32_tree_written.prog) (w := w) (base := base) T F_law_word b_law_word c_law_pick c_law_draw
  have c_law_name := cal_law_name (P := PySem.Challenge.rw_mendedtree_k32_tree_written.prog) (w := w) (base := base) T F_law_name b_law_name c_law_draw c_law_pick c_law_word
  have c_law_quoted := cal_law_quoted (P := PySem.Challenge.rw_mendedtree_k32_tree_written.prog) (w := w) (base := base) T F_law_quoted b_law_quoted
  have c_law_literal := cal_law_literal (P := PySem.Challenge.rw_mendedtree_k32_tree_written.prog) (w := w) (base := base) T F_law_literal b_law_literal c_law_quoted c_law_draw c_law_pick
  have c_law_sort := cal_law_sort (P := PySem.Challenge.rw_mendedtree_k32_tree_written.prog) (w := w) (base := base) T F_law_sort b_law_sort c_law_name c_law_draw c_law_literal
  have c_law_count := cal_law_count (P := PySem.Challenge.rw_mendedtree_k32_tree_written.prog) (w := w) (base := base) T F_law_count b_law_count c_law_draw
  have c_law_row := cal_law_row (P := PySem.Challenge.rw_mendedtree_k32_tree_written.prog) (w := w) (base := base) T F_law_row b_law_row c_law_sort c_law_draw c_law_count
  have c_law_small_row := cal_law_small_row (P := PySem.Challenge.rw_mendedtree_k32_tree_written.prog) (w := w) (base := base) T F_law_small_row b_law_small_row c_law_pick c_law_draw
  have c_law_tree := cal_law_tree (P := PySem.Challenge.rw_mendedtree_k32_tree_written.prog) (w := w) (base := base) T F_law_tree b_law_tree c_law_draw c_law_levels c_law_comb c_law_row c_law_small_row c_law_pick
  have c_law_text := cal_law_text (P := PySem.Challenge.rw_mendedtree_k32_tree_written.prog) (w := w) (base := base) T F_law_text b_law_text
  have c_char_of := cal_char_of (P := PySem.Challenge.rw_mendedtree_k32_tree_written.prog) (w := w) (base := base) T F_char_of b_char_of c_TreeError
  have c_name_end := cal_name_end (P := PySem.Challenge.rw_mendedtree_k32_tree_written.prog) (w := w) (base := base) T F_name_end b_name_end c_char_of
  have c_written_char_end := cal_written_char_end (P := PySem.Challenge.rw_mendedtree_k32_tree_written.prog) (w := w) (base := base) T F_written_char_end b_written_char_end c_char_of
  have c_literal_end := cal_literal_end (P := PySem.Challenge.rw_mendedtree_k32_tree_written.prog) (w := w) (base := base) T F_literal_end b_literal_end c_written_char_end
  have c_word_end := cal_word_end (P := PySem.Challenge.rw_mendedtree_k32_tree_written.prog) (w := w) (base := base) T F_word_end b_word_end c_name_end c_literal_end
  have c_number_end := cal_number_end (P := PySem.Challenge.rw_mendedtree_k32_tree_written.prog) (w := w) (base := base) T F_number_end b_number_end c_char_of
  have c_read_head := cal_read_head (P := PySem.Challenge.rw_mendedtree_k32_tree_written.prog) (w := w) (base := base) T F_read_head b_read_head c_char_of c_word_end c_number_end tg_LEAST_NUMBERS
  have o_Node_init := fni_Node (P := PySem.Challenge.rw_mendedtree_k32_tree_written.prog) (w := w) (base := base) T F_Node_init u_Node
  have c_Node_init7 : MakK PySem.Challenge.rw_mendedtree_k32_tree_written.prog w K mg base 1 "Node" C_Node 2 ["state", "lead", "width", "look", "alternative", "nodes", "popped"] (sp_Node_init K C_Node) (gKW []) := ⟨_, _, _, _, ⟨mk_Node, at_Node_init, is_Node_init, kc_Node⟩, o_Node_init, PySem.W.mg_of X G a_Node, kb_Node_init7⟩
  have c_Node_init4 : MakK PySem.Challenge.rw_mendedtree_k32_tree_written.prog w K mg base 1 "Node" C_Node 2 ["state", "lead", "width", "look"] (sp_Node_init K C_Node) (gKW [.int (-1), .ref e_Node_init, .int (0)]) := ⟨_, _, _, _, ⟨mk_Node, at_Node_init, is_Node_init, kc_Node⟩, o_Node_init, PySem.W.mg_of X G a_Node, kb_Node_init4⟩
  have c_Node_init6 : MakK PySem.Challenge.rw_mendedtree_k32_tree_written.prog w K mg base 1 "Node" C_Node 2 ["state", "lead", "width", "look", "alternative", "nodes"] (sp_Node_init K C_Node) (gKW [.int (0)]) := ⟨_, _, _, _, ⟨mk_Node, at_Node_init, is_Node_init, kc_Node⟩, o_Node_init, PySem.W.mg_of X G a_Node, kb_Node_init6⟩
  have c_built_node := cal_built_node (P := PySem.Challenge.rw_mendedtree_k32_tree_written.prog) (w := w) (base := base) T F_built_node b_built_node c_Node_init7
  have c_read_tree := cal_read_tree (P := PySem.Challenge.rw_mendedtree_k32_tree_written.prog) (w := w) (base := base) T F_read_tree b_read_tree c_read_head c_char_of c_built_node c_TreeError
  have c_law_made := cal_law_made (P := PySem.Challenge.rw_mendedtree_k32_tree_written.prog) (w := w) (base := base) T F_law_made b_law_made c_Node_init4 c_Node_init7 (fun H => .inr ⟨_, _, _, ke_Node_init, rfl, rfl, Nat.zero_le _, .nil⟩)
  have c_written_head := cal_written_head (P := PySem.Challenge.rw_mendedtree_k32_tree_written.prog) (w := w) (base := base) T F_written_head b_written_head (u_Node)
  have c_write_tree := cal_write_tree (P := PySem.Challenge.rw_mendedtree_k32_tree_written.prog) (w := w) (base := base) T F_write_tree b_write_tree c_written_head (u_Node)
  have c_law_told := cal_law_told (P := PySem.Challenge.rw_mendedtree_k32_tree_written.prog) (w := w) (base := base) T F_law_told b_law_told (u_Node)
  exact fn_law (P := PySem.Challenge.rw_mendedtree_k32_tree_written.prog) (w := w) (base := base) T F_law c_law_reel c_law_tree c_law_text c_read_tree c_law_row c_law_made c_write_tree c_law_levels c_law_told c_Node_init6
theorem walk {q : Program} {loose : List Str} {XP : (Str → Option Value) → Heap → Prop} {YP : World → Heap → Prop} {d : DefRec} {K : Params → PySem.W.Frag} (hn : PySem.Challenge.rw_mendedtree_k32_tree_written.most = some 63) (hdf : d.params.defaults = [])
    (hY : ∀ (w : World) (h : Heap), YP w h → (K w.params).In h)
    (F : ∀ (w : World) (mg : Str → Option Value) (fa : Addr) (h : Heap), (K w.params).In h → h.Ns mainGlobals mg → mg d.name = some (.ref fa) →
      ∃ fd : FuncData, (∀ (s : Shared) (u : Value), BindsTo s fd ⟨[u], []⟩ [("script", u)]) ∧ ∀ base : Heap, (K w.params).In base → base.Ns mainGlobals mg → FnOk PySem.Challenge.rw_mendedtree_k32_tree_written.prog w (K w.params) mg base C8.CX0 9 fa fd ["script"] (sp_law (K w.params))) :
    PySem.W.WalkO q loose XP YP PySem.Challenge.rw_mendedtree_k32_tree_written.row.toRowW d [] (fun f vs => PySem.call f vs) :=
  L2.walk_of (l := PySem.Challenge.rw_mendedtree_k32_tree_written) (n := 63) (k := 9) (x := "script") (CX := fun _ => C8.CX0) (sp := fun w => sp_law (K w.params)) hn (by decide) hdf ⟨rfl, by decide, by decide⟩ hY F (fun _ _ a ns hl _ hS => ⟨a, ns, rfl, hS, hl, fun _ => rfl⟩) fun _ _ _ _ _ z => z
end Z
open PySem PySem.W PyProof.Rows in
set_option maxRecDepth 100000 in
set_option maxHeartbeats 0 in
theorem PySem.Challenge.cw_mendedtree_k32_tree_written_holds : PySem.Challenge.rw_mendedtree_k32_tree_written.Holds := by
  w_on; o_law; k_head; (case hw => w_witness2)
  k_fill
  refine Z.walk rfl rfl (fun w h Y => PySem.W.kIn_of Y) ?F
  case F =>
    intro w mg fa h KX G hmg
    refine' Z.all_mk KX G hmg ?z_ValueError ?z_abs ?z_bool ?z_enumerate ?z_int ?z_isinstance ?z_iter ?z_len ?z_max ?z_min ?z_range ?z_reversed ?z_str ?z_sum ?z_tuple ?z_DIGITS ?z_ESCAPED_CHARS ?z_LEAST_NUMBERS ?zl_LEAST_NUMBERS ?z_LETTERS ?z_LITERAL_CHARS ?z_MOST_DIGITS ?z_NAME_CHARS ?a_char_of ?l_char_of ?c_char_of ?k_char_of ?a_name_end ?l_name_end ?c_name_end ?k_name_end ?a_written_char_end ?l_written_char_end ?c_written_char_end ?k_written_char_end ?a_literal_end ?l_literal_end ?c_literal_end ?k_literal_end ?a_word_end ?l_word_end ?c_word_end ?k_word_end ?a_number_end ?l_number_end ?c_number_end ?k_number_end ?a_written_head ?l_written_head ?c_written_head ?k_written_head ?a_write_tree ?l_write_tree ?c_write_tree ?k_write_tree ?a_read_head ?l_read_head ?c_read_head ?k_read_head ?a_built_node ?l_built_node ?c_built_node ?k_built_node ?a_read_tree ?l_read_tree ?c_read_tree ?k_read_tree ?a_law_reel ?l_law_reel ?c_law_reel ?k_law_reel ?a_law_draw ?l_law_draw ?c_law_draw ?k_law_draw ?a_law_pick ?l_law_pick ?c_law_pick ?k_law_pick ?a_law_word ?l_law_word ?c_law_word ?k_law_word ?a_law_quoted ?l_law_quoted ?c_law_quoted ?k_law_quoted ?a_law_literal ?l_law_literal ?c_law_literal ?k_law_literal ?a_law_name ?l_law_name ?c_law_name ?k_law_name ?a_law_sort ?l_law_sort ?c_law_sort ?k_law_sort ?a_law_comb ?l_law_comb ?c_law_comb ?k_law_comb ?a_law_levels ?l_law_levels ?c_law_levels ?k_law_levels ?a_law_count ?l_law_count ?c_law_count ?k_law_count ?a_law_row ?l_law_row ?c_law_row ?k_law_row ?a_law_small_row ?l_law_small_row ?c_law_small_row ?k_law_small_row ?a_law_tree ?l_law_tree ?c_law_tree ?k_law_tree ?a_law_made ?l_law_made ?c_law_made ?k_law_made ?a_law_told ?l_law_told ?c_law_told ?k_law_told ?a_law_text ?l_law_text ?c_law_text ?k_law_text ?a_law ?l_law ?c_law ?k_law ?a_TreeError ?ic_TreeError ?tc_TreeError ?be_TreeError ?ss_TreeError ?sv_TreeError ?ga_TreeError ?gg_TreeError ?hd_TreeError ?cl_TreeError ?mo_TreeError ?nof_TreeError_place ?xl_TreeError ?bmok_TreeError ?sa_TreeError ?kc_TreeError ?in_TreeError ?ti_TreeError ?li_TreeError ?ci_TreeError ?co_TreeError ?v2_TreeError ?fl_ok_TreeError ?ce_TreeError ?mr_TreeError ?al_TreeError ?z1 ?z2 ?z_super ?z3 ?a_Node ?pg_Node ?hd_Node ?po_Node ?sa_Node ?mk_Node ?kc_Node ?cl_Node ?mo_Node ?nf_Node_kind ?nf_Node_symbol ?nf_Node_state ?nf_Node_lead ?nf_Node_width ?nf_Node_look ?nf_Node_alternative ?nf_Node_nodes ?nf_Node_popped ?at_Node_init ?is_Node_init ?l_Node_init ?c_Node_init ?k_Node_init ?kd_Node_init_alternative ?kd_Node_init_nodes ?ke_Node_init ?kd_Node_init_popped
    (case z_ValueError => k_is)
    (case z_abs => k_is)
    (case z_bool => k_is)
    (case z_enumerate => k_is)
    (case z_int => k_is)
    (case z_isinstance => k_is)
    (case z_iter => k_is)
    (case z_len => k_is)
    (case z_max => k_is)
    (case z_min => k_is)
    (case z_range => k_is)
    (case z_reversed => k_is)
    (case z_str => k_is)
    (case z_sum => k_is)
    (case z_tuple => k_is)
    (case z_DIGITS => k_is)
    (case z_ESCAPED_CHARS => k_is)
    (case z_LEAST_NUMBERS => k_is)
    (case zl_LEAST_NUMBERS => k_is)
    (case z_LETTERS => k_is)
    (case z_LITERAL_CHARS => k_is)
    (case z_MOST_DIGITS => k_is)
    (case z_NAME_CHARS => k_is)
    (case a_char_of => k_is)
    (case l_char_of => k_is)
    (case c_char_of => k_is)
    (case k_char_of => k_is)
    (case a_name_end => k_is)
    (case l_name_end => k_is)
    (case c_name_end => k_is)
    (case k_name_end => k_is)
    (case a_written_char_end => k_is)
    (case l_written_char_end => k_is)
    (case c_written_char_end => k_is)
    (case k_written_char_end => k_is)
    (case a_literal_end => k_is)
    (case l_literal_end => k_is)
    (case c_literal_end => k_is)
    (case k_literal_end => k_is)
    (case a_word_end => k_is)
    (case l_word_end => k_is)
    (case c_word_end => k_is)
    (case k_word_end => k_is)
    (case a_number_end => k_is)
    (case l_number_end => k_is)
    (case c_number_end => k_is)
    (case k_number_end => k_is)
    (case a_written_head => k_is)
    (case l_written_head => k_is)
    (case c_written_head => k_is)
    (case k_written_head => k_is)
    (case a_write_tree => k_is)
    (case l_write_tree => k_is)
    (case c_write_tree => k_is)
    (case k_write_tree => k_is)
    (case a_read_head => k_is)
    (case l_read_head => k_is)
    (case c_read_head => k_is)
    (case k_read_head => k_is)
    (case a_built_node => k_is)
    (case l_built_node => k_is)
    (case c_built_node => k_is)
    (case k_built_node => k_is)
    (case a_read_tree => k_is)
    (case l_read_tree => k_is)
    (case c_read_tree => k_is)
    (case k_read_tree => k_is)
    (case a_law_reel => k_is)
    (case l_law_reel => k_is)
    (case c_law_reel => k_is)
    (case k_law_reel => k_is)
    (case a_law_draw => k_is)
    (case l_law_draw => k_is)
    (case c_law_draw => k_is)
    (case k_law_draw => k_is)
    (case a_law_pick => k_is)
    (case l_law_pick => k_is)
    (case c_law_pick => k_is)
    (case k_law_pick => k_is)
    (case a_law_word => k_is)
    (case l_law_word => k_is)
    (case c_law_word => k_is)
    (case k_law_word => k_is)
    (case a_law_quoted => k_is)
    (case l_law_quoted => k_is)
    (case c_law_quoted => k_is)
    (case k_law_quoted => k_is)
    (case a_law_literal => k_is)
    (case l_law_literal => k_is)
    (case c_law_literal => k_is)
    (case k_law_literal => k_is)
    (case a_law_name => k_is)
    (case l_law_name => k_is)
    (case c_law_name => k_is)
    (case k_law_name => k_is)
    (case a_law_sort => k_is)
    (case l_law_sort => k_is)
    (case c_law_sort => k_is)
    (case k_law_sort => k_is)
    (case a_law_comb => k_is)
    (case l_law_comb => k_is)
    (case c_law_comb => k_is)
    (case k_law_comb => k_is)
    (case a_law_levels => k_is)
    (case l_law_levels => k_is)
    (case c_law_levels => k_is)
    (case k_law_levels => k_is)
    (case a_law_count => k_is)
    (case l_law_count => k_is)
    (case c_law_count => k_is)
    (case k_law_count => k_is)
    (case a_law_row => k_is)
    (case l_law_row => k_is)
    (case c_law_row => k_is)
    (case k_law_row => k_is)
    (case a_law_small_row => k_is)
    (case l_law_small_row => k_is)
    (case c_law_small_row => k_is)
    (case k_law_small_row => k_is)
    (case a_law_tree => k_is)
    (case l_law_tree => k_is)
    (case c_law_tree => k_is)
    (case k_law_tree => k_is)
    (case a_law_made => k_is)
    (case l_law_made => k_is)
    (case c_law_made => k_is)
    (case k_law_made => k_is)
    (case a_law_told => k_is)
    (case l_law_told => k_is)
    (case c_law_told => k_is)
    (case k_law_told => k_is)
    (case a_law_text => k_is)
    (case l_law_text => k_is)
    (case c_law_text => k_is)
    (case k_law_text => k_is)
    (case a_law => k_is)
    (case l_law => k_is)
    (case c_law => k_is)
    (case k_law => k_is)
    (case a_TreeError => k_is)
    (case ic_TreeError => k_is)
    (case tc_TreeError => k_is)
    (case be_TreeError => k_is)
    (case ss_TreeError => first | rfl | k_is)
    (case sv_TreeError => k_is)
    (case ga_TreeError => k_is)
    (case gg_TreeError => k_is)
    (case hd_TreeError => k_is)
    (case cl_TreeError => k_is)
    (case mo_TreeError => k_is)
    (case nof_TreeError_place => k_is)
    (case xl_TreeError => k_is)
    (case bmok_TreeError => first | rfl | decide +kernel)
    (case sa_TreeError => k_is)
    (case kc_TreeError => k_is)
    (case in_TreeError => k_is)
    (case ti_TreeError => k_is)
    (case li_TreeError => k_is)
    (case ci_TreeError => k_is)
    (case co_TreeError => k_is)
    (case v2_TreeError => rfl)
    (case fl_ok_TreeError => first | rfl | decide +kernel)
    (case ce_TreeError => k_is)
    (case mr_TreeError => k_is)
    (case al_TreeError => ks_is)
    (case z1 => k_is)
    (case z2 => k_is)
    (case z_super => k_is)
    (case z3 => k_is)
    (case a_Node => k_is)
    (case pg_Node => k_is)
    (case hd_Node => k_is)
    (case po_Node => k_is)
    (case sa_Node => k_is)
    (case mk_Node => k_is)
    (case kc_Node => k_is)
    (case cl_Node => k_is)
    (case mo_Node => k_is)
    (case nf_Node_kind => k_is)
    (case nf_Node_symbol => k_is)
    (case nf_Node_state => k_is)
    (case nf_Node_lead => k_is)
    (case nf_Node_width => k_is)
    (case nf_Node_look => k_is)
    (case nf_Node_alternative => k_is)
    (case nf_Node_nodes => k_is)
    (case nf_Node_popped => k_is)
    (case at_Node_init => k_is)
    (case is_Node_init => k_is)
    (case l_Node_init => k_is)
    (case c_Node_init => k_is)
    (case k_Node_init => k_is)
    (case kd_Node_init_alternative => k_is)
    (case kd_Node_init_nodes => k_is)
    (case ke_Node_init => k_is)
    (case kd_Node_init_popped => k_is)
