import PyProof.Rows.All
import Wide.All
import OpenK.AllK
import Wide.FinOn
import HandS.ForMost
import HandS.Codes
import HandS.Steps
import HandS.Style
import HandS.TupAny
import HandS.Conv
import HandS.IsInst
import HandS.Flow
import HandS.ForExc
import HandS.ExcInit
import HandS.ExcField
import KE.KExcSuper
import HandS.WordsExc
import KE.KExcIs
import HandS.FStrTup
import HandS.Iter
import HandS.IterVal
import HandS.OwnIter
import OpenK.KMeth
import KE.KOpsOwn
import HandS.ClsMeth
import HandS.SortInts
import PyProof.NeKinds
import HandS.MakeKwOnly
import HandS.Walk
import HandS.Zip
import KE.KDictZip
import PySem.Challenge.RW_mendedtree_k38_same_and_sizes
set_option Elab.async false
set_option linter.all false
set_option maxRecDepth 100000
set_option maxHeartbeats 4000000
namespace Z
open PySem PySem.Spec L2

/-! ## heaps: what stays -/
/-- all that was tracked stands, but the list at l, which may be another one -/
structure SL (l : Addr) (H H' : Hp) : Prop where
  was : ∃ xs, H l = some (.lst xs)
  is : ∃ xs, H' l = some (.lst xs)
  keep : ∀ a o, a ≠ l → H a = some o → H' a = some o
theorem SL.refl {l : Addr} {H : Hp} {xs : List V} (h : H l = some (.lst xs)) : SL l H H := ⟨⟨_, h⟩, ⟨_, h⟩, fun _ _ _ e => e⟩
theorem SL.trans {l : Addr} {H H1 H2 : Hp} (a : SL l H H1) (b : SL l H1 H2) : SL l H H2 := ⟨a.was, b.is, fun x o n e => b.keep x o n (a.keep x o n e)⟩
theorem Same.at {H H' : Hp} {a : Addr} {o : HO} (s : Same H H') (h : H a = some o) : H' a = some o := s a o h
theorem SL.at {l : Addr} {H H' : Hp} {a : Addr} {o : HO} (s : SL l H H') (n : a ≠ l) (h : H a = some o) : H' a = some o := s.keep a o n h
theorem SL.tup {l p : Addr} {H H' : Hp} {ys : List V} (s : SL l H H') (h : H p = some (.tup ys)) : H' p = some (.tup ys) := by
  obtain ⟨xs, e⟩ := s.was
  exact s.keep p _ (ne_of h e (fun q => nomatch q)) h
theorem SL.frz {l p : Addr} {H H' : Hp} {ob : Obj} {u : HO} (s : SL l H H') (h : H p = some (.frz ob u)) : H' p = some (.frz ob u) := by
  obtain ⟨xs, e⟩ := s.was
  exact s.keep p _ (ne_of h e (fun q => nomatch q)) h
/-- the list at l was made behind H0 -/
theorem SL.same {l : Addr} {H0 H H' : Hp} (s0 : Same H0 H) (s : SL l H H') (n : H0 l = none) : Same H0 H' := fun a o e => s.keep a o (ne_of_none e n) (s0 a o e)
theorem Same.sl {l : Addr} {H H' : Hp} {xs : List V} (h : H l = some (.lst xs)) (s : Same H H') : SL l H H' := ⟨⟨_, h⟩, ⟨_, s _ _ h⟩, fun a o _ e => s a o e⟩
theorem SL.more {l : Addr} {H0 H H' : Hp} (s0 : SL l H0 H) (s : Same H H') : SL l H0 H' := ⟨s0.was, s0.is.imp fun _ e => s _ _ e, fun a o n e => s a o (s0.keep a o n e)⟩
theorem SL.two {l m : Addr} {H0 H H' : Hp} (s0 : SL m H0 H) (s : SL l H H') (n : H0 l = none) : SL m H0 H' := by
  obtain ⟨xs, e0⟩ := s0.was
  obtain ⟨ys, e1⟩ := s0.is
  exact ⟨s0.was, ⟨ys, s.keep m _ (ne_of_none e0 n) e1⟩, fun a o q e => s.keep a o (ne_of_none e n) (s0.keep a o q e)⟩
theorem Same.fre {H H' : Hp} {l : Addr} (e : Same H H') (h : H' l = Option.none) : H l = Option.none := e.free h
theorem SL.fre {H H' : Hp} {l m : Addr} (e : SL m H H') (h : H' l = Option.none) : H l = Option.none := by
  cases q : H l with
  | none => rfl
  | some o =>
    by_cases c : l = m
    · obtain ⟨xs, e1⟩ := e.is
      rw [c, e1] at h
      cases h
    · rw [e.keep l o c q] at h
      cases h
/-- a new object: its address, the heap behind it -/
def newO (o : HO) (H : Hp) (Q : VK) : Prop := ∀ p, H p = none → Q (.ref p) (upd H p o)
/-- p is new to H -/
def Frs (H : Hp) (p : Addr) : Prop := H p = none
theorem Frs.ne {H : Hp} {p a : Addr} {u : HO} (f : Frs H p) (h : H a = some u) : a ≠ p := ne_of_none h f
theorem Frs.ne' {H : Hp} {p a : Addr} {u : HO} (f : Frs H p) (h : H a = some u) : p ≠ a := (ne_of_none h f).symm
theorem newO_gen {o : HO} {H : Hp} {Q : VK} (h : ∀ (p : Addr) (H' : Hp), Frs H p → Same H H' → H' p = some o → Q (.ref p) H') : newO o H Q := fun p hp =>
  h p _ hp (fun b u e => by rw [upd_ne (ne_of_none e hp)]; exact e) upd_same
/-- a list that is written -/
def putO (l : Addr) (xs : List V) (H : Hp) (Q : Hp → Prop) : Prop := Q (upd H l (.lst xs))
theorem putO_gen {l : Addr} {xs ys : List V} {H : Hp} {Q : Hp → Prop} (hw : H l = some (.lst ys)) (h : ∀ H' : Hp, SL l H H' → H' l = some (.lst xs) → Q H') : putO l xs H Q :=
  h _ ⟨⟨_, hw⟩, ⟨_, upd_same⟩, fun a u n e => by rw [upd_ne n]; exact e⟩ upd_same

/-! ## statements -/
section
variable {t u : TS} {nx : L2.St → Hp → Prop} {rt : VK} {bk ct : L2.St → Hp → Prop} {σ : L2.St} {H : Hp} {te ta tb : TE} {c tA tB' : TT} {i : Nat} {Q : VK} {QT : Bool → Hp → Prop}
theorem rSeq (h : t ⟨u ⟨nx, rt, bk, ct⟩, rt, bk, ct⟩ σ H) : tSeq t u ⟨nx, rt, bk, ct⟩ σ H := h
theorem rCut (Mid : L2.St → Hp → Prop) (h : t ⟨Mid, rt, bk, ct⟩ σ H) (h2 : ∀ σ' H', Mid σ' H' → u ⟨nx, rt, bk, ct⟩ σ' H') : C8.tCut t u ⟨nx, rt, bk, ct⟩ σ H := ⟨Mid, h, h2⟩
theorem rNext (h : nx σ H) : tNext ⟨nx, rt, bk, ct⟩ σ H := h
theorem rBrk (h : bk σ H) : tBreak ⟨nx, rt, bk, ct⟩ σ H := h
theorem rCnt (h : ct σ H) : tCont ⟨nx, rt, bk, ct⟩ σ H := h
theorem rDrop (h : te σ H (fun _ H1 => nx σ H1)) : tDrop te ⟨nx, rt, bk, ct⟩ σ H := h
theorem rRet (h : te σ H rt) : tRet te ⟨nx, rt, bk, ct⟩ σ H := h
theorem rRetN (h : rt .non H) : tRetN ⟨nx, rt, bk, ct⟩ σ H := h
theorem rIfS (h : c σ H (fun b H1 => if b = true then t ⟨nx, rt, bk, ct⟩ σ H1 else u ⟨nx, rt, bk, ct⟩ σ H1)) : tIfS c t u ⟨nx, rt, bk, ct⟩ σ H := h
theorem rAsgN (h : te σ H (fun x H1 => nx (σ.set i (some x)) H1)) : tAsg te (gName i) ⟨nx, rt, bk, ct⟩ σ H := h
theorem rAsgT {K : PySem.W.Frag} {n : Nat} {gs : TGs} (h : te σ H (fun x H1 => gTup K n gs x σ H1 nx)) : tAsg te (gTup K n gs) ⟨nx, rt, bk, ct⟩ σ H := h
theorem rAsgS {r : TSet} (h : te σ H (fun x H1 => ta σ H1 fun o H2 => tb σ H2 fun k H3 => r o k x H3 fun H4 => nx σ H4)) : tAsg te (gSub ta tb r) ⟨nx, rt, bk, ct⟩ σ H := h
/-! expressions -/
theorem rVar {v : V} (hi : σ[i]? = some (some v)) (h : Q v H) : tVar i σ H Q := ⟨v, hi, h⟩
theorem rC {v : V} (h : Q v H) : tC v σ H Q := h
theorem rOp {r : R2} (h : ta σ H fun x H1 => tb σ H1 fun y H2 => r x y H2 Q) : tOp r ta tb σ H Q := h
theorem rUn {r : V → Hp → VK → Prop} (h : ta σ H fun x H1 => r x H1 Q) : tUn r ta σ H Q := h
theorem rChain {r r' : R2} {tc : TE} (h : ta σ H fun x H1 => tb σ H1 fun y H2 => r x y H2 fun z H3 => ∃ k, z = .bl k ∧ (if k = true then tc σ H3 fun w' H4 => r' y w' H4 Q else Q (.bl false) H3)) : tChain r r' ta tb tc σ H Q := h
theorem rTest (h : te σ H fun x H' => ∃ k, x = .bl k ∧ QT k H') : tTest te σ H QT := h
theorem rB (h : te σ H fun x H' => ∃ k, x = .bl k ∧ QT k H') : tB te σ H QT := h
theorem rBl {b : Bool} {R : Bool → Hp → Prop} (h : R b H) : ∃ k, V.bl b = V.bl k ∧ R k H := ⟨b, rfl, h⟩
theorem rBl' {b : Bool} {R : Bool → Prop} (h : R b) : ∃ k, V.bl b = V.bl k ∧ R k := ⟨b, rfl, h⟩
theorem rAnd (h : c σ H fun b H1 => if b = true then tA σ H1 QT else QT false H1) : tAnd c tA σ H QT := h
theorem rOr (h : c σ H fun b H1 => if b = true then QT true H1 else tA σ H1 QT) : tOr c tA σ H QT := h
theorem rNot (h : c σ H fun b H1 => QT (!b) H1) : tNot c σ H QT := h
theorem rAndV (h : ta σ H fun x H1 => ∃ k, x = .bl k ∧ if k = true then tb σ H1 Q else Q (.bl false) H1) : tAndV ta tb σ H Q := h
theorem rOrV (h : ta σ H fun x H1 => ∃ k, x = .bl k ∧ if k = true then Q (.bl true) H1 else tb σ H1 Q) : tOrV ta tb σ H Q := h
theorem rNotV (h : ta σ H fun x H1 => ∃ k, x = .bl k ∧ Q (.bl (!k)) H1) : tNotV ta σ H Q := h
theorem rIfE (h : c σ H fun b H1 => if b = true then ta σ H1 Q else tb σ H1 Q) : tIf c ta tb σ H Q := h
variable {tas : TA} {QA : List V → Hp → Prop}
theorem rNil (h : QA [] H) : tNil σ H QA := h
theorem rCons (h : ta σ H fun x H1 => tas σ H1 fun xs H2 => QA (x :: xs) H2) : tCons ta tas σ H QA := h
theorem rTup (h : tas σ H fun xs H1 => xs.length ≤ sizeLine ∧ newO (.tup xs) H1 Q) : tTup tas σ H Q := h
theorem rLst (h : tas σ H fun xs H1 => xs.length ≤ sizeLine ∧ newO (.lst xs) H1 Q) : tLst tas σ H Q := h
theorem rCall {sp : Sp} {E : XK} (h : tas σ H fun vs H1 => sp vs H1 Q E) : tCall sp [] E tas σ H Q := by
  have e : (fun vs H1 => sp vs H1 Q E) = fun vs H1 => sp (vs ++ []) H1 Q E := by
    funext vs H1
    rw [List.append_nil]
  show tas σ H fun vs H1 => sp (vs ++ []) H1 Q E
  rw [← e]
  exact h
theorem rCB {r : List V → Hp → VK → Prop} (h : tas σ H fun vs H1 => r vs H1 Q) : tCB r tas σ H Q := h
theorem rBM {K : PySem.W.Frag} {T : String} {r : V → List V → Hp → VK → Prop} (h : ta σ H fun x H1 => tyV K T x H1 ∧ tas σ H1 fun xs H2 => r x xs H2 Q) : tBM K T r ta tas σ H Q := h
theorem rBM0 {K : PySem.W.Frag} {T : String} {r : V → List V → Hp → VK → Prop} (h : ta σ H fun x H1 => tyV K T x H1 ∧ r x [] H1 Q) : tBM0 K T r ta σ H Q := h
theorem rM1 {r : V → List V → Hp → VK → Prop} (h : ta σ H fun x H1 => (∃ a, x = .str a) ∧ tb σ H1 fun y H2 => r x [y] H2 Q) : tM1 r ta tb σ H Q := h
theorem rM0 {r : V → List V → Hp → VK → Prop} (h : ta σ H fun x H1 => (∃ a, x = .str a) ∧ r x [] H1 Q) : tM0 r ta σ H Q := h
theorem rStr {z : Str} {P : Prop} (h : P) : (∃ a, V.str z = V.str a) ∧ P := ⟨⟨_, rfl⟩, h⟩
variable {QO : Option Int → Hp → Prop} {tl th : TO}
theorem rNoPart (h : QO none H) : tNoPart σ H QO := h
theorem rPart (h : ta σ H fun x H1 => ∃ i, x = .int i ∧ QO (some i) H1) : tPart ta σ H QO := h
theorem rInt {i : Int} {R : Int → Hp → Prop} (h : R i H) : ∃ k, V.int i = V.int k ∧ R k H := ⟨i, rfl, h⟩
theorem rInt' {i : Int} {R : Int → Prop} (h : R i) : ∃ k, V.int i = V.int k ∧ R k := ⟨i, rfl, h⟩
theorem rSl {r : V → Option Int → Option Int → Hp → VK → Prop} (h : ta σ H fun x H1 => tl σ H1 fun l H2 => th σ H2 fun u H3 => r x l u H3 Q) : tSl r ta tl th σ H Q := h
/-! targets -/
variable {g : TG} {gs : TGs} {R : L2.St → Hp → Prop} {v : V} {vs : List V}
theorem gN (h : R (σ.set i (some v)) H) : gName i v σ H R := h
theorem gNl (h : R σ H) : gNil [] σ H R := ⟨rfl, h⟩
theorem gC (h : g v σ H fun σ' H' => gs vs σ' H' R) : gCons g gs (v :: vs) σ H R := ⟨v, vs, rfl, h⟩
theorem gT {K : PySem.W.Frag} {n : Nat} {a : Addr} {xs : List V} (ha : H a = some (.tup xs)) (hn : xs.length = n) (h : gs xs σ H R) : gTup K n gs (.ref a) σ H R := ⟨a, xs, rfl, SqT.of ha, hn, h⟩
/-! tests -/
theorem ifT {A B : Prop} (h : A) : if true = true then A else B := by rw [if_pos rfl]; exact h
theorem ifF {A B : Prop} (h : B) : if false = true then A else B := by rw [if_neg Bool.false_ne_true]; exact h
theorem ifNF {A B : Prop} (h : A) : if (!false) = true then A else B := by rw [if_pos (show (!false) = true from rfl)]; exact h
theorem ifNT {A B : Prop} (h : B) : if (!true) = true then A else B := by rw [if_neg (by decide)]; exact h
/-- the answer is known -/
theorem ifDy {p A B : Prop} [Decidable p] (h : p) (h1 : A) : if decide p = true then A else B := by rw [if_pos (decide_eq_true h)]; exact h1
theorem ifDn {p A B : Prop} [Decidable p] (h : ¬ p) (h2 : B) : if decide p = true then A else B := by rw [if_neg (by rw [decide_eq_false h]; exact Bool.false_ne_true)]; exact h2
theorem ifNDy {p A B : Prop} [Decidable p] (h : p) (h2 : B) : if (!decide p) = true then A else B := by rw [if_neg (by rw [decide_eq_true h]; exact Bool.false_ne_true)]; exact h2
theorem ifNDn {p A B : Prop} [Decidable p] (h : ¬ p) (h1 : A) : if (!decide p) = true then A else B := by rw [if_pos (by rw [decide_eq_false h] <;> rfl)]; exact h1
theorem ifD {p A B : Prop} [Decidable p] (h1 : p → A) (h2 : ¬ p → B) : if decide p = true then A else B := by
  by_cases h : p
  · rw [if_pos (decide_eq_true h)]; exact h1 h
  · rw [if_neg (by rw [decide_eq_false h]; exact Bool.false_ne_true)]; exact h2 h
theorem ifND {p A B : Prop} [Decidable p] (h1 : ¬ p → A) (h2 : p → B) : if (!decide p) = true then A else B := by
  by_cases h : p
  · rw [if_neg (by rw [decide_eq_true h]; exact Bool.false_ne_true)]; exact h2 h
  · rw [if_pos (by rw [decide_eq_false h] <;> rfl)]; exact h1 h
theorem ifB {b : Bool} {A B : Prop} (h1 : b = true → A) (h2 : b = false → B) : if b = true then A else B := by
  cases b with
  | true => rw [if_pos rfl]; exact h1 rfl
  | false => rw [if_neg Bool.false_ne_true]; exact h2 rfl
end
end Z
namespace Z
open PySem PySem.Spec L2

/-! ## operators of several kinds of values -/
abbrev SqV (K : PySem.W.Frag) (H : Hp) (p : Addr) (xs : List V) : Prop := SqL K H p xs ∨ SqT K H p xs
def rAddU (K : PySem.W.Frag) : R2 := fun x y H Q => rI0 (fun i j => .int (i + j)) x y H Q ∨ (∃ i j, x = .str i ∧ y = .str j ∧ i.length + j.length ≤ sizeLine ∧ Q (.str (i ++ j)) H) ∨ rCat x y H Q ∨ rCatA K x y H Q
def rSubU : R2 := rI0 fun i j => .int (i - j)
def rMulU : R2 := fun x y H Q => rI CMul (fun i j => .int (i * j)) x y H Q ∨ rRep x y H Q
def rDivU : R2 := rI CDiv fun i j => .int (i / j)
def rModU : R2 := rI (fun _ j => 0 < j) fun i j => .int (i % j)
def rPowU : R2 := rI CPow fun i j => .int (i ^ j.toNat)
def rEqU (K : PySem.W.Frag) : R2 := fun x y H Q => rEq x y H Q ∨ rEqD K x y H Q
def rNeU (K : PySem.W.Frag) : R2 := fun x y H Q => rNe x y H Q ∨ rNeD K x y H Q
def rLtU : R2 := fun x y H Q => rI0 (fun i j => .bl (decide (i < j))) x y H Q ∨ (∃ i j, x = .str i ∧ y = .str j ∧ Q (.bl (decide (i.cps.toList < j.cps.toList))) H)
def rLeU : R2 := fun x y H Q => rI0 (fun i j => .bl (decide (i ≤ j))) x y H Q ∨ (∃ i j, x = .str i ∧ y = .str j ∧ Q (.bl (!decide (j.cps.toList < i.cps.toList))) H)
def rGtU : R2 := fun x y H Q => rI0 (fun i j => .bl (decide (j < i))) x y H Q ∨ (∃ i j, x = .str i ∧ y = .str j ∧ Q (.bl (decide (j.cps.toList < i.cps.toList))) H)
def rGeU : R2 := fun x y H Q => rI0 (fun i j => .bl (decide (j ≤ i))) x y H Q ∨ (∃ i j, x = .str i ∧ y = .str j ∧ Q (.bl (!decide (i.cps.toList < j.cps.toList))) H)
def rInU (K : PySem.W.Frag) (neg : Bool) : R2 := fun x y H Q => (∃ (c : Nat) (z : Str), x = .str ⟨#[c]⟩ ∧ y = .str z ∧ Q (.bl (if neg = true then !decide (c ∈ z.cps.toList) else decide (c ∈ z.cps.toList))) H) ∨ rIn K neg x y H Q
def rIsU (neg : Bool) : R2 := fun x y H Q => (y = .non ∧ Q (.bl (if neg = true then !decide (x = .non) else decide (x = .non))) H) ∨ (∃ a b : Bool, x = .bl a ∧ y = .bl b ∧ Q (.bl (if neg = true then !decide (a = b) else decide (a = b))) H)
def rSlU (K : PySem.W.Frag) : V → Option Int → Option Int → Hp → VK → Prop := fun x lo hi H Q => rSlL K x lo hi H Q ∨ rSlS x lo hi H Q ∨ rSlA K x lo hi H Q
def rLenU (K : PySem.W.Frag) : List V → Hp → VK → Prop := fun xs H Q => (∃ p ys, xs = [.ref p] ∧ (SqL K H p ys ∨ SqT K H p ys) ∧ Q (.int ys.length) H) ∨ (∃ z, xs = [.str z] ∧ z.length ≤ sizeLine ∧ Q (.int z.length) H)
def rIsiU (K : PySem.W.Frag) : List V → Hp → VK → Prop := fun xs H Q => rIsi K xs H Q ∨ rIsiT K xs H Q
def rAbs : List V → Hp → VK → Prop := fun xs H Q => ∃ i, xs = [.int i] ∧ Q (.int (if i < 0 then -i else i)) H
def rMax2 : List V → Hp → VK → Prop := fun xs H Q => ∃ i j, xs = [.int i, .int j] ∧ Q (.int (if j > i then j else i)) H
def rMin2 : List V → Hp → VK → Prop := fun xs H Q => ∃ i j, xs = [.int i, .int j] ∧ Q (.int (if j < i then j else i)) H
def rInt1 : List V → Hp → VK → Prop := fun xs H Q => (∃ i, xs = [.int i] ∧ Q (.int i) H) ∨ ∃ k, xs = [.bl k] ∧ Q (.int (if k then 1 else 0)) H
def rStrI : List V → Hp → VK → Prop := fun xs H Q => ∃ i, xs = [.int i] ∧ i.natAbs.log2 < 1920 ∧ Q (.str (toString i)) H
def rListOf (K : PySem.W.Frag) : List V → Hp → VK → Prop := fun xs H Q => ∃ p ys, xs = [.ref p] ∧ (SqL K H p ys ∨ SqT K H p ys) ∧ ∀ l, H l = none → Q (.ref l) (upd H l (.lst ys))
def rTupleOf (K : PySem.W.Frag) : List V → Hp → VK → Prop := fun xs H Q => ∃ p ys, xs = [.ref p] ∧ ((SqL K H p ys ∧ ∀ l, H l = none → Q (.ref l) (upd H l (.tup ys))) ∨ (SqT K H p ys ∧ Q (.ref p) H))
def rJoin (K : PySem.W.Frag) : V → List V → Hp → VK → Prop := fun x xs H Q => ∃ a p, ∃ ys : List Str, x = .str a ∧ xs = [.ref p] ∧ (SqL K H p (ys.map V.str) ∨ SqT K H p (ys.map V.str)) ∧ (ys.map (·.length)).sum + ys.length * a.length ≤ 16777216 ∧ Q (.str (Txt.join a ys)) H

section
variable {X : Cx} (K : PySem.W.Frag)
theorem op_addK (hK : X.K = K := by rfl) : OpR X (binaryOp .Add) (rAddU K) := by subst hK; exact OpR.or op_add (OpR.or op_add_str (OpR.or op_cat op_catA))
theorem op_subU {X : Cx} : OpR X (binaryOp .Sub) rSubU := op_sub
theorem op_mulU {X : Cx} : OpR X (binaryOp .Mult) rMulU := OpR.or op_mul op_rep
theorem op_divU {X : Cx} : OpR X (binaryOp .FloorDiv) rDivU := op_fdiv
theorem op_modU {X : Cx} : OpR X (binaryOp .Mod) rModU := op_mod
theorem op_powU {X : Cx} : OpR X (binaryOp .Pow) rPowU := op_pow
theorem op_eqK (hu : X.A.units + 64 < cLine) (hK : X.K = K := by rfl) : OpR X (compareOp .Eq) (rEqU K) := by subst hK; exact OpR.or op_eq (op_eqD hu)
theorem op_neK (hu : X.A.units + 64 < cLine) (hK : X.K = K := by rfl) : OpR X (compareOp .NotEq) (rNeU K) := by subst hK; exact OpR.or op_ne (op_neD hu)
theorem op_ltU {X : Cx} : OpR X (compareOp .Lt) rLtU := OpR.or op_lt op_lt_str
theorem op_leU {X : Cx} : OpR X (compareOp .LtE) rLeU := OpR.or op_le op_le_str
theorem op_gtU {X : Cx} : OpR X (compareOp .Gt) rGtU := OpR.or op_gt op_gt_str
theorem op_geU {X : Cx} : OpR X (compareOp .GtE) rGeU := OpR.or op_ge op_ge_str
theorem op_inK (hK : X.K = K := by rfl) : OpR X (compareOp .In) (rInU K false) := by
  subst hK
  intro pins s σ H x y v u Q I rx ry h
  rcases h with ⟨c, z, e1, e2, q⟩ | h
  · exact op_in_sign pins s σ H x y v u Q I rx ry ⟨c, z, e1, e2, by simpa using q⟩
  · exact op_in_seq pins s σ H x y v u Q I rx ry h
theorem op_notInK (hK : X.K = K := by rfl) : OpR X (compareOp .NotIn) (rInU K true) := by
  subst hK
  intro pins s σ H x y v u Q I rx ry h
  rcases h with ⟨c, z, e1, e2, q⟩ | h
  · exact op_notIn_sign pins s σ H x y v u Q I rx ry ⟨c, z, e1, e2, by simpa using q⟩
  · exact op_notIn_seq pins s σ H x y v u Q I rx ry h
theorem op_isU {X : Cx} : OpR X (compareOp .Is) (rIsU false) := by
  intro pins s σ H x y v u Q I rx ry h
  rcases h with ⟨e1, q⟩ | ⟨a, b, e1, e2, q⟩
  · exact op_isN pins s σ H x y v u Q I rx ry ⟨e1, by simpa using q⟩
  · exact op_isBl pins s σ H x y v u Q I rx ry ⟨a, b, e1, e2, by simpa using q⟩
theorem op_isNotU {X : Cx} : OpR X (compareOp .IsNot) (rIsU true) := by
  intro pins s σ H x y v u Q I rx ry h
  rcases h with ⟨e1, q⟩ | ⟨a, b, e1, e2, q⟩
  · exact op_notN pins s σ H x y v u Q I rx ry ⟨e1, by simpa using q⟩
  · exact op_notBl pins s σ H x y v u Q I rx ry ⟨a, b, e1, e2, by simpa using q⟩
theorem sl_K (hK : X.K = K := by rfl) : SlR X (rSlU K) := by subst hK; exact SlR.or sl_list (SlR.or sl_str sl_tupA)
theorem ix_K (hK : X.K = K := by rfl) : IxR X (rIx K) := by subst hK; exact ix_seq
theorem call_lenK (hK : X.K = K := by rfl) : CallR X (.builtin "len") (rLenU K) := by subst hK; exact CallR.or call_len_seq call_len_str
theorem call_isiK' (hK : X.K = K := by rfl) : CallR X (.builtin "isinstance") (rIsiU K) := by subst hK; exact CallR.or call_isi call_isiT
theorem call_absU {X : Cx} : CallR X (.builtin "abs") rAbs := call_abs
theorem call_max2U {X : Cx} (hc : X.calm = true) : CallR X (.builtin "max") rMax2 := call_max2 hc
theorem call_min2U {X : Cx} (hc : X.calm = true) : CallR X (.builtin "min") rMin2 := call_min2 hc
theorem call_intU {X : Cx} : CallR X (.type "int") rInt1 := call_int1
theorem call_strI {X : Cx} : CallR X (.type "str") rStrI := call_str_int
theorem call_sumK (hc : X.calm = true) (hK : X.K = K := by rfl) : CallR X (.builtin "sum") (rSum K) := by subst hK; exact cr_sum hc
theorem call_listK (hK : X.K = K := by rfl) : CallR X (.type "list") (rListOf K) := by subst hK; exact call_list_of
theorem call_tupleK (hK : X.K = K := by rfl) : CallR X (.type "tuple") (rTupleOf K) := by subst hK; exact call_tuple_of
theorem mt_joinK (hK : X.K = K := by rfl) : MtR X "str.join" (rJoin K) := by subst hK; exact mt_join
theorem pi_listK {tg l : Expr} {tl : TE} (hl : PE X l tl) (hK : X.K = K := by rfl) : PI X tg l (iList K tl) := by subst hK; exact pi_list hl
theorem pi_tupK {tg l : Expr} {tl : TE} (hl : PE X l tl) (hK : X.K = K := by rfl) : PI X tg l (iTup K tl) := by subst hK; exact pi_tup hl
/-- truth of any value -/
def tTru (K : PySem.W.Frag) (ta : TE) : TT := fun σ H Q => ta σ H fun x H' => ∃ k, TruV K x H' k ∧ Q k H'
theorem pt_truK {a : Expr} {ta : TE} (ha : PE X a ta) (he : ∀ whole, isTrue a X.env whole = (do let v ← whole; standAt a.pos; holding [v] (truthy v))) (hK : X.K = K := by rfl) : PT X a (tTru K ta) := by subst hK; exact pt_truth ha he
end
/-- a row of three comparisons -/
def tChain3 (r r' r'' : R2) (ta tb tc td : TE) : TT := fun σ H Q => ta σ H fun x H1 => tb σ H1 fun y H2 => r x y H2 fun z H3 => ∃ k, z = .bl k ∧ (if k = true then
  (tc σ H3 fun y2 H4 => r' y y2 H4 fun z2 H5 => ∃ k2, z2 = .bl k2 ∧ (if k2 = true then (td σ H5 fun y3 H6 => r'' y2 y3 H6 fun z3 H7 => ∃ k3, z3 = .bl k3 ∧ Q k3 H7) else Q false H5)) else Q false H3)
theorem pt_chain3 {X : Cx} {a b c d : Expr} {pos : Pos} {ta tb tc td : TE} {op op' op'' : CmpOp} {r r' r'' : R2} (ho : OpR X (compareOp op) r) (ho' : OpR X (compareOp op') r') (ho'' : OpR X (compareOp op'') r'') (ha : PE X a ta) (hb : PE X b tb) (hc : PE X c tc) (hd : PE X d td)
    (hm : lastMarks [op, op', op''] [b, c, d] = false := by with_unfolding_all rfl) : PT X (.Compare a [op, op', op''] [b, c, d] pos) (tChain3 r r' r'' ta tb tc td) := by
  refine ⟨fun pins s σ H Q I h => ?_⟩
  refine PyProof.Rows.isTrue_chain (thn (ha.run pins s σ H _ I h) fun v s1 ⟨x, H1, I1, r1, q1⟩ => PyProof.Rows.test_link (thn (hb.run pins s1 σ H1 _ I1 q1) fun u s2 ⟨y, H2, I2, r2, q2⟩ =>
    thn (ho pins s2 σ H2 x y v u _ I2 r1 r2 q2) fun e s3 ⟨z, H3, I3, r3, k, ek, q3⟩ => ?_)) hm
  subst ek
  cases r3
  refine wpAny_truthy_bool ?_
  cases k with
  | false => exact PyProof.Rows.ite_ff ⟨H3, I3, q3⟩
  | true =>
    refine PyProof.Rows.ite_tt (PyProof.Rows.test_link (thn (hc.run pins s3 σ H3 _ I3 q3) fun w' s4 ⟨y2, H4, I4, r4, q4⟩ => thn (ho' pins s4 σ H4 y y2 u w' _ I4 r2 r4 q4) fun e2 s5 ⟨z2, H5, I5, r5, k2, ek2, q5⟩ => ?_))
    subst ek2
    cases r5
    refine wpAny_truthy_bool ?_
    cases k2 with
    | false => exact PyProof.Rows.ite_ff ⟨H5, I5, q5⟩
    | true =>
      refine PyProof.Rows.ite_tt (PyProof.Rows.test_last (thn (hd.run pins s5 σ H5 _ I5 q5) fun w3 s6 ⟨y3, H6, I6, r6, q6⟩ => thn (ho'' pins s6 σ H6 y2 y3 w' w3 _ I6 r4 r6 q6) fun e3 s7 ⟨z3, H7, I7, r7, k3, ek3, q7⟩ => ?_))
      subst ek3
      cases r7
      exact wpAny_truthy_bool ⟨H7, I7, q7⟩
theorem rChain3 {r r' r'' : R2} {ta tb tc td : TE} {σ : L2.St} {H : Hp} {Q : Bool → Hp → Prop} (h : ta σ H fun x H1 => tb σ H1 fun y H2 => r x y H2 fun z H3 => ∃ k, z = .bl k ∧ (if k = true then
  (tc σ H3 fun y2 H4 => r' y y2 H4 fun z2 H5 => ∃ k2, z2 = .bl k2 ∧ (if k2 = true then (td σ H5 fun y3 H6 => r'' y2 y3 H6 fun z3 H7 => ∃ k3, z3 = .bl k3 ∧ Q k3 H7) else Q false H5)) else Q false H3)) : tChain3 r r' r'' ta tb tc td σ H Q := h
section
theorem sz_le {n : Nat} (h : n ≤ 16777216) : n ≤ sizeLine := by rw [sizeLine_eq]; exact h
theorem sz_lt {n : Nat} (h : n < 16777216) : n < sizeLine := by rw [sizeLine_eq]; exact h
end

/-! ## places -/
theorem at0 {α : Type} {x : α} {xs : List α} : atI (x :: xs) 0 = some x := by
  have := atI_nat (xs := x :: xs) (j := 0) (v := x) rfl
  exact this
theorem at1 {α : Type} {x y : α} {xs : List α} : atI (x :: y :: xs) 1 = some y := by
  have := atI_nat (xs := x :: y :: xs) (j := 1) (v := y) rfl
  exact this
theorem at2 {α : Type} {x y z : α} {xs : List α} : atI (x :: y :: z :: xs) 2 = some z := by
  have := atI_nat (xs := x :: y :: z :: xs) (j := 2) (v := z) rfl
  exact this
theorem ixN0 {α : Type} {x : α} {xs : List α} : ixN (x :: xs).length 0 = some 0 := by
  unfold ixN
  rw [if_pos (by decide), if_pos (by rw [List.length_cons]; omega)]
  rfl
theorem at_of {α : Type} {xs : List α} {z : Int} {j : Nat} {v : α} (e : z = (j : Int)) (h : xs[j]? = some v) : atI xs z = some v := by
  rw [e]; exact atI_nat h
/-- an item at a place in bounds -/
theorem at_in {α : Type} {xs : List α} {z : Int} (h0 : 0 ≤ z) (h1 : z < xs.length) : ∃ v, atI xs z = some v ∧ xs[z.toNat]? = some v ∧ v ∈ xs := by
  have hl : z.toNat < xs.length := by omega
  refine ⟨xs[z.toNat], at_of (j := z.toNat) (by omega) (List.getElem?_eq_getElem hl), List.getElem?_eq_getElem hl, List.getElem_mem hl⟩

/-! ## their readings, kind by kind -/
section
variable {K : PySem.W.Frag} {H : Hp} {Q : VK} {i j : Int} {a b : Str} {p q : Addr} {xs ys : List V} {x y v : V}
theorem add_int (h : Q (.int (i + j)) H) : rAddU K (.int i) (.int j) H Q := .inl ⟨i, j, rfl, rfl, h⟩
theorem add_str (hl : a.length + b.length ≤ sizeLine) (h : Q (.str (a ++ b)) H) : rAddU K (.str a) (.str b) H Q := .inr (.inl ⟨a, b, rfl, rfl, hl, h⟩)
theorem add_lst (h1 : H p = some (.lst xs)) (h2 : H q = some (.lst ys)) (hl : xs.length + ys.length ≤ sizeLine) (h : newO (.lst (xs ++ ys)) H Q) : rAddU K (.ref p) (.ref q) H Q := .inr (.inr (.inl ⟨p, q, xs, ys, rfl, rfl, h1, h2, hl, h⟩))
theorem add_tup (h1 : H p = some (.tup xs)) (h2 : H q = some (.tup ys)) (n1 : xs ≠ []) (n2 : ys ≠ []) (hl : xs.length + ys.length ≤ sizeLine) (h : newO (.tup (xs ++ ys)) H Q) : rAddU K (.ref p) (.ref q) H Q :=
  .inr (.inr (.inr ⟨p, q, xs, ys, rfl, rfl, SqT.of h1, SqT.of h2, hl, fun e => absurd e n1, fun _ e => absurd e n2, fun _ _ => h⟩))
theorem sub_int (h : Q (.int (i - j)) H) : rSubU (.int i) (.int j) H Q := ⟨i, j, rfl, rfl, h⟩
theorem mul_int (hc : CMul i j) (h : Q (.int (i * j)) H) : rMulU (.int i) (.int j) H Q := .inl ⟨i, j, rfl, rfl, hc, h⟩
theorem mul_intR (hc : -(2 ^ 64) < j ∧ j < 2 ^ 64) (h : Q (.int (i * j)) H) : rMulU (.int i) (.int j) H Q := .inl ⟨i, j, rfl, rfl, .inr hc, h⟩
theorem mul_intL (hc : -(2 ^ 64) < i ∧ i < 2 ^ 64) (h : Q (.int (i * j)) H) : rMulU (.int i) (.int j) H Q := .inl ⟨i, j, rfl, rfl, .inl hc, h⟩
theorem div_int (hc : 0 < j ∧ j < 1073741824) (h : Q (.int (i / j)) H) : rDivU (.int i) (.int j) H Q := ⟨i, j, rfl, rfl, hc, h⟩
theorem mod_int (hc : 0 < j) (h : Q (.int (i % j)) H) : rModU (.int i) (.int j) H Q := ⟨i, j, rfl, rfl, hc, h⟩
theorem neg_int (h : Q (.int (-i)) H) : rU (fun i => .int (-i)) (.int i) H Q := ⟨i, rfl, h⟩
theorem pow_int (hc : 0 ≤ j ∧ j ≤ 1000000 ∧ i.natAbs < 2 ^ 64) (h : Q (.int (i ^ j.toNat)) H) : rPowU (.int i) (.int j) H Q := ⟨i, j, rfl, rfl, hc, h⟩
theorem dec_int : decide (V.int i = V.int j) = decide (i = j) := by
  by_cases h : i = j
  · subst h; simp
  · rw [decide_eq_false h, decide_eq_false (fun e => h (V.int.inj e))]
theorem dec_str : decide (V.str a = V.str b) = decide (a = b) := by
  by_cases h : a = b
  · subst h; simp
  · rw [decide_eq_false h, decide_eq_false (fun e => h (V.str.inj e))]
theorem dec_bl {a b : Bool} : decide (V.bl a = V.bl b) = decide (a = b) := by
  by_cases h : a = b
  · subst h; simp
  · rw [decide_eq_false h, decide_eq_false (fun e => h (V.bl.inj e))]
theorem eq_int (h : Q (.bl (decide (i = j))) H) : rEqU K (.int i) (.int j) H Q := .inl ⟨rfl, by rw [dec_int]; exact h⟩
theorem eq_str (h : Q (.bl (decide (a = b))) H) : rEqU K (.str a) (.str b) H Q := .inl ⟨rfl, by rw [dec_str]; exact h⟩
theorem eq_bl {a b : Bool} (h : Q (.bl (decide (a = b))) H) : rEqU K (.bl a) (.bl b) H Q := .inl ⟨rfl, by rw [dec_bl]; exact h⟩
theorem eq_scal (hs : scal x y = true) (h : Q (.bl (decide (x = y))) H) : rEqU K x y H Q := .inl ⟨hs, h⟩
theorem eq_deep {d e : PyData} (h1 : Dp K H x d) (h2 : Dp K H y e) (s1 : SeqAt.shaped d = true) (s2 : SeqAt.shaped e = true) (h : Q (.bl (PyData.eqv d e)) H) : rEqU K x y H Q := .inr ⟨d, e, h1, h2, s1, s2, h⟩
theorem ne_int (h : Q (.bl (!decide (i = j))) H) : rNeU K (.int i) (.int j) H Q := .inl ⟨rfl, by rw [dec_int]; exact h⟩
theorem ne_str (h : Q (.bl (!decide (a = b))) H) : rNeU K (.str a) (.str b) H Q := .inl ⟨rfl, by rw [dec_str]; exact h⟩
theorem ne_bl {a b : Bool} (h : Q (.bl (!decide (a = b))) H) : rNeU K (.bl a) (.bl b) H Q := .inl ⟨rfl, by rw [dec_bl]; exact h⟩
theorem ne_scal (hs : scal x y = true) (h : Q (.bl (!decide (x = y))) H) : rNeU K x y H Q := .inl ⟨hs, h⟩
theorem ne_deep {d e : PyData} (h1 : Dp K H x d) (h2 : Dp K H y e) (s1 : SeqAt.shaped d = true) (s2 : SeqAt.shaped e = true) (h : Q (.bl (!PyData.eqv d e)) H) : rNeU K x y H Q := .inr ⟨d, e, h1, h2, s1, s2, h⟩
theorem lt_int (h : Q (.bl (decide (i < j))) H) : rLtU (.int i) (.int j) H Q := .inl ⟨i, j, rfl, rfl, h⟩
theorem le_int (h : Q (.bl (decide (i ≤ j))) H) : rLeU (.int i) (.int j) H Q := .inl ⟨i, j, rfl, rfl, h⟩
theorem gt_int (h : Q (.bl (decide (j < i))) H) : rGtU (.int i) (.int j) H Q := .inl ⟨i, j, rfl, rfl, h⟩
theorem ge_int (h : Q (.bl (decide (j ≤ i))) H) : rGeU (.int i) (.int j) H Q := .inl ⟨i, j, rfl, rfl, h⟩
theorem lt_str (h : Q (.bl (decide (a.cps.toList < b.cps.toList))) H) : rLtU (.str a) (.str b) H Q := .inr ⟨a, b, rfl, rfl, h⟩
theorem is_non (h : Q (.bl (decide (x = .non))) H) : rIsU false x .non H Q := .inl ⟨rfl, h⟩
theorem isnt_non (h : Q (.bl (!decide (x = .non))) H) : rIsU true x .non H Q := .inl ⟨rfl, h⟩
theorem is_bl {a b : Bool} (h : Q (.bl (decide (a = b))) H) : rIsU false (.bl a) (.bl b) H Q := .inr ⟨a, b, rfl, rfl, h⟩
theorem isnt_bl {a b : Bool} (h : Q (.bl (!decide (a = b))) H) : rIsU true (.bl a) (.bl b) H Q := .inr ⟨a, b, rfl, rfl, h⟩
theorem in_seq {neg : Bool} (h1 : SqV K H p xs) (hx : flatV x = true) (ha : xs.all flatV = true) (h : Q (.bl (if neg then !inV x xs else inV x xs)) H) : rInU K neg x (.ref p) H Q := .inr ⟨p, xs, rfl, h1, hx, ha, h⟩
theorem in_sign {c : Nat} (h : Q (.bl (decide (c ∈ a.cps.toList))) H) : rInU K false (.str ⟨#[c]⟩) (.str a) H Q := .inl ⟨c, a, rfl, rfl, h⟩
/-- an item -/
theorem ix_lst (h1 : H p = some (.lst xs)) (h2 : atI xs i = some v) (h : Q v H) : rIx K (.ref p) (.int i) H Q := .inl ⟨p, xs, i, v, rfl, rfl, SqL.of h1, h2, h⟩
theorem ix_sql (h1 : SqL K H p xs) (h2 : atI xs i = some v) (h : Q v H) : rIx K (.ref p) (.int i) H Q := .inl ⟨p, xs, i, v, rfl, rfl, h1, h2, h⟩
theorem ix_tpl (h1 : H p = some (.tup xs)) (h2 : atI xs i = some v) (h : Q v H) : rIx K (.ref p) (.int i) H Q := .inr (.inl ⟨p, xs, i, v, rfl, rfl, SqT.of h1, h2, h⟩)
theorem ix_str {c : Nat} (hl : a.length ≤ sizeLine) (h2 : atI a.cps.toList i = some c) (h : Q (.str ⟨#[c]⟩) H) : rIx K (.str a) (.int i) H Q := .inr (.inr ⟨a, i, c, rfl, rfl, hl, h2, h⟩)
variable {lo hi : Option Int}
theorem sl_lst (h1 : H p = some (.lst xs)) (h : newO (.lst (cutV xs lo hi)) H Q) : rSlU K (.ref p) lo hi H Q := .inl ⟨p, xs, rfl, SqL.of h1, h⟩
theorem sl_strU (hl : a.length ≤ sizeLine) (h : Q (.str (cutS a lo hi)) H) : rSlU K (.str a) lo hi H Q := .inr (.inl ⟨a, rfl, hl, h⟩)
theorem len_lst (h1 : H p = some (.lst xs)) (h : Q (.int xs.length) H) : rLenU K [.ref p] H Q := .inl ⟨p, xs, rfl, .inl (SqL.of h1), h⟩
theorem len_sql (h1 : SqL K H p xs) (h : Q (.int xs.length) H) : rLenU K [.ref p] H Q := .inl ⟨p, xs, rfl, .inl h1, h⟩
theorem len_tup (h1 : H p = some (.tup xs)) (h : Q (.int xs.length) H) : rLenU K [.ref p] H Q := .inl ⟨p, xs, rfl, .inr (SqT.of h1), h⟩
theorem len_str (hl : a.length ≤ sizeLine) (h : Q (.int a.length) H) : rLenU K [.str a] H Q := .inr ⟨a, rfl, hl, h⟩
theorem abs_int (h : Q (.int (if i < 0 then -i else i)) H) : rAbs [.int i] H Q := ⟨i, rfl, h⟩
theorem max_int (h : Q (.int (if j > i then j else i)) H) : rMax2 [.int i, .int j] H Q := ⟨i, j, rfl, h⟩
theorem min_int (h : Q (.int (if j < i then j else i)) H) : rMin2 [.int i, .int j] H Q := ⟨i, j, rfl, h⟩
theorem int_int (h : Q (.int i) H) : rInt1 [.int i] H Q := .inl ⟨i, rfl, h⟩
theorem list_lst (h1 : H p = some (.lst xs)) (h : newO (.lst xs) H Q) : rListOf K [.ref p] H Q := ⟨p, xs, rfl, .inl (SqL.of h1), h⟩
theorem list_tup (h1 : H p = some (.tup xs)) (h : newO (.lst xs) H Q) : rListOf K [.ref p] H Q := ⟨p, xs, rfl, .inr (SqT.of h1), h⟩
theorem tuple_lst (h1 : H p = some (.lst xs)) (h : newO (.tup xs) H Q) : rTupleOf K [.ref p] H Q := ⟨p, xs, rfl, .inl ⟨SqL.of h1, h⟩⟩
theorem tuple_tup (h1 : H p = some (.tup xs)) (h : Q (.ref p) H) : rTupleOf K [.ref p] H Q := ⟨p, xs, rfl, .inr ⟨SqT.of h1, h⟩⟩
theorem sum_lst {ns : List Int} (h1 : H p = some (.lst (ns.map V.int))) (h : Q (.int ns.sum) H) : rSum K [.ref p] H Q := ⟨p, ns, rfl, SqL.of h1, h⟩
theorem join_lst {zs : List Str} (h1 : H p = some (.lst (zs.map V.str))) (hl : (zs.map (·.length)).sum + zs.length * a.length ≤ 16777216) (h : Q (.str (Txt.join a zs)) H) : rJoin K (.str a) [.ref p] H Q := ⟨a, p, zs, rfl, rfl, .inl (SqL.of h1), hl, h⟩
/-! methods of a list -/
theorem tyL {P : Prop} (h1 : H p = some (.lst xs)) (h : P) : tyV K "list" (.ref p) H ∧ P := ⟨.inl ⟨rfl, _, SqL.of h1⟩, h⟩
theorem append_lst (h1 : H p = some (.lst xs)) (hl : xs.length < sizeLine) (h : putO p (xs ++ [x]) H (Q .non)) : rAppend (.ref p) [x] H Q := ⟨p, xs, x, rfl, rfl, h1, hl, h⟩
theorem pop_lst (h1 : H p = some (.lst xs)) (h2 : xs[xs.length - 1]? = some v) (h : putO p xs.dropLast H (Q v)) : rPop (.ref p) [] H Q := ⟨p, xs, v, rfl, rfl, h1, h2, h⟩
theorem clear_lst (h1 : H p = some (.lst xs)) (h : putO p [] H (Q .non)) : rClear (.ref p) [] H Q := ⟨p, xs, rfl, rfl, h1, h⟩
theorem set_lst {k : Nat} {R : Hp → Prop} (h1 : H p = some (.lst xs)) (h2 : ixN xs.length i = some k) (h : putO p (xs.set k v) H R) : rSetL (.ref p) (.int i) v H R := ⟨p, xs, i, k, rfl, rfl, h1, h2, h⟩
/-! isinstance -/
theorem isi_ty {n m : String} {b : Bool} (ty : TyX K H x (.type n)) (e : kitB n m = some b) (h : Q (.bl b) H) : rIsiU K [x, .ty m] H Q := .inl ⟨x, .ty m, _, _, b, rfl, .ty m, ty, kit_ty e, h⟩
theorem kb_ii : kitB "int" "int" = some true := by decide +kernel
theorem kb_ib : kitB "int" "bool" = some false := by decide +kernel
theorem kb_bi : kitB "bool" "int" = some true := by decide +kernel
theorem kb_bb : kitB "bool" "bool" = some true := by decide +kernel
theorem kb_ss : kitB "str" "str" = some true := by decide +kernel
theorem kb_tt : kitB "tuple" "tuple" = some true := by decide +kernel
theorem kb_ll : kitB "list" "list" = some true := by decide +kernel
theorem isi_ii (h : Q (.bl true) H) : rIsiU K [.int i, .ty "int"] H Q := isi_ty (.base (.int i)) kb_ii h
theorem isi_ib (h : Q (.bl false) H) : rIsiU K [.int i, .ty "bool"] H Q := isi_ty (.base (.int i)) kb_ib h
theorem isi_bb {c : Bool} (h : Q (.bl true) H) : rIsiU K [.bl c, .ty "bool"] H Q := isi_ty (.base (.bl c)) kb_bb h
theorem isi_bi {c : Bool} (h : Q (.bl true) H) : rIsiU K [.bl c, .ty "int"] H Q := isi_ty (.base (.bl c)) kb_bi h
theorem isi_ss (h : Q (.bl true) H) : rIsiU K [.str a, .ty "str"] H Q := isi_ty (.base (.str a)) kb_ss h
theorem isi_tt (h1 : H p = some (.tup xs)) (h : Q (.bl true) H) : rIsiU K [.ref p, .ty "tuple"] H Q := isi_ty (.base (.tup h1)) kb_tt h
theorem isi_ll (h1 : H p = some (.lst xs)) (h : Q (.bl true) H) : rIsiU K [.ref p, .ty "list"] H Q := isi_ty (.base (.lst h1)) kb_ll h
/-! truth -/
variable {QT : Bool → Hp → Prop}
theorem rTru {σ : L2.St} {ta : TE} (h : ta σ H fun x H' => ∃ k, TruV K x H' k ∧ QT k H') : tTru K ta σ H QT := h
theorem tru_bl {c : Bool} {R : Bool → Prop} (h : R c) : ∃ k, TruV K (.bl c) H k ∧ R k := ⟨c, rfl, h⟩
theorem tru_int {R : Bool → Prop} (h : R (i != 0)) : ∃ k, TruV K (.int i) H k ∧ R k := ⟨_, rfl, h⟩
theorem tru_str {R : Bool → Prop} (hl : a.length ≤ sizeLine) (h : R ((a.length : Int) != 0)) : ∃ k, TruV K (.str a) H k ∧ R k := ⟨_, ⟨hl, rfl⟩, h⟩
theorem tru_lst {R : Bool → Prop} (h1 : H p = some (.lst xs)) (h : R (!xs.isEmpty)) : ∃ k, TruV K (.ref p) H k ∧ R k := ⟨_, .inl ⟨xs, SqL.of h1, rfl⟩, h⟩
theorem tru_tup {R : Bool → Prop} (h1 : H p = some (.tup xs)) (h : R (!xs.isEmpty)) : ∃ k, TruV K (.ref p) H k ∧ R k := ⟨_, .inr (.inl ⟨xs, SqT.of h1, rfl⟩), h⟩
end
end Z
namespace Z
open PySem PySem.Spec L2
local macro_rules | `(tactic| walk_at "ne") => `(tactic| first
  | with_reducible assumption
  | with_reducible exact Ne.symm (by assumption)
  | exact Frs.ne (by with_reducible assumption) (by walk_at "hp")
  | exact Frs.ne' (by with_reducible assumption) (by walk_at "hp"))
local macro_rules | `(tactic| walk_at "hp") => `(tactic| first
  | with_reducible assumption
  | (with_reducible refine Same.at (by assumption) ?_; walk_at "hp")
  | (with_reducible refine SL.tup (by assumption) ?_; walk_at "hp")
  | (with_reducible refine SL.at (by assumption) (by walk_at "ne") ?_; walk_at "hp"))
local macro_rules | `(tactic| walk_at "sz") => `(tactic| first
  | with_reducible assumption
  | exact Nat.le_of_ble_eq_true rfl
  | (refine sz_le ?_; omega)
  | (refine sz_lt ?_; omega)
  | decide +kernel)
local macro_rules | `(tactic| walk_at "at") => `(tactic| first
  | with_reducible assumption
  | with_reducible exact at0
  | with_reducible exact at1
  | with_reducible exact at2
  | with_reducible exact ixN0)
local macro_rules | `(tactic| walk_at "nn") => `(tactic| first
  | omega
  | decide
  | exact ⟨by decide, by decide⟩
  | exact ⟨by omega, by omega⟩
  | exact ⟨by omega, by omega, by omega, by omega⟩)
local macro_rules | `(tactic| walk_at "rdv") => `(tactic| first
  | (with_reducible refine add_int ?_)
  | (with_reducible refine sub_int ?_)
  | (with_reducible refine neg_int ?_)
  | ((with_reducible refine ix_tpl (xs := ?xs) (v := ?v) ?h1 ?h2 ?_); (case h1 => walk_at "hp"); (case h2 => walk_at "at"))
  | ((with_reducible refine ix_lst (xs := ?xs) (v := ?v) ?h1 ?h2 ?_); (case h1 => walk_at "hp"); (case h2 => walk_at "at"))
  | (with_reducible refine eq_int ?_)
  | (with_reducible refine ne_int ?_)
  | (with_reducible refine lt_int ?_)
  | (with_reducible refine le_int ?_)
  | (with_reducible refine gt_int ?_)
  | (with_reducible refine ge_int ?_)
  | (with_reducible refine eq_str ?_)
  | (with_reducible refine ne_str ?_)
  | (with_reducible refine eq_bl ?_)
  | (with_reducible refine ne_bl ?_)
  | ((with_reducible refine mod_int ?hc ?_); (case hc => walk_at "nn"))
  | ((with_reducible refine div_int ?hc ?_); (case hc => walk_at "nn"))
  | ((with_reducible refine mul_intR ?hc ?_); (case hc => exact ⟨by decide, by decide⟩))
  | ((with_reducible refine mul_intR ?hc ?_); (case hc => exact ⟨by omega, by omega⟩))
  | ((with_reducible refine mul_intL ?hc ?_); (case hc => exact ⟨by omega, by omega⟩))
  | ((with_reducible refine pow_int ?hc ?_); (case hc => exact ⟨by decide, by decide, by decide⟩))
  | ((with_reducible refine add_str ?hc ?_); (case hc => walk_at "sz"))
  | ((with_reducible refine add_lst (xs := ?xs) (ys := ?ys) ?h1 ?h2 ?hc ?_); (case h1 => walk_at "hp"); (case h2 => walk_at "hp"); (case hc => walk_at "sz"))
  | ((with_reducible refine sl_strU ?hc ?_); (case hc => walk_at "sz"))
  | ((with_reducible refine sl_lst (xs := ?xs) ?h1 ?_); (case h1 => walk_at "hp"))
  | (with_reducible refine is_bl ?_)
  | (with_reducible refine isnt_bl ?_)
  | (with_reducible refine is_non ?_)
  | (with_reducible refine isnt_non ?_))
local macro_rules | `(tactic| walk_at "rdc") => `(tactic| first
  | ((with_reducible refine len_lst (xs := ?xs) ?h1 ?_); (case h1 => walk_at "hp"))
  | ((with_reducible refine len_tup (xs := ?xs) ?h1 ?_); (case h1 => walk_at "hp"))
  | ((with_reducible refine len_str ?hc ?_); (case hc => walk_at "sz"))
  | (with_reducible refine int_int ?_)
  | (with_reducible refine max_int ?_)
  | (with_reducible refine min_int ?_)
  | (with_reducible refine abs_int ?_)
  | (with_reducible refine isi_ii ?_)
  | (with_reducible refine isi_ib ?_)
  | (with_reducible refine isi_ss ?_)
  | (with_reducible refine isi_bb ?_)
  | ((with_reducible refine isi_tt (xs := ?xs) ?h1 ?_); (case h1 => walk_at "hp"))
  | ((with_reducible refine isi_ll (xs := ?xs) ?h1 ?_); (case h1 => walk_at "hp"))
  | ((with_reducible refine list_lst (xs := ?xs) ?h1 ?_); (case h1 => walk_at "hp"))
  | ((with_reducible refine list_tup (xs := ?xs) ?h1 ?_); (case h1 => walk_at "hp"))
  | ((with_reducible refine tuple_lst (xs := ?xs) ?h1 ?_); (case h1 => walk_at "hp"))
  | ((with_reducible refine tuple_tup (xs := ?xs) ?h1 ?_); (case h1 => walk_at "hp"))
  | ((with_reducible refine append_lst (xs := ?xs) ?h1 ?hc ?_); (case h1 => walk_at "hp"); (case hc => walk_at "sz"))
  | ((with_reducible refine clear_lst (xs := ?xs) ?h1 ?_); (case h1 => walk_at "hp"))
  | ((with_reducible refine set_lst (xs := ?xs) (k := ?k) ?h1 ?h2 ?_); (case h1 => walk_at "hp"); (case h2 => walk_at "at")))
local macro_rules | `(tactic| walk_at "rd1") => `(tactic| first
  | ((with_reducible refine rVar (v := ?v) ?h ?_); (case h => exact rfl))
  | (with_reducible refine rC ?_)
  | (with_reducible refine rCons ?_)
  | (with_reducible refine rNil ?_)
  | (with_reducible refine rOp ?_)
  | (with_reducible refine rSeq ?_)
  | (with_reducible refine rAsgN ?_)
  | (with_reducible refine rAsgT ?_)
  | (with_reducible refine rAsgS ?_)
  | (with_reducible refine rTest ?_)
  | (with_reducible refine rBl ?_)
  | (with_reducible refine rBl' ?_)
  | (with_reducible refine rInt ?_)
  | (with_reducible refine rInt' ?_)
  | (with_reducible refine rCall ?_)
  | (with_reducible refine rCB ?_)
  | (with_reducible refine rRet ?_)
  | (with_reducible refine rDrop ?_)
  | (with_reducible refine rIfS ?_)
  | (with_reducible refine rTup ?_)
  | (with_reducible refine rLst ?_)
  | (with_reducible refine ⟨Nat.le_of_ble_eq_true rfl, ?_⟩)
  | (with_reducible refine rSl ?_)
  | (with_reducible refine rPart ?_)
  | (with_reducible refine rNoPart ?_)
  | (with_reducible refine rBM ?_)
  | (with_reducible refine rBM0 ?_)
  | ((with_reducible refine tyL (xs := ?xs) ?h1 ?_); (case h1 => walk_at "hp"))
  | (with_reducible refine rM1 ?_)
  | (with_reducible refine rM0 ?_)
  | (with_reducible refine rStr ?_)
  | (with_reducible refine rTru ?_)
  | (with_reducible refine tru_bl ?_)
  | (with_reducible refine tru_int ?_)
  | ((with_reducible refine tru_lst (xs := ?xs) ?h1 ?_); (case h1 => walk_at "hp"))
  | ((with_reducible refine tru_tup (xs := ?xs) ?h1 ?_); (case h1 => walk_at "hp"))
  | ((with_reducible refine tru_str ?hc ?_); (case hc => walk_at "sz"))
  | (with_reducible refine rAnd ?_)
  | (with_reducible refine rOr ?_)
  | (with_reducible refine rNot ?_)
  | (with_reducible refine rAndV ?_)
  | (with_reducible refine rOrV ?_)
  | (with_reducible refine rNotV ?_)
  | (with_reducible refine rIfE ?_)
  | (with_reducible refine rChain ?_)
  | (with_reducible refine rChain3 ?_)
  | (with_reducible refine ifT ?_)
  | (with_reducible refine ifF ?_)
  | (with_reducible refine ifNF ?_)
  | (with_reducible refine ifNT ?_)
  | (with_reducible refine rNext ?_)
  | (with_reducible refine rBrk ?_)
  | (with_reducible refine rCnt ?_)
  | (with_reducible refine rRetN ?_)
  | (with_reducible refine rForR1 ?_)
  | (with_reducible refine rForR2 ?_)
  | (with_reducible refine rForL ?_)
  | ((with_reducible refine rRg1 ?hb ?_); (case hb => walk_at "nn"))
  | ((with_reducible refine rRg2 ?hb ?_); (case hb => walk_at "nn"))
  | ((with_reducible refine rRf (xs := ?xs) ?h1 ?_); (case h1 => walk_at "hp"))
  | (with_reducible refine rLcR1 ?_)
  | (with_reducible refine rLcR2 ?_)
  | (with_reducible refine rLcL ?_)
  | (with_reducible refine gN ?_)
  | (with_reducible refine gNl ?_)
  | (with_reducible refine gC ?_)
  | ((with_reducible refine gT (xs := ?xs) ?h1 ?h2 ?_); (case h1 => walk_at "hp"); (case h2 => exact rfl))
  | (with_reducible refine rUn ?_)
  | walk_at "rdv"
  | walk_at "rdc")
local macro_rules | `(tactic| walk_at "rd") => `(tactic| repeat walk_at "rd1")

def top (i : Nat) : Stmt := PySem.Challenge.pw_mendedtree_k38_same_and_sizes.main.body.getD i (.Pass ⟨0, 0, 0, 0⟩)
abbrev s_Node___init__ : Stmt := (inClass (top 1) 0)
abbrev s_Node___iter__ : Stmt := (inClass (top 1) 1)
abbrev s_attributes_of : Stmt := top 2
abbrev s_same : Stmt := top 3
abbrev s_count_nodes : Stmt := top 5
abbrev s_height : Stmt := top 6
abbrev s_law_reel : Stmt := top 8
abbrev s_law_draw : Stmt := top 9
abbrev s_law_pick : Stmt := top 10
abbrev s_law_word : Stmt := top 11
abbrev s_law_quoted : Stmt := top 12
abbrev s_law_literal : Stmt := top 13
abbrev s_law_name : Stmt := top 14
abbrev s_law_sort : Stmt := top 15
abbrev s_law_comb : Stmt := top 16
abbrev s_law_levels : Stmt := top 17
abbrev s_law_count : Stmt := top 18
abbrev s_law_row : Stmt := top 19
abbrev s_law_small_row : Stmt := top 20
abbrev s_law_tree : Stmt := top 21
abbrev s_law_place : Stmt := top 22
abbrev s_law_other : Stmt := top 23
abbrev s_law_change : Stmt := top 24
abbrev s_law_made : Stmt := top 25
abbrev s_law_told : Stmt := top 26
abbrev s_law_end : Stmt := top 27
abbrev s_law_shared : Stmt := top 28
abbrev s_law_is_number : Stmt := top 29
abbrev s_law_says : Stmt := top 30
abbrev s_law_sized : Stmt := top 31
abbrev s_law : Stmt := top 32
theorem sc_Node___init__ : FnScope ["self", "kind", "symbol", "state", "lead", "width", "look", "alternative", "nodes", "popped"] ["self", "kind", "symbol", "state", "lead", "width", "look", "alternative", "nodes", "popped"] (C8.fnScope s_Node___init__) := C8.fnScope_by (by decide +kernel)
theorem sc_Node___iter__ : FnScope ["self"] ["self"] (C8.fnScope s_Node___iter__) := C8.fnScope_by (by decide +kernel)
theorem sc_attributes_of : FnScope ["node", "numbers"] ["node"] (C8.fnScope s_attributes_of) := C8.fnScope_by (by decide +kernel)
theorem sc_same : FnScope ["first", "second", "todo", "left", "right"] ["first", "second"] (C8.fnScope s_same) := C8.fnScope_by (by decide +kernel)
theorem sc_count_nodes : FnScope ["node", "count", "todo", "here"] ["node"] (C8.fnScope s_count_nodes) := C8.fnScope_by (by decide +kernel)
theorem sc_height : FnScope ["node", "tallest", "todo", "level", "here", "child"] ["node"] (C8.fnScope s_height) := C8.fnScope_by (by decide +kernel)
theorem sc_law_reel : FnScope ["script", "reel", "k", "cell", "rest", "turn", "mixed"] ["script"] (C8.fnScope s_law_reel) := C8.fnScope_by (by decide +kernel)
theorem sc_law_draw : FnScope ["reel", "size", "count", "at"] ["reel", "size"] (C8.fnScope s_law_draw) := C8.fnScope_by (by decide +kernel)
theorem sc_law_pick : FnScope ["reel", "row"] ["reel", "row"] (C8.fnScope s_law_pick) := C8.fnScope_by (by decide +kernel)
theorem sc_law_word : FnScope ["reel", "letters", "least", "most", "k"] ["reel", "letters", "least", "most"] (C8.fnScope s_law_word) := C8.fnScope_by (by decide +kernel)
theorem sc_law_quoted : FnScope ["chars", "text", "char"] ["chars"] (C8.fnScope s_law_quoted) := C8.fnScope_by (by decide +kernel)
theorem sc_law_literal : FnScope ["reel", "plain", "chars", "turn"] ["reel"] (C8.fnScope s_law_literal) := C8.fnScope_by (by decide +kernel)
theorem sc_law_name : FnScope ["reel", "letters"] ["reel"] (C8.fnScope s_law_name) := C8.fnScope_by (by decide +kernel)
theorem sc_law_sort : FnScope ["reel"] ["reel"] (C8.fnScope s_law_sort) := C8.fnScope_by (by decide +kernel)
theorem sc_law_comb : FnScope ["reel", "deep", "right", "levels", "k"] ["reel", "deep"] (C8.fnScope s_law_comb) := C8.fnScope_by (by decide +kernel)
theorem sc_law_levels : FnScope ["reel", "levels", "size", "turn", "drop"] ["reel"] (C8.fnScope s_law_levels) := C8.fnScope_by (by decide +kernel)
theorem sc_law_count : FnScope ["reel", "least", "form"] ["reel", "least"] (C8.fnScope s_law_count) := C8.fnScope_by (by decide +kernel)
theorem sc_law_row : FnScope ["reel", "level", "first", "second", "numbers", "least"] ["reel", "level"] (C8.fnScope s_law_row) := C8.fnScope_by (by decide +kernel)
theorem sc_law_small_row : FnScope ["reel", "level", "first", "second", "numbers", "least"] ["reel", "level"] (C8.fnScope s_law_small_row) := C8.fnScope_by (by decide +kernel)
theorem sc_law_tree : FnScope ["reel", "form", "levels", "level"] ["reel"] (C8.fnScope s_law_tree) := C8.fnScope_by (by decide +kernel)
theorem sc_law_place : FnScope ["reel", "size"] ["reel", "size"] (C8.fnScope s_law_place) := C8.fnScope_by (by decide +kernel)
theorem sc_law_other : FnScope ["reel", "row", "slot", "parts"] ["reel", "row", "slot"] (C8.fnScope s_law_other) := C8.fnScope_by (by decide +kernel)
theorem sc_law_change : FnScope ["reel", "rows", "at", "end", "level", "form", "second"] ["reel", "rows"] (C8.fnScope s_law_change) := C8.fnScope_by (by decide +kernel)
theorem sc_law_made : FnScope ["rows", "made", "waiting", "k", "row", "below"] ["rows"] (C8.fnScope s_law_made) := C8.fnScope_by (by decide +kernel)
theorem sc_law_told : FnScope ["root", "most", "told", "todo", "turn", "level", "node", "numbers", "number", "k"] ["root", "most"] (C8.fnScope s_law_told) := C8.fnScope_by (by decide +kernel)
theorem sc_law_end : FnScope ["rows", "at", "end"] ["rows", "at"] (C8.fnScope s_law_end) := C8.fnScope_by (by decide +kernel)
theorem sc_law_shared : FnScope ["rows", "known", "built", "waiting", "k", "row", "below", "key", "parts", "number"] ["rows"] (C8.fnScope s_law_shared) := C8.fnScope_by (by decide +kernel)
theorem sc_law_is_number : FnScope ["told", "due"] ["told", "due"] (C8.fnScope s_law_is_number) := C8.fnScope_by (by decide +kernel)
theorem sc_law_says : FnScope ["told", "due"] ["told", "due"] (C8.fnScope s_law_says) := C8.fnScope_by (by decide +kernel)
theorem sc_law_sized : FnScope ["rows", "made", "at", "part", "row"] ["rows", "made", "at"] (C8.fnScope s_law_sized) := C8.fnScope_by (by decide +kernel)
theorem sc_law : FnScope ["script", "reel", "first", "second", "turn", "one", "two", "again", "at", "due", "inner", "third", "tree", "shared", "left", "right", "rows", "row"] ["script"] (C8.fnScope s_law) := C8.fnScope_by (by decide +kernel)
structure Txt (mg : Str → Option Value) : Prop where
  n_abs : mg "abs" = none
  n_bool : mg "bool" = none
  n_int : mg "int" = none
  n_isinstance : mg "isinstance" = none
  n_iter : mg "iter" = none
  n_len : mg "len" = none
  n_list : mg "list" = none
  n_max : mg "max" = none
  n_min : mg "min" = none
  n_range : mg "range" = none
  n_str : mg "str" = none
  n_sum : mg "sum" = none
  n_tuple : mg "tuple" = none
  n_zip : mg "zip" = none
end Z
namespace Z
open PySem PySem.Spec L2

theorem hu64 {k : Nat} {A : Around} (r : Room k A) : A.units + 64 < cLine := by have := r.un; omega
theorem pe_c0 {X : Cx} {k j : Nat} {x : Str} {sp : Sp} {p pos : Pos} (c : C8.Cal X.prog X.w X.K X.mg X.base k x sp []) (hr : Room j X.A) (hk : k ≤ j) (hg : Gl X x) (hdb : (x == ("__debug__" : Str)) = false := by decide) :
    PE X (.Call (.Name x p) [] [] pos) (tCall sp [] C8.E0 tNil) := by
  obtain ⟨f, fd, ps, ds, F, hm, kp, b, d⟩ := c.ex
  exact pe_call0 F (hr.mono hk) hg hm kp b d C8.pass0 hdb
/-! ## loops -/
section
variable {g : TG} {tb : TS} {nx : L2.St → Hp → Prop} {rt : VK} {bk ct : L2.St → Hp → Prop} {σ : L2.St} {H : Hp} {ta : TA} {te tl : TE} {K : PySem.W.Frag} {Q : VK} {tt : TT} {vs : List Nat}
/-- a loop over what J walks -/
def loopJ (J : It) (g : TG) (tb : TS) (nx : L2.St → Hp → Prop) (rt : VK) (σ : L2.St) (H : Hp) : Prop :=
  ∃ W : Nat → Nat → L2.St → Hp → Prop, (∃ m, W 0 m σ H) ∧ ∀ i m σ H, W i m σ H →
    (J.stop i H ∧ nx σ H) ∨ (J.go i H ∧ ∃ N : L2.St → Hp → Prop, (∀ σ' H', N σ' H' → ∃ m', m' < m ∧ W (i + 1) m' σ' H') ∧ ∀ x H', J.yld i H x H' → g x σ H' fun σ2 H2 => tb ⟨N, rt, nx, N⟩ σ2 H2)
abbrev loopR (lo : Int) (n : Nat) := loopJ (Itr lo n)
abbrev loopL (K : PySem.W.Frag) (a : Addr) := loopJ (Itl K a)
theorem rForR1 (h : ta σ H fun as H1 => ∃ j : Int, as = [.int j] ∧ -(2 ^ 62) ≤ j ∧ j < 2 ^ 62 ∧ loopJ (Itr 0 j.toNat) g tb nx rt σ H1) : tFor (iRng1 ta) g tb ⟨nx, rt, bk, ct⟩ σ H := h
theorem rForR2 (h : ta σ H fun as H1 => ∃ i j : Int, as = [.int i, .int j] ∧ (-(2 ^ 62) ≤ i ∧ i < 2 ^ 62 ∧ -(2 ^ 62) ≤ j ∧ j < 2 ^ 62) ∧ loopJ (Itr i (j - i).toNat) g tb nx rt σ H1) : tFor (iRng2 ta) g tb ⟨nx, rt, bk, ct⟩ σ H := h
theorem rForL (h : tl σ H fun x H1 => ∃ a, x = .ref a ∧ (∃ xs, SqL K H1 a xs) ∧ loopJ (Itl K a) g tb nx rt σ H1) : tFor (iList K tl) g tb ⟨nx, rt, bk, ct⟩ σ H := h
theorem rRg1 {n : Int} {R : Int → Prop} (b : -(2 ^ 62) ≤ n ∧ n < 2 ^ 62) (h : R n) : ∃ j : Int, [V.int n] = [V.int j] ∧ -(2 ^ 62) ≤ j ∧ j < 2 ^ 62 ∧ R j := ⟨n, rfl, b.1, b.2, h⟩
theorem rRg2 {n m : Int} {R : Int → Int → Prop} (b : -(2 ^ 62) ≤ n ∧ n < 2 ^ 62 ∧ -(2 ^ 62) ≤ m ∧ m < 2 ^ 62) (h : R n m) : ∃ i j : Int, [V.int n, V.int m] = [V.int i, V.int j] ∧ (-(2 ^ 62) ≤ i ∧ i < 2 ^ 62 ∧ -(2 ^ 62) ≤ j ∧ j < 2 ^ 62) ∧ R i j := ⟨n, m, rfl, b, h⟩
theorem rRf {p : Addr} {xs : List V} {R : Addr → Prop} (h1 : H p = some (.lst xs)) (h : R p) : ∃ a, V.ref p = V.ref a ∧ (∃ xs, SqL K H a xs) ∧ R a := ⟨p, rfl, ⟨xs, SqL.of h1⟩, h⟩
theorem loopR_by {lo : Int} {n : Nat} (Pv : Nat → L2.St → Hp → Prop) (h0 : Pv 0 σ H)
    (hs : ∀ (i : Nat) σ H, i < n → Pv i σ H → g (.int (lo + i)) σ H fun σ2 H2 => tb ⟨Pv (i + 1), rt, nx, Pv (i + 1)⟩ σ2 H2) (hd : ∀ σ H, Pv n σ H → nx σ H) : loopJ (Itr lo n) g tb nx rt σ H :=
  for_range (D := ⟨nx, rt, fun _ _ => False, fun _ _ => False⟩) Pv h0 hs hd
theorem loopL_by {a : Addr} {xs : List V} (Pv : Nat → L2.St → Hp → Prop) (h0 : Pv 0 σ H) (hl : ∀ i σ H, i ≤ xs.length → Pv i σ H → H a = some (.lst xs))
    (hs : ∀ i x σ H, xs[i]? = some x → Pv i σ H → g x σ H fun σ2 H2 => tb ⟨Pv (i + 1), rt, nx, Pv (i + 1)⟩ σ2 H2) (hd : ∀ σ H, Pv xs.length σ H → nx σ H) : loopJ (Itl K a) g tb nx rt σ H :=
  for_list (K := K) (D := ⟨nx, rt, fun _ _ => False, fun _ _ => False⟩) Pv h0 (fun i σ H hi p => SqL.of (hl i σ H hi p)) hs hd
/-! a while -/
def loopW (c : TT) (tb : TS) (nx : L2.St → Hp → Prop) (rt : VK) (σ : L2.St) (H : Hp) : Prop :=
  tWhile c tb ⟨nx, rt, fun _ _ => False, fun _ _ => False⟩ σ H
theorem rWhile {c : TT} (h : tWhile c tb ⟨nx, rt, bk, ct⟩ σ H) : tWhile c tb ⟨nx, rt, bk, ct⟩ σ H := h

/-! ## comprehensions -/
/-- a comprehension over what J walks, the list at a new address -/
def compJ (J : It) (g : TG) (tt : TT) (te : TE) (vs : List Nat) (σ : L2.St) (H1 : Hp) (Q : VK) : Prop := ∀ D, H1 D = none → ∃ W : Nat → Nat → Hp → Prop, (∃ m, W 0 m (upd H1 D (.lst []))) ∧ ∀ i m H, W i m H →
  (J.stop i H ∧ Q (.ref D) H) ∨ (J.go i H ∧ ∃ Nx : Hp → Prop, (∀ H', Nx H' → ∃ m', m' < m ∧ W (i + 1) m' H') ∧ ∀ x H', J.yld i H x H' → g x (wipe σ vs) H' fun σ2 H2 => wipe σ2 vs = wipe σ vs ∧ tt σ2 H2 fun b H3 =>
    if b = true then te σ2 H3 fun y H4 => ∃ acc, H4 D = some (.lst acc) ∧ acc.length < sizeLine ∧ Nx (upd H4 D (.lst (acc ++ [y]))) else Nx H3)
theorem rLcR1 (h : ta σ H fun as H1 => ∃ j : Int, as = [.int j] ∧ -(2 ^ 62) ≤ j ∧ j < 2 ^ 62 ∧ compJ (Itr 0 j.toNat) g tt te vs σ H1 Q) : tLc (iRng1 ta) g tt te vs σ H Q := h
theorem rLcR2 (h : ta σ H fun as H1 => ∃ i j : Int, as = [.int i, .int j] ∧ (-(2 ^ 62) ≤ i ∧ i < 2 ^ 62 ∧ -(2 ^ 62) ≤ j ∧ j < 2 ^ 62) ∧ compJ (Itr i (j - i).toNat) g tt te vs σ H1 Q) : tLc (iRng2 ta) g tt te vs σ H Q := h
theorem rLcL (h : tl σ H fun x H1 => ∃ a, x = .ref a ∧ (∃ xs, SqL K H1 a xs) ∧ compJ (Itl K a) g tt te vs σ H1 Q) : tLc (iList K tl) g tt te vs σ H Q := h
theorem wipe1 (σ : L2.St) (i : Nat) (x : V) : wipe ((wipe σ [i]).set i (some x)) [i] = wipe σ [i] := by
  show (((σ.set i none).set i (some x)).set i none) = σ.set i none
  rw [List.set_set, List.set_set]
end

/-! ## the reel -/
/-- the reel: a list of whole numbers, at least 41 of them -/
def Reel (H : Hp) (r : Addr) : Prop := ∃ (p : Int) (ns : List Int), H r = some (.lst (V.int p :: ns.map V.int)) ∧ 40 ≤ ns.length ∧ ns.length ≤ 5000
theorem Reel.lst {H : Hp} {r : Addr} (h : Reel H r) : ∃ xs, H r = some (.lst xs) := let ⟨_, _, e, _⟩ := h; ⟨_, e⟩
theorem Reel.same {H H' : Hp} {r : Addr} (h : Reel H r) (s : Same H H') : Reel H' r := let ⟨p, ns, e, l⟩ := h; ⟨p, ns, s _ _ e, l⟩
theorem Reel.sl {H H' : Hp} {r l : Addr} (h : Reel H r) (s : SL l H H') (n : r ≠ l) : Reel H' r := let ⟨p, ns, e, q⟩ := h; ⟨p, ns, s.keep _ _ n e, q⟩
theorem Reel.refl {H : Hp} {r : Addr} (h : Reel H r) : SL r H H := let ⟨_, e⟩ := h.lst; SL.refl e
theorem Reel.ne {H : Hp} {r p : Addr} (h : Reel H r) (f : Frs H p) : r ≠ p := let ⟨_, e⟩ := h.lst; f.ne e
theorem Reel.ne_tup {H : Hp} {r p : Addr} {xs : List V} (h : Reel H r) (f : H p = Option.some (.tup xs)) : p ≠ r := by
  obtain ⟨_, e⟩ := h.lst
  exact ne_of f e (fun q => nomatch q)
theorem Reel.sl0 {H H' : Hp} {r : Addr} (h : Reel H r) (s : Same H H') : SL r H H' := let ⟨_, e⟩ := h.lst; Same.sl e s
theorem SL.upd_new {r D : Addr} {H H' : Hp} {o : HO} (s : SL r H H') (f : H D = Option.none) : SL r H (upd H' D o) := by
  obtain ⟨xs, e⟩ := s.was
  obtain ⟨ys, e'⟩ := s.is
  refine ⟨s.was, ⟨ys, by rw [upd_ne (ne_of_none e f)]; exact e'⟩, fun a u n q => ?_⟩
  rw [upd_ne (ne_of_none q f)]
  exact s.keep a u n q
theorem Reel.upd_ne {H : Hp} {r D : Addr} {o : HO} (h : Reel H r) (n : r ≠ D) : Reel (upd H D o) r := let ⟨p, ns, e, q⟩ := h; ⟨p, ns, by rw [L2.upd_ne n]; exact e, q⟩
section
variable {lo : Int} {n i : Nat} {te : TE} {σ : L2.St} {H : Hp} {Q : VK} {r : Addr}
/-- within a comprehension: the list so far at D, the heap H2, since H at its start -/
structure cIn (r : Addr) (H : Hp) (D : Addr) (n : Nat) (acc : List V) (H2 : Hp) : Prop where
  at_D : H2 D = some (.lst acc)
  fresh : Frs H D
  since : SL r H H2
  reel : Reel H2 r
  lt : acc.length < n
/-- the turn's end -/
def cD (r : Addr) (H : Hp) (D : Addr) (Pa : List V → Prop) (k : Nat) (y : V) (H4 : Hp) : Prop :=
  ∃ acc, H4 D = some (.lst acc) ∧ acc.length < sizeLine ∧ ∃ acc', acc'.length = k + 1 ∧ Pa acc' ∧ SL r H (upd H4 D (.lst (acc ++ [y]))) ∧ Reel (upd H4 D (.lst (acc ++ [y]))) r ∧ upd H4 D (.lst (acc ++ [y])) D = some (.lst acc')
theorem cD_of {D : Addr} {acc : List V} {H2 H4 : Hp} {Pa : List V → Prop} {y : V} (c : cIn r H D n acc H2) (hn : n < 16777216) (s : SL r H2 H4) (hr : Reel H4 r) (pa : Pa (acc ++ [y])) : cD r H D Pa acc.length y H4 := by
  have hrD : r ≠ D := by
    obtain ⟨_, e⟩ := c.since.was
    exact c.fresh.ne e
  have l := c.lt
  exact ⟨acc, s.keep D _ hrD.symm c.at_D, sz_lt (by omega), acc ++ [y], by simp, pa, (c.since.trans s).upd_new c.fresh, hr.upd_ne hrD, upd_same⟩
/-- a comprehension over a range whose element draws from the reel -/
theorem compR_draw (hR : Reel H r) (Pa : List V → Prop) (h0 : Pa [])
    (hs : ∀ acc H2 D, cIn r H D n acc H2 → Pa acc → te ((σ.set i none).set i (some (.int (lo + acc.length)))) H2 (fun y H3 => cD r H D Pa acc.length y H3))
    (hd : ∀ acc H2 D, acc.length = n → Pa acc → SL r H H2 → Reel H2 r → H2 D = some (.lst acc) → Frs H D → Q (.ref D) H2) : compJ (Itr lo n) (gName i) tYes te [i] σ H Q := by
  intro D hD
  have hrD : r ≠ D := hR.ne hD
  refine lc_range (Qd := fun H' => Q (.ref D) H') (fun k H' => ∃ acc, acc.length = k ∧ Pa acc ∧ SL r H H' ∧ Reel H' r ∧ H' D = some (.lst acc)) ⟨[], rfl, h0, hR.refl.upd_new hD, hR.upd_ne hrD, upd_same⟩ ?_ ?_
  · rintro k H' hk ⟨acc, rfl, pa, s, hr, hDl⟩
    exact ⟨wipe1 σ i _, (hs acc H' D ⟨hDl, hD, s, hr, hk⟩ pa)⟩
  · rintro H' ⟨acc, e, pa, s, hr, hDl⟩
    exact hd acc H' D e pa s hr hDl hD
end
section
variable {lo : Int} {n i : Nat} {te : TE} {σ : L2.St} {H : Hp} {Q : VK} {K : PySem.W.Frag}
/-- the same where the element leaves all as it was -/
structure pIn (H : Hp) (D : Addr) (n : Nat) (acc : List V) (H2 : Hp) : Prop where
  at_D : H2 D = some (.lst acc)
  fresh : Frs H D
  since : Same H H2
  lt : acc.length < n
def pD (H : Hp) (D : Addr) (Pa : List V → Hp → Prop) (k : Nat) (y : V) (H4 : Hp) : Prop :=
  ∃ acc, H4 D = some (.lst acc) ∧ acc.length < sizeLine ∧ ∃ acc', acc'.length = k + 1 ∧ Pa acc' (upd H4 D (.lst (acc ++ [y]))) ∧ Same H (upd H4 D (.lst (acc ++ [y]))) ∧ upd H4 D (.lst (acc ++ [y])) D = some (.lst acc')
theorem Same.upd_new {D : Addr} {H H' : Hp} {o : HO} (s : Same H H') (f : H D = none) : Same H (upd H' D o) := fun a u q => by
  rw [upd_ne (ne_of_none q f)]
  exact s a u q
theorem pD_of {D : Addr} {acc : List V} {H2 H4 : Hp} {Pa : List V → Hp → Prop} {y : V} (c : pIn H D n acc H2) (hn : n < 16777216) (s : Same H2 H4) (pa : ∀ H5, SL D H4 H5 → Pa (acc ++ [y]) H5) : pD H D Pa acc.length y H4 := by
  have l := c.lt
  have e4 := s _ _ c.at_D
  exact ⟨acc, e4, sz_lt (by omega), acc ++ [y], by simp, pa _ ⟨⟨_, e4⟩, ⟨_, upd_same⟩, fun a u n e => by rw [upd_ne n]; exact e⟩, Same.upd_new (Same.trans c.since s) c.fresh, upd_same⟩
theorem compR_pure (Pa : List V → Hp → Prop) (h0 : ∀ H2, Same H H2 → Pa [] H2)
    (hs : ∀ acc H2 D, pIn H D n acc H2 → Pa acc H2 → te ((σ.set i none).set i (some (.int (lo + acc.length)))) H2 (fun y H3 => pD H D Pa acc.length y H3))
    (hd : ∀ acc H2 D, acc.length = n → Pa acc H2 → Same H H2 → H2 D = some (.lst acc) → Frs H D → Q (.ref D) H2) : compJ (Itr lo n) (gName i) tYes te [i] σ H Q := by
  intro D hD
  refine lc_range (Qd := fun H' => Q (.ref D) H') (fun k H' => ∃ acc, acc.length = k ∧ Pa acc H' ∧ Same H H' ∧ H' D = some (.lst acc)) ⟨[], rfl, h0 _ (Same.upd_new (Same.refl H) hD), Same.upd_new (Same.refl H) hD, upd_same⟩ ?_ ?_
  · rintro k H' hk ⟨acc, rfl, pa, s, hDl⟩
    exact ⟨wipe1 σ i _, (hs acc H' D ⟨hDl, hD, s, hk⟩ pa)⟩
  · rintro H' ⟨acc, e, pa, s, hDl⟩
    exact hd acc H' D e pa s hDl hD
theorem compL_pure {a : Addr} {xs : List V} (ha : H a = some (.lst xs)) (Pa : List V → Hp → Prop) (h0 : ∀ H2, Same H H2 → Pa [] H2)
    (hs : ∀ acc x H2 D, pIn H D xs.length acc H2 → xs[acc.length]? = some x → Pa acc H2 → te ((σ.set i none).set i (some x)) H2 (fun y H3 => pD H D Pa acc.length y H3))
    (hd : ∀ acc H2 D, acc.length = xs.length → Pa acc H2 → Same H H2 → H2 D = some (.lst acc) → Frs H D → Q (.ref D) H2) : compJ (Itl K a) (gName i) tYes te [i] σ H Q := by
  intro D hD
  refine lc_list (K := K) (a := a) (xs := xs) (Qd := fun H' => Q (.ref D) H') (fun k H' => ∃ acc, acc.length = k ∧ Pa acc H' ∧ Same H H' ∧ H' D = some (.lst acc)) ⟨[], rfl, h0 _ (Same.upd_new (Same.refl H) hD), Same.upd_new (Same.refl H) hD, upd_same⟩ (fun i H' _ ⟨_, _, _, s, _⟩ => SqL.of (s _ _ ha)) ?_ ?_
  · rintro k x H' hx ⟨acc, rfl, pa, s, hDl⟩
    exact ⟨wipe1 σ i _, (hs acc x H' D ⟨hDl, hD, s, (List.getElem?_eq_some_iff.mp hx).1⟩ hx pa)⟩
  · rintro H' ⟨acc, e, pa, s, hDl⟩
    exact hd acc H' D e pa s hDl hD
end
/-! ## texts -/
theorem len_app (x y : Str) : (x ++ y).length = x.length + y.length := by
  rw [TL.len_tl, TL.tl_append, List.length_append, ← TL.len_tl, ← TL.len_tl]
theorem joinL_nil : ∀ ps : List (List Nat), TL.joinL [] ps = ps.flatten
  | [] => rfl
  | [p] => by simp [TL.joinL]
  | p :: q :: r => by
    show p ++ ([] ++ TL.joinL [] (q :: r)) = _
    rw [List.nil_append, joinL_nil (q :: r)]
    rfl
theorem tl_join0 (ys : List Str) : TL.tl (Txt.join Str.empty ys) = (ys.map TL.tl).flatten := by
  rw [TL.join_eq, TL.tl_join, show TL.tl Str.empty = [] from rfl, joinL_nil]
/-- all signs are signs -/
abbrev Ok (x : Str) : Prop := ∀ c ∈ TL.tl x, c < 1114112
theorem Ok.strOk {x : Str} (h : Ok x) : PyData.strOk x = true := by
  show x.cps.all (fun c => decide (c < 0x110000)) = true
  rw [← Array.all_toList, List.all_eq_true]
  exact fun c hc => decide_eq_true (h c hc)
theorem Ok.app {x y : Str} (h : Ok x) (h' : Ok y) : Ok (x ++ y) := fun c hc => by
  rw [TL.tl_append] at hc
  rcases List.mem_append.mp hc with hc | hc
  · exact h c hc
  · exact h' c hc
theorem Ok.join {ys : List Str} (h : ∀ y ∈ ys, Ok y) : Ok (Txt.join Str.empty ys) := fun c hc => by
  rw [tl_join0] at hc
  obtain ⟨l, hl, hcl⟩ := List.mem_flatten.mp hc
  obtain ⟨y, hy, rfl⟩ := List.mem_map.mp hl
  exact h y hy c hcl
/-- the list form of a slice -/
def cut {α : Type} (l : List α) (lo hi : Option Int) : List α := (l.drop (HT.sIx l.length 0 lo)).take (HT.sIx l.length l.length hi - HT.sIx l.length 0 lo)
theorem cutV_cut (xs : List V) (lo hi : Option Int) : cutV xs lo hi = cut xs lo hi := rfl
theorem tl_cutS (z : Str) (lo hi : Option Int) : TL.tl (cutS z lo hi) = cut (TL.tl z) lo hi := by
  unfold cutS cut
  rw [TL.len_tl z]
theorem Ok.cut {x : Str} (h : Ok x) (lo hi : Option Int) : Ok (cutS x lo hi) := fun c hc => by
  rw [tl_cutS] at hc
  exact h c (List.mem_of_mem_drop (List.mem_of_mem_take hc))
theorem sIx_pos {n d : Nat} {i : Int} (h : 0 ≤ i) : HT.sIx n d (some i) = min i.toNat n := by
  show (if i < 0 then (i + (n : Int)).toNat else min i.toNat n) = min i.toNat n
  rw [if_neg (by omega)]
theorem cut_to {α : Type} {l : List α} {i : Int} (h : 0 ≤ i) : cut l none (some i) = l.take i.toNat := by
  unfold cut
  rw [HT.sIx_none, sIx_pos h, List.drop_zero, Nat.sub_zero]
  by_cases c : i.toNat ≤ l.length
  · rw [Nat.min_eq_left c]
  · rw [Nat.min_eq_right (by omega), List.take_of_length_le (Nat.le_refl _), List.take_of_length_le (by omega)]
theorem cut_from {α : Type} {l : List α} {i : Int} (h : 0 ≤ i) : cut l (some i) none = l.drop i.toNat := by
  unfold cut
  rw [HT.sIx_none, sIx_pos h]
  by_cases c : i.toNat ≤ l.length
  · rw [Nat.min_eq_left c, List.take_of_length_le (by rw [List.length_drop]; omega)]
  · rw [Nat.min_eq_right (by omega), List.drop_eq_nil_of_le (Nat.le_refl _), List.drop_eq_nil_of_le (by omega)]
    simp
theorem cut_mid {α : Type} {l : List α} {i j : Int} (h : 0 ≤ i) (h' : 0 ≤ j) : cut l (some i) (some j) = (l.take j.toNat).drop i.toNat := by
  unfold cut
  rw [sIx_pos h, sIx_pos h', List.drop_take]
  by_cases c : i.toNat ≤ l.length
  · rw [Nat.min_eq_left c]
    by_cases c2 : j.toNat ≤ l.length
    · rw [Nat.min_eq_left c2]
    · rw [Nat.min_eq_right (by omega)]
      rw [List.take_of_length_le (by rw [List.length_drop]; omega), List.take_of_length_le (by rw [List.length_drop]; omega)]
  · rw [Nat.min_eq_right (show l.length ≤ i.toNat by omega), List.drop_eq_nil_of_le (Nat.le_refl _), List.drop_eq_nil_of_le (by omega)]
    simp
theorem cut_len {α : Type} (l : List α) (lo hi : Option Int) : (cut l lo hi).length ≤ l.length := by
  unfold cut
  rw [List.length_take, List.length_drop]
  omega
end Z
namespace Z
open PySem PySem.Spec L2
local macro_rules | `(tactic| walk_at "ne") => `(tactic| first
  | with_reducible assumption
  | with_reducible exact Ne.symm (by assumption)
  | exact Frs.ne (by with_reducible assumption) (by walk_at "hp")
  | exact Frs.ne' (by with_reducible assumption) (by walk_at "hp"))
local macro_rules | `(tactic| walk_at "hp") => `(tactic| first
  | with_reducible assumption
  | (with_reducible refine Same.at (by assumption) ?_; walk_at "hp")
  | (with_reducible refine SL.tup (by assumption) ?_; walk_at "hp")
  | (with_reducible refine SL.at (by assumption) (by walk_at "ne") ?_; walk_at "hp"))
local macro_rules | `(tactic| walk_at "sz") => `(tactic| first
  | with_reducible assumption
  | exact Nat.le_of_ble_eq_true rfl
  | (refine sz_le ?_; omega)
  | (refine sz_lt ?_; omega)
  | decide +kernel)
local macro_rules | `(tactic| walk_at "at") => `(tactic| first
  | with_reducible assumption
  | with_reducible exact at0
  | with_reducible exact at1
  | with_reducible exact at2
  | with_reducible exact ixN0)
local macro_rules | `(tactic| walk_at "nn") => `(tactic| first
  | omega
  | decide
  | exact ⟨by decide, by decide⟩
  | exact ⟨by omega, by omega⟩
  | exact ⟨by omega, by omega, by omega, by omega⟩)
local macro_rules | `(tactic| walk_at "rdv") => `(tactic| first
  | (with_reducible refine add_int ?_)
  | (with_reducible refine sub_int ?_)
  | (with_reducible refine neg_int ?_)
  | ((with_reducible refine ix_tpl (xs := ?xs) (v := ?v) ?h1 ?h2 ?_); (case h1 => walk_at "hp"); (case h2 => walk_at "at"))
  | ((with_reducible refine ix_lst (xs := ?xs) (v := ?v) ?h1 ?h2 ?_); (case h1 => walk_at "hp"); (case h2 => walk_at "at"))
  | (with_reducible refine eq_int ?_)
  | (with_reducible refine ne_int ?_)
  | (with_reducible refine lt_int ?_)
  | (with_reducible refine le_int ?_)
  | (with_reducible refine gt_int ?_)
  | (with_reducible refine ge_int ?_)
  | (with_reducible refine eq_str ?_)
  | (with_reducible refine ne_str ?_)
  | (with_reducible refine eq_bl ?_)
  | (with_reducible refine ne_bl ?_)
  | ((with_reducible refine mod_int ?hc ?_); (case hc => walk_at "nn"))
  | ((with_reducible refine div_int ?hc ?_); (case hc => walk_at "nn"))
  | ((with_reducible refine mul_intR ?hc ?_); (case hc => exact ⟨by decide, by decide⟩))
  | ((with_reducible refine mul_intR ?hc ?_); (case hc => exact ⟨by omega, by omega⟩))
  | ((with_reducible refine mul_intL ?hc ?_); (case hc => exact ⟨by omega, by omega⟩))
  | ((with_reducible refine pow_int ?hc ?_); (case hc => exact ⟨by decide, by decide, by decide⟩))
  | ((with_reducible refine add_str ?hc ?_); (case hc => walk_at "sz"))
  | ((with_reducible refine add_lst (xs := ?xs) (ys := ?ys) ?h1 ?h2 ?hc ?_); (case h1 => walk_at "hp"); (case h2 => walk_at "hp"); (case hc => walk_at "sz"))
  | ((with_reducible refine sl_strU ?hc ?_); (case hc => walk_at "sz"))
  | ((with_reducible refine sl_lst (xs := ?xs) ?h1 ?_); (case h1 => walk_at "hp"))
  | (with_reducible refine is_bl ?_)
  | (with_reducible refine isnt_bl ?_)
  | (with_reducible refine is_non ?_)
  | (with_reducible refine isnt_non ?_))
local macro_rules | `(tactic| walk_at "rdc") => `(tactic| first
  | ((with_reducible refine len_lst (xs := ?xs) ?h1 ?_); (case h1 => walk_at "hp"))
  | ((with_reducible refine len_tup (xs := ?xs) ?h1 ?_); (case h1 => walk_at "hp"))
  | ((with_reducible refine len_str ?hc ?_); (case hc => walk_at "sz"))
  | (with_reducible refine int_int ?_)
  | (with_reducible refine max_int ?_)
  | (with_reducible refine min_int ?_)
  | (with_reducible refine abs_int ?_)
  | (with_reducible refine isi_ii ?_)
  | (with_reducible refine isi_ib ?_)
  | (with_reducible refine isi_ss ?_)
  | (with_reducible refine isi_bb ?_)
  | ((with_reducible refine isi_tt (xs := ?xs) ?h1 ?_); (case h1 => walk_at "hp"))
  | ((with_reducible refine isi_ll (xs := ?xs) ?h1 ?_); (case h1 => walk_at "hp"))
  | ((with_reducible refine list_lst (xs := ?xs) ?h1 ?_); (case h1 => walk_at "hp"))
  | ((with_reducible refine list_tup (xs := ?xs) ?h1 ?_); (case h1 => walk_at "hp"))
  | ((with_reducible refine tuple_lst (xs := ?xs) ?h1 ?_); (case h1 => walk_at "hp"))
  | ((with_reducible refine tuple_tup (xs := ?xs) ?h1 ?_); (case h1 => walk_at "hp"))
  | ((with_reducible refine append_lst (xs := ?xs) ?h1 ?hc ?_); (case h1 => walk_at "hp"); (case hc => walk_at "sz"))
  | ((with_reducible refine clear_lst (xs := ?xs) ?h1 ?_); (case h1 => walk_at "hp"))
  | ((with_reducible refine set_lst (xs := ?xs) (k := ?k) ?h1 ?h2 ?_); (case h1 => walk_at "hp"); (case h2 => walk_at "at")))
local macro_rules | `(tactic| walk_at "rd1") => `(tactic| first
  | ((with_reducible refine rVar (v := ?v) ?h ?_); (case h => exact rfl))
  | (with_reducible refine rC ?_)
  | (with_reducible refine rCons ?_)
  | (with_reducible refine rNil ?_)
  | (with_reducible refine rOp ?_)
  | (with_reducible refine rSeq ?_)
  | (with_reducible refine rAsgN ?_)
  | (with_reducible refine rAsgT ?_)
  | (with_reducible refine rAsgS ?_)
  | (with_reducible refine rTest ?_)
  | (with_reducible refine rBl ?_)
  | (with_reducible refine rBl' ?_)
  | (with_reducible refine rInt ?_)
  | (with_reducible refine rInt' ?_)
  | (with_reducible refine rCall ?_)
  | (with_reducible refine rCB ?_)
  | (with_reducible refine rRet ?_)
  | (with_reducible refine rDrop ?_)
  | (with_reducible refine rIfS ?_)
  | (with_reducible refine rTup ?_)
  | (with_reducible refine rLst ?_)
  | (with_reducible refine ⟨Nat.le_of_ble_eq_true rfl, ?_⟩)
  | (with_reducible refine rSl ?_)
  | (with_reducible refine rPart ?_)
  | (with_reducible refine rNoPart ?_)
  | (with_reducible refine rBM ?_)
  | (with_reducible refine rBM0 ?_)
  | ((with_reducible refine tyL (xs := ?xs) ?h1 ?_); (case h1 => walk_at "hp"))
  | (with_reducible refine rM1 ?_)
  | (with_reducible refine rM0 ?_)
  | (with_reducible refine rStr ?_)
  | (with_reducible refine rTru ?_)
  | (with_reducible refine tru_bl ?_)
  | (with_reducible refine tru_int ?_)
  | ((with_reducible refine tru_lst (xs := ?xs) ?h1 ?_); (case h1 => walk_at "hp"))
  | ((with_reducible refine tru_tup (xs := ?xs) ?h1 ?_); (case h1 => walk_at "hp"))
  | ((with_reducible refine tru_str ?hc ?_); (case hc => walk_at "sz"))
  | (with_reducible refine rAnd ?_)
  | (with_reducible refine rOr ?_)
  | (with_reducible refine rNot ?_)
  | (with_reducible refine rAndV ?_)
  | (with_reducible refine rOrV ?_)
  | (with_reducible refine rNotV ?_)
  | (with_reducible refine rIfE ?_)
  | (with_reducible refine rChain ?_)
  | (with_reducible refine rChain3 ?_)
  | (with_reducible refine ifT ?_)
  | (with_reducible refine ifF ?_)
  | (with_reducible refine ifNF ?_)
  | (with_reducible refine ifNT ?_)
  | (with_reducible refine rNext ?_)
  | (with_reducible refine rBrk ?_)
  | (with_reducible refine rCnt ?_)
  | (with_reducible refine rRetN ?_)
  | (with_reducible refine rForR1 ?_)
  | (with_reducible refine rForR2 ?_)
  | (with_reducible refine rForL ?_)
  | ((with_reducible refine rRg1 ?hb ?_); (case hb => walk_at "nn"))
  | ((with_reducible refine rRg2 ?hb ?_); (case hb => walk_at "nn"))
  | ((with_reducible refine rRf (xs := ?xs) ?h1 ?_); (case h1 => walk_at "hp"))
  | (with_reducible refine rLcR1 ?_)
  | (with_reducible refine rLcR2 ?_)
  | (with_reducible refine rLcL ?_)
  | (with_reducible refine gN ?_)
  | (with_reducible refine gNl ?_)
  | (with_reducible refine gC ?_)
  | ((with_reducible refine gT (xs := ?xs) ?h1 ?h2 ?_); (case h1 => walk_at "hp"); (case h2 => exact rfl))
  | (with_reducible refine rUn ?_)
  | walk_at "rdv"
  | walk_at "rdc")
local macro_rules | `(tactic| walk_at "rd") => `(tactic| repeat walk_at "rd1")

/-! ## promises of the draws -/
def sp_law_draw : Sp := fun vs H Q _ => ∃ (r : Addr) (n : Int), vs = [.ref r, .int n] ∧ Reel H r ∧ 0 < n ∧ ∀ (i : Int) (H' : Hp), 0 ≤ i → i < n → SL r H H' → Reel H' r → Q (.int i) H'
theorem use_draw {r : Addr} {n : Int} {H : Hp} {Q : VK} {E : XK} (hR : Reel H r) (hn : 0 < n) (h : ∀ (i : Int) (H' : Hp), 0 ≤ i → i < n → SL r H H' → Reel H' r → Q (.int i) H') : sp_law_draw [.ref r, .int n] H Q E := ⟨r, n, rfl, hR, hn, h⟩
def sp_law_pick : Sp := fun vs H Q _ => ∃ (r : Addr) (row : V), vs = [.ref r, row] ∧ Reel H r ∧
  ((∃ p xs, row = .ref p ∧ H p = some (.lst xs) ∧ p ≠ r ∧ 0 < xs.length ∧ ∀ v H', v ∈ xs → SL r H H' → Reel H' r → Q v H') ∨
   (∃ z : Str, row = .str z ∧ 0 < z.length ∧ z.length ≤ 16777216 ∧ ∀ c H', c ∈ TL.tl z → SL r H H' → Reel H' r → Q (.str ⟨#[c]⟩) H'))
inductive AllI (lo hi : Int) : List V → Prop where
  | nil : AllI lo hi []
  | cons {i : Int} {xs : List V} (h1 : lo ≤ i ∧ i ≤ hi) (h : AllI lo hi xs) : AllI lo hi (.int i :: xs)
theorem AllI.mem {lo hi : Int} {v : V} : ∀ {xs : List V}, AllI lo hi xs → v ∈ xs → ∃ i, v = .int i ∧ lo ≤ i ∧ i ≤ hi
  | _, .cons h1 h, hm => by
    rcases List.mem_cons.mp hm with e | hm
    · exact ⟨_, e, h1⟩
    · exact AllI.mem h hm
inductive AllS (P : Str → Prop) : List V → Prop where
  | nil : AllS P []
  | cons {z : Str} {xs : List V} (h1 : P z) (h : AllS P xs) : AllS P (.str z :: xs)
theorem AllS.mem {P : Str → Prop} {v : V} : ∀ {xs : List V}, AllS P xs → v ∈ xs → ∃ z, v = .str z ∧ P z
  | _, .cons h1 h, hm => by
    rcases List.mem_cons.mp hm with e | hm
    · exact ⟨_, e, h1⟩
    · exact AllS.mem h hm
theorem use_pickI {r p : Addr} {xs : List V} {lo hi : Int} {H : Hp} {Q : VK} {E : XK} (hR : Reel H r) (hp : H p = some (.lst xs)) (hn : p ≠ r) (h0 : 0 < xs.length) (ha : AllI lo hi xs)
    (h : ∀ (i : Int) (H' : Hp), lo ≤ i → i ≤ hi → SL r H H' → Reel H' r → Q (.int i) H') : sp_law_pick [.ref r, .ref p] H Q E :=
  ⟨r, _, rfl, hR, .inl ⟨p, xs, rfl, hp, hn, h0, fun v H' hm s hr => by
    obtain ⟨i, rfl, h1, h2⟩ := ha.mem hm
    exact h i H' h1 h2 s hr⟩⟩
theorem use_pickS {r p : Addr} {xs : List V} {P : Str → Prop} {H : Hp} {Q : VK} {E : XK} (hR : Reel H r) (hp : H p = some (.lst xs)) (hn : p ≠ r) (h0 : 0 < xs.length) (ha : AllS P xs)
    (h : ∀ (z : Str) (H' : Hp), P z → SL r H H' → Reel H' r → Q (.str z) H') : sp_law_pick [.ref r, .ref p] H Q E :=
  ⟨r, _, rfl, hR, .inl ⟨p, xs, rfl, hp, hn, h0, fun v H' hm s hr => by
    obtain ⟨i, rfl, h1⟩ := ha.mem hm
    exact h i H' h1 s hr⟩⟩
theorem use_pickC {r : Addr} {z : Str} {H : Hp} {Q : VK} {E : XK} (hR : Reel H r) (h0 : 0 < z.length) (h1 : z.length ≤ 16777216)
    (h : ∀ (c : Nat) (H' : Hp), c ∈ TL.tl z → SL r H H' → Reel H' r → Q (.str ⟨#[c]⟩) H') : sp_law_pick [.ref r, .str z] H Q E := ⟨r, _, rfl, hR, .inr ⟨z, rfl, h0, h1, h⟩⟩
def sp_law_word : Sp := fun vs H Q _ => ∃ (r : Addr) (z : Str) (l m : Int), vs = [.ref r, .str z, .int l, .int m] ∧ Reel H r ∧ 0 < z.length ∧ z.length ≤ 1000 ∧ 0 ≤ l ∧ l ≤ m ∧ m ≤ 100000 ∧
  ∀ (x : Str) (H' : Hp), l ≤ x.length → x.length ≤ m → (∀ c ∈ TL.tl x, c ∈ TL.tl z) → SL r H H' → Reel H' r → Q (.str x) H'
theorem use_word {r : Addr} {z : Str} {l m : Int} {H : Hp} {Q : VK} {E : XK} (hR : Reel H r) (hz : 0 < z.length ∧ z.length ≤ 1000) (hl : 0 ≤ l ∧ l ≤ m ∧ m ≤ 100000)
    (h : ∀ (x : Str) (H' : Hp), l ≤ x.length → x.length ≤ m → (∀ c ∈ TL.tl x, c ∈ TL.tl z) → SL r H H' → Reel H' r → Q (.str x) H') : sp_law_word [.ref r, .str z, .int l, .int m] H Q E := ⟨r, z, l, m, rfl, hR, hz.1, hz.2, hl.1, hl.2.1, hl.2.2, h⟩
section
variable {P : Program} {w : World} {K : PySem.W.Frag} {mg : Str → Option Value} {base : Heap}
theorem reel_at {p z : Int} {ns : List Int} (h0 : 0 ≤ z) (h1 : z < ns.length) : ∃ j, atI (V.int p :: ns.map V.int) (1 + z) = some (V.int j) := by
  obtain ⟨v, h, _, hm⟩ := at_in (xs := V.int p :: ns.map V.int) (z := 1 + z) (by omega) (by rw [List.length_cons, List.length_map]; omega)
  rcases List.mem_cons.mp hm with e | hm
  · exact ⟨p, by rw [h, e]⟩
  · obtain ⟨j, _, e⟩ := List.mem_map.mp hm
    exact ⟨j, by rw [h, e]⟩
theorem cal_law_draw {f : Addr} {fd : FuncData} (T : Txt mg) (FD : C8.Def K mg "_law_draw" s_law_draw f fd) (b : Binds K fd ["reel", "size"] []) : C8.Cal P w K mg base 1 "_law_draw" sp_law_draw [] := by
  refine C8.cal0 FD b .nil sc_law_draw (fun vs H Q E h => ?_) (fun cdv A outer s H vs Q E hr h => ?_)
  · obtain ⟨r, n, rfl, _⟩ := h; rfl
  · obtain ⟨r, n, rfl, ⟨p, ns, hR, l1, l2⟩, hn, k⟩ := h
    refine ⟨_, (pss_cons (ps_set (i := 2) sc_law_draw.nd rfl (.inl rfl) (pe_op op_subU (pe_callB (call_lenK K) (by rfl) T.n_len PySem.boot_len (pa_cons (pv 0) pa_nil)) pe_int))
  (pss_cons (ps_set (i := 3) sc_law_draw.nd rfl (.inl rfl) (pe_ix (ix_K K) (pv 0) pe_int (fun _ _ => rfl)))
  (pss_cons (ps_asg (pe_op (op_addK K) (pv 3) pe_int) (pg_sub (pv 0) pe_int set_list))
  (pss_one (ps_ret (pe_op op_modU (pe_callTy call_intU (by rfl) T.n_int (by decide +kernel) (pa_cons (pe_op (op_addK K) (pe_ix (ix_K K) (pv 0) (pe_op (op_addK K) pe_int (pe_op op_modU (pe_callTy call_intU (by rfl) T.n_int (by decide +kernel) (pa_cons (pv 3) pa_nil)) (pv 2))) (fun _ _ => rfl)) (pe_op op_mulU (pe_op op_divU (pv 3) (pv 2)) pe_int)) pa_nil)) (pv 1))))))), ?_⟩
    show (_ : TS) _ [some (.ref r), some (.int n), none, none] H
    have hc : (((V.int p :: ns.map V.int).length : Int) - 1) = (ns.length : Int) := by rw [List.length_cons, List.length_map]; omega
    walk_at "rd"
    refine putO_gen hR fun H1 s1 h1 => ?_
    replace h1 : H1 r = some (.lst (V.int (p + 1) :: ns.map V.int)) := h1
    rw [hc]
    have c0 := Int.emod_nonneg p (show (ns.length : Int) ≠ 0 by omega)
    have c1 := Int.emod_lt_of_pos p (show (0 : Int) < (ns.length : Int) by omega)
    obtain ⟨j, hj⟩ := reel_at (p := p + 1) c0 c1
    walk_at "rd"
    exact k _ _ (Int.emod_nonneg _ (by omega)) (Int.emod_lt_of_pos _ hn) s1 ⟨_, _, h1, l1, l2⟩
theorem cal_law_pick {f : Addr} {fd : FuncData} (T : Txt mg) (FD : C8.Def K mg "_law_pick" s_law_pick f fd) (b : Binds K fd ["reel", "row"] [])
    (c_law_draw : C8.Cal P w K mg base 1 "_law_draw" sp_law_draw []) : C8.Cal P w K mg base 2 "_law_pick" sp_law_pick [] := by
  refine C8.cal0 FD b .nil sc_law_pick (fun vs H Q E h => ?_) (fun cdv A outer s H vs Q E hr h => ?_)
  · obtain ⟨r, n, rfl, _⟩ := h; rfl
  · obtain ⟨r, row, rfl, hR, h⟩ := h
    refine ⟨_, (pss_one (ps_ret (pe_ix (ix_K K) (pv 1) (C8.pe_c c_law_draw hr (by decide) (by rfl) (pa_cons (pv 0) (pa_cons (pe_callB (call_lenK K) (by rfl) T.n_len PySem.boot_len (pa_cons (pv 1) pa_nil)) pa_nil))) (fun _ _ => rfl)))), ?_⟩
    show (_ : TS) _ [some (.ref r), some row] H
    rcases h with ⟨p, xs, rfl, hp, hn, h0, k⟩ | ⟨z, rfl, h0, h1, k⟩
    · walk_at "rd"
      refine use_draw hR (by omega) fun i H1 i0 i1 s1 r1 => ?_
      obtain ⟨v, hv, _, hm⟩ := at_in i0 i1
      walk_at "rd"
      exact k v H1 hm s1 r1
    · walk_at "rd"
      refine use_draw hR (by omega) fun i H1 i0 i1 s1 r1 => ?_
      obtain ⟨c, hv, _, hm⟩ := at_in (xs := z.cps.toList) i0 (by rw [← TL.len_tl]; exact i1)
      refine ix_str (sz_le h1) hv ?_
      exact k c H1 hm s1 r1
theorem cal_law_word {f : Addr} {fd : FuncData} (T : Txt mg) (FD : C8.Def K mg "_law_word" s_law_word f fd) (b : Binds K fd ["reel", "letters", "least", "most"] [])
    (c_law_pick : C8.Cal P w K mg base 2 "_law_pick" sp_law_pick [])
    (c_law_draw : C8.Cal P w K mg base 1 "_law_draw" sp_law_draw []) : C8.Cal P w K mg base 3 "_law_word" sp_law_word [] := by
  refine C8.cal0 FD b .nil sc_law_word (fun vs H Q E h => ?_) (fun cdv A outer s H vs Q E hr h => ?_)
  · obtain ⟨r, z, l, m, rfl, _⟩ := h; rfl
  · obtain ⟨r, z, l, m, rfl, hR, z0, z1, l0, l1, l2, k⟩ := h
    refine ⟨_, (pss_one (ps_ret (pe_m1 F.slot_str_join F.type_str_join (mt_joinK K) pe_str (pe_lc (own := [("k", 4)]) rfl sc_law_word.nd (pi_range1 rfl T.n_range (pa_cons (pe_op (op_addK K) (pv 2) (C8.pe_c c_law_draw hr (by decide) (by rfl) (pa_cons (pv 0) (pa_cons (pe_op (op_addK K) (pe_op op_subU (pv 3) (pv 2)) pe_int) pa_nil)))) pa_nil)) (blkOk_by (own := [("k", 4)]) (N := ["reel", "letters", "least", "most", "k"]) (sc := C8.fnScope s_law_word) (by decide +kernel)) (fun _ _ _ _ _ => (pg_name (i := 4) sc_law_word.nd rfl (.inl rfl))) (fun _ _ _ _ _ => pts_nil) (fun _ _ _ _ _ => (C8.pe_c c_law_pick hr (by decide) (by rfl) (pa_cons (pv 0) (pa_cons (pv 1) pa_nil)))))))), ?_⟩
    show (_ : TS) _ [some (.ref r), some (.str z), some (.int l), some (.int m), none] H
    walk_at "rd"
    refine use_draw hR (by omega) fun i H1 i0 i1 s1 r1 => ?_
    walk_at "rd"
    refine compR_draw (r := r) r1 (fun acc => ∃ ys : List Str, acc = ys.map V.str ∧ ∀ y ∈ ys, ∃ c ∈ TL.tl z, y = ⟨#[c]⟩) ⟨[], rfl, fun _ h => nomatch h⟩ ?_ ?_
    · rintro acc H2 D c ⟨ys, rfl, hy⟩
      walk_at "rd"
      refine use_pickC c.reel z0 (by omega) fun ch H3 hc s3 r3 => ?_
      refine cD_of c (by omega) s3 r3 ⟨ys ++ [⟨#[ch]⟩], by simp, fun y hm => ?_⟩
      rcases List.mem_append.mp hm with hm | hm
      · exact hy y hm
      · exact ⟨ch, hc, List.mem_singleton.mp hm⟩
    · rintro acc H2 D hl ⟨ys, rfl, hy⟩ s2 r2 hD _
      rw [List.length_map] at hl
      have hlen : ∀ ys : List Str, (∀ y ∈ ys, ∃ c ∈ TL.tl z, y = ⟨#[c]⟩) → (ys.map (·.length)).sum = ys.length ∧ ((ys.map TL.tl).flatten).length = ys.length ∧ ∀ c ∈ (ys.map TL.tl).flatten, c ∈ TL.tl z := by
        intro ys
        induction ys with
        | nil => intro _; exact ⟨rfl, rfl, fun _ h => nomatch h⟩
        | cons y ys ih =>
          intro h
          obtain ⟨e1, e2, e3⟩ := ih fun q hq => h q (List.mem_cons_of_mem _ hq)
          obtain ⟨c, hc, rfl⟩ := h y (List.mem_cons_self ..)
          refine ⟨?_, ?_, ?_⟩
          · rw [List.map_cons, List.sum_cons, e1]; show 1 + ys.length = ys.length + 1; omega
          · rw [List.map_cons, List.flatten_cons, List.length_append, e2]; show 1 + ys.length = ys.length + 1; omega
          · intro q hq
            rw [List.map_cons, List.flatten_cons] at hq
            rcases List.mem_append.mp hq with hq | hq
            · have : q = c := by simpa using hq
              rw [this]; exact hc
            · exact e3 q hq
      obtain ⟨e1, e2, e3⟩ := hlen ys hy
      have e : TL.tl (Txt.join (Str.ofString "") ys) = (ys.map TL.tl).flatten := tl_join0 ys
      refine join_lst hD (by rw [e1]; show ys.length + ys.length * 0 ≤ _; omega) ?_
      refine k _ H2 ?_ ?_ ?_ (s1.trans s2) r2
      · rw [TL.len_tl, e, e2]; omega
      · rw [TL.len_tl, e, e2]; omega
      · rw [e]; exact e3
end
end Z
namespace Z
open PySem PySem.Spec L2
local macro_rules | `(tactic| walk_at "ne") => `(tactic| first
  | with_reducible assumption
  | with_reducible exact Ne.symm (by assumption)
  | exact Frs.ne (by with_reducible assumption) (by walk_at "hp")
  | exact Frs.ne' (by with_reducible assumption) (by walk_at "hp"))
local macro_rules | `(tactic| walk_at "hp") => `(tactic| first
  | with_reducible assumption
  | (with_reducible refine Same.at (by assumption) ?_; walk_at "hp")
  | (with_reducible refine SL.tup (by assumption) ?_; walk_at "hp")
  | (with_reducible refine SL.at (by assumption) (by walk_at "ne") ?_; walk_at "hp"))
local macro_rules | `(tactic| walk_at "sz") => `(tactic| first
  | with_reducible assumption
  | exact Nat.le_of_ble_eq_true rfl
  | (refine sz_le ?_; omega)
  | (refine sz_lt ?_; omega)
  | decide +kernel)
local macro_rules | `(tactic| walk_at "at") => `(tactic| first
  | with_reducible assumption
  | with_reducible exact at0
  | with_reducible exact at1
  | with_reducible exact at2
  | with_reducible exact ixN0)
local macro_rules | `(tactic| walk_at "nn") => `(tactic| first
  | omega
  | decide
  | exact ⟨by decide, by decide⟩
  | exact ⟨by omega, by omega⟩
  | exact ⟨by omega, by omega, by omega, by omega⟩)
local macro_rules | `(tactic| walk_at "rdv") => `(tactic| first
  | (with_reducible refine add_int ?_)
  | (with_reducible refine sub_int ?_)
  | (with_reducible refine neg_int ?_)
  | ((with_reducible refine ix_tpl (xs := ?xs) (v := ?v) ?h1 ?h2 ?_); (case h1 => walk_at "hp"); (case h2 => walk_at "at"))
  | ((with_reducible refine ix_lst (xs := ?xs) (v := ?v) ?h1 ?h2 ?_); (case h1 => walk_at "hp"); (case h2 => walk_at "at"))
  | (with_reducible refine eq_int ?_)
  | (with_reducible refine ne_int ?_)
  | (with_reducible refine lt_int ?_)
  | (with_reducible refine le_int ?_)
  | (with_reducible refine gt_int ?_)
  | (with_reducible refine ge_int ?_)
  | (with_reducible refine eq_str ?_)
  | (with_reducible refine ne_str ?_)
  | (with_reducible refine eq_bl ?_)
  | (with_reducible refine ne_bl ?_)
  | ((with_reducible refine mod_int ?hc ?_); (case hc => walk_at "nn"))
  | ((with_reducible refine div_int ?hc ?_); (case hc => walk_at "nn"))
  | ((with_reducible refine mul_intR ?hc ?_); (case hc => exact ⟨by decide, by decide⟩))
  | ((with_reducible refine mul_intR ?hc ?_); (case hc => exact ⟨by omega, by omega⟩))
  | ((with_reducible refine mul_intL ?hc ?_); (case hc => exact ⟨by omega, by omega⟩))
  | ((with_reducible refine pow_int ?hc ?_); (case hc => exact ⟨by decide, by decide, by decide⟩))
  | ((with_reducible refine add_str ?hc ?_); (case hc => walk_at "sz"))
  | ((with_reducible refine add_lst (xs := ?xs) (ys := ?ys) ?h1 ?h2 ?hc ?_); (case h1 => walk_at "hp"); (case h2 => walk_at "hp"); (case hc => walk_at "sz"))
  | ((with_reducible refine sl_strU ?hc ?_); (case hc => walk_at "sz"))
  | ((with_reducible refine sl_lst (xs := ?xs) ?h1 ?_); (case h1 => walk_at "hp"))
  | (with_reducible refine is_bl ?_)
  | (with_reducible refine isnt_bl ?_)
  | (with_reducible refine is_non ?_)
  | (with_reducible refine isnt_non ?_))
local macro_rules | `(tactic| walk_at "rdc") => `(tactic| first
  | ((with_reducible refine len_lst (xs := ?xs) ?h1 ?_); (case h1 => walk_at "hp"))
  | ((with_reducible refine len_tup (xs := ?xs) ?h1 ?_); (case h1 => walk_at "hp"))
  | ((with_reducible refine len_str ?hc ?_); (case hc => walk_at "sz"))
  | (with_reducible refine int_int ?_)
  | (with_reducible refine max_int ?_)
  | (with_reducible refine min_int ?_)
  | (with_reducible refine abs_int ?_)
  | (with_reducible refine isi_ii ?_)
  | (with_reducible refine isi_ib ?_)
  | (with_reducible refine isi_ss ?_)
  | (with_reducible refine isi_bb ?_)
  | ((with_reducible refine isi_tt (xs := ?xs) ?h1 ?_); (case h1 => walk_at "hp"))
  | ((with_reducible refine isi_ll (xs := ?xs) ?h1 ?_); (case h1 => walk_at "hp"))
  | ((with_reducible refine list_lst (xs := ?xs) ?h1 ?_); (case h1 => walk_at "hp"))
  | ((with_reducible refine list_tup (xs := ?xs) ?h1 ?_); (case h1 => walk_at "hp"))
  | ((with_reducible refine tuple_lst (xs := ?xs) ?h1 ?_); (case h1 => walk_at "hp"))
  | ((with_reducible refine tuple_tup (xs := ?xs) ?h1 ?_); (case h1 => walk_at "hp"))
  | ((with_reducible refine append_lst (xs := ?xs) ?h1 ?hc ?_); (case h1 => walk_at "hp"); (case hc => walk_at "sz"))
  | ((with_reducible refine clear_lst (xs := ?xs) ?h1 ?_); (case h1 => walk_at "hp"))
  | ((with_reducible refine set_lst (xs := ?xs) (k := ?k) ?h1 ?h2 ?_); (case h1 => walk_at "hp"); (case h2 => walk_at "at")))
local macro_rules | `(tactic| walk_at "rd1") => `(tactic| first
  | ((with_reducible refine rVar (v := ?v) ?h ?_); (case h => exact rfl))
  | (with_reducible refine rC ?_)
  | (with_reducible refine rCons ?_)
  | (with_reducible refine rNil ?_)
  | (with_reducible refine rOp ?_)
  | (with_reducible refine rSeq ?_)
  | (with_reducible refine rAsgN ?_)
  | (with_reducible refine rAsgT ?_)
  | (with_reducible refine rAsgS ?_)
  | (with_reducible refine rTest ?_)
  | (with_reducible refine rBl ?_)
  | (with_reducible refine rBl' ?_)
  | (with_reducible refine rInt ?_)
  | (with_reducible refine rInt' ?_)
  | (with_reducible refine rCall ?_)
  | (with_reducible refine rCB ?_)
  | (with_reducible refine rRet ?_)
  | (with_reducible refine rDrop ?_)
  | (with_reducible refine rIfS ?_)
  | (with_reducible refine rTup ?_)
  | (with_reducible refine rLst ?_)
  | (with_reducible refine ⟨Nat.le_of_ble_eq_true rfl, ?_⟩)
  | (with_reducible refine rSl ?_)
  | (with_reducible refine rPart ?_)
  | (with_reducible refine rNoPart ?_)
  | (with_reducible refine rBM ?_)
  | (with_reducible refine rBM0 ?_)
  | ((with_reducible refine tyL (xs := ?xs) ?h1 ?_); (case h1 => walk_at "hp"))
  | (with_reducible refine rM1 ?_)
  | (with_reducible refine rM0 ?_)
  | (with_reducible refine rStr ?_)
  | (with_reducible refine rTru ?_)
  | (with_reducible refine tru_bl ?_)
  | (with_reducible refine tru_int ?_)
  | ((with_reducible refine tru_lst (xs := ?xs) ?h1 ?_); (case h1 => walk_at "hp"))
  | ((with_reducible refine tru_tup (xs := ?xs) ?h1 ?_); (case h1 => walk_at "hp"))
  | ((with_reducible refine tru_str ?hc ?_); (case hc => walk_at "sz"))
  | (with_reducible refine rAnd ?_)
  | (with_reducible refine rOr ?_)
  | (with_reducible refine rNot ?_)
  | (with_reducible refine rAndV ?_)
  | (with_reducible refine rOrV ?_)
  | (with_reducible refine rNotV ?_)
  | (with_reducible refine rIfE ?_)
  | (with_reducible refine rChain ?_)
  | (with_reducible refine rChain3 ?_)
  | (with_reducible refine ifT ?_)
  | (with_reducible refine ifF ?_)
  | (with_reducible refine ifNF ?_)
  | (with_reducible refine ifNT ?_)
  | (with_reducible refine rNext ?_)
  | (with_reducible refine rBrk ?_)
  | (with_reducible refine rCnt ?_)
  | (with_reducible refine rRetN ?_)
  | (with_reducible refine rForR1 ?_)
  | (with_reducible refine rForR2 ?_)
  | (with_reducible refine rForL ?_)
  | ((with_reducible refine rRg1 ?hb ?_); (case hb => walk_at "nn"))
  | ((with_reducible refine rRg2 ?hb ?_); (case hb => walk_at "nn"))
  | ((with_reducible refine rRf (xs := ?xs) ?h1 ?_); (case h1 => walk_at "hp"))
  | (with_reducible refine rLcR1 ?_)
  | (with_reducible refine rLcR2 ?_)
  | (with_reducible refine rLcL ?_)
  | (with_reducible refine gN ?_)
  | (with_reducible refine gNl ?_)
  | (with_reducible refine gC ?_)
  | ((with_reducible refine gT (xs := ?xs) ?h1 ?h2 ?_); (case h1 => walk_at "hp"); (case h2 => exact rfl))
  | (with_reducible refine rUn ?_)
  | walk_at "rdv"
  | walk_at "rdc")
local macro_rules | `(tactic| walk_at "rd") => `(tactic| repeat walk_at "rd1")

def sp_law_signs : Sp := fun vs H Q _ => vs = [] ∧ ∀ z : Str, 0 < z.length ∧ z.length ≤ 200 ∧ Ok z → Q (.str z) H
theorem use_signs {H : Hp} {Q : VK} {E : XK} (h : ∀ z : Str, 0 < z.length ∧ z.length ≤ 200 ∧ Ok z → Q (.str z) H) : sp_law_signs [] H Q E := ⟨rfl, h⟩
def sp_law_stepped : Sp := fun vs H Q _ => ∃ (r : Addr) (n : Int), vs = [.ref r, .int n] ∧ Reel H r ∧ 0 ≤ n ∧ n ≤ 5000 ∧ ∀ (x : Str) (H' : Hp), (x.length : Int) = n → Ok x → SL r H H' → Reel H' r → Q (.str x) H'
theorem use_stepped {r : Addr} {n : Int} {H : Hp} {Q : VK} {E : XK} (hR : Reel H r) (hn : 0 ≤ n ∧ n ≤ 5000) (h : ∀ (x : Str) (H' : Hp), (x.length : Int) = n → Ok x → SL r H H' → Reel H' r → Q (.str x) H') : sp_law_stepped [.ref r, .int n] H Q E := ⟨r, n, rfl, hR, hn.1, hn.2, h⟩
/-- a drawn text of a bounded length -/
def spTxt (m : Nat) : Sp := fun vs H Q _ => ∃ (r : Addr), vs = [.ref r] ∧ Reel H r ∧ ∀ (x : Str) (H' : Hp), x.length ≤ m → Ok x → SL r H H' → Reel H' r → Q (.str x) H'
abbrev sp_law_text : Sp := spTxt 2000
abbrev sp_law_new : Sp := spTxt 300
theorem use_txt {m : Nat} {r : Addr} {H : Hp} {Q : VK} {E : XK} (hR : Reel H r) (h : ∀ (x : Str) (H' : Hp), x.length ≤ m → Ok x → SL r H H' → Reel H' r → Q (.str x) H') : spTxt m [.ref r] H Q E := ⟨r, rfl, hR, h⟩
theorem ones : ∀ ys : List Str, (∀ y ∈ ys, y.length = 1 ∧ Ok y) → (ys.map (·.length)).sum = ys.length ∧ ((ys.map TL.tl).flatten).length = ys.length := by
  intro ys
  induction ys with
  | nil => intro _; exact ⟨rfl, rfl⟩
  | cons y ys ih =>
    intro h
    obtain ⟨e1, e2⟩ := ih fun q hq => h q (List.mem_cons_of_mem _ hq)
    have e := (h y (List.mem_cons_self ..)).1
    refine ⟨?_, ?_⟩
    · rw [List.map_cons, List.sum_cons, e1, e]; show 1 + ys.length = ys.length + 1; omega
    · rw [List.map_cons, List.flatten_cons, List.length_append, e2, ← TL.len_tl, e]; show 1 + ys.length = ys.length + 1; omega
section
variable {P : Program} {w : World} {K : PySem.W.Frag} {mg : Str → Option Value} {base : Heap}
end
end Z
namespace Z
open PySem PySem.Spec L2

/-! ## paired lists -/
section
variable {α β : Type} {F G : α → β → Prop}
theorem Paired.len : ∀ {xs : List α} {ys : List β}, Paired F xs ys → xs.length = ys.length
  | _, _, .nil => rfl
  | _, _, .cons _ t => congrArg Nat.succ (Paired.len t)
theorem Paired.imp (f : ∀ a b, F a b → G a b) : ∀ {xs : List α} {ys : List β}, Paired F xs ys → Paired G xs ys
  | _, _, .nil => .nil
  | _, _, .cons r t => .cons (f _ _ r) (Paired.imp f t)
theorem Paired.app : ∀ {xs xs' : List α} {ys ys' : List β}, Paired F xs ys → Paired F xs' ys' → Paired F (xs ++ xs') (ys ++ ys')
  | _, _, _, _, .nil, h => h
  | _, _, _, _, .cons r t, h => .cons r (Paired.app t h)
theorem Paired.snoc {xs : List α} {ys : List β} {x : α} {y : β} (h : Paired F xs ys) (r : F x y) : Paired F (xs ++ [x]) (ys ++ [y]) := Paired.app h (.cons r .nil)
theorem Paired.tk : ∀ (n : Nat) {xs : List α} {ys : List β}, Paired F xs ys → Paired F (xs.take n) (ys.take n)
  | 0, _, _, _ => by rw [List.take_zero, List.take_zero]; exact .nil
  | _ + 1, _, _, .nil => .nil
  | n + 1, _, _, .cons r t => .cons r (Paired.tk n t)
theorem Paired.dr : ∀ (n : Nat) {xs : List α} {ys : List β}, Paired F xs ys → Paired F (xs.drop n) (ys.drop n)
  | 0, _, _, h => h
  | _ + 1, _, _, .nil => .nil
  | n + 1, _, _, .cons _ t => Paired.dr n t
theorem Paired.cut {xs : List α} {ys : List β} (h : Paired F xs ys) (lo hi : Option Int) : Paired F (cut xs lo hi) (cut ys lo hi) := by
  unfold Z.cut
  rw [Paired.len h]
  exact Paired.tk _ (Paired.dr _ h)
theorem Paired.rev : ∀ {xs : List α} {ys : List β}, Paired F xs ys → Paired F xs.reverse ys.reverse
  | _, _, .nil => .nil
  | _, _, .cons r t => by rw [List.reverse_cons, List.reverse_cons]; exact Paired.snoc (Paired.rev t) r
theorem Paired.at : ∀ {xs : List α} {ys : List β} {i : Nat} {x : α}, Paired F xs ys → xs[i]? = some x → ∃ y, ys[i]? = some y ∧ F x y
  | _, _, _, _, .nil, e => by simp at e
  | _, _, 0, x, .cons r _, e => by simp at e; subst e; exact ⟨_, rfl, r⟩
  | _, _, i + 1, x, .cons _ t, e => by
    obtain ⟨u, h1, h2⟩ := Paired.at (i := i) (x := x) t (by simpa using e)
    exact ⟨u, by simpa using h1, h2⟩
theorem Paired.at' : ∀ {xs : List α} {ys : List β} {i : Nat} {y : β}, Paired F xs ys → ys[i]? = some y → ∃ x, xs[i]? = some x ∧ F x y
  | _, _, _, _, .nil, e => by simp at e
  | _, _, 0, x, .cons r _, e => by simp at e; subst e; exact ⟨_, rfl, r⟩
  | _, _, i + 1, x, .cons _ t, e => by
    obtain ⟨u, h1, h2⟩ := Paired.at' (i := i) (y := x) t (by simpa using e)
    exact ⟨u, by simpa using h1, h2⟩
end

theorem Paired.last {α β : Type} {F : α → β → Prop} {x : α} : ∀ {xs : List α} {ys : List β}, Paired F (xs ++ [x]) ys → ∃ ys' y, ys = ys' ++ [y] ∧ Paired F xs ys' ∧ F x y
  | [], _, .cons r .nil => ⟨[], _, rfl, .nil, r⟩
  | a :: xs, _, .cons r t => by
    obtain ⟨ys', y, e, h, q⟩ := Paired.last (xs := xs) t
    exact ⟨_ :: ys', y, by rw [e]; rfl, .cons r h, q⟩
/-! ## edits -/
structure Ed where
  s : Int
  e : Int
  n : Str
deriving DecidableEq
def EdAt (H : Hp) (v : V) (x : Ed) : Prop := ∃ p, v = .ref p ∧ H p = some (.tup [.int x.s, .int x.e, .str x.n])
abbrev Edits (H : Hp) : List V → List Ed → Prop := Paired (EdAt H)
/-- tuples stay -/
def TpS (H H' : Hp) : Prop := ∀ p xs, H p = some (.tup xs) → H' p = some (.tup xs)
theorem TpS.same {H H' : Hp} (s : Same H H') : TpS H H' := fun _ _ e => s _ _ e
theorem TpS.sl {l : Addr} {H H' : Hp} (s : SL l H H') : TpS H H' := fun _ _ e => s.tup e
theorem TpS.trans {H H1 H2 : Hp} (a : TpS H H1) (b : TpS H1 H2) : TpS H H2 := fun p xs e => b p xs (a p xs e)
theorem EdAt.ts {H H' : Hp} {v : V} {x : Ed} (s : TpS H H') (h : EdAt H v x) : EdAt H' v x := let ⟨p, e, q⟩ := h; ⟨p, e, s _ _ q⟩
theorem Edits.ts {H H' : Hp} {vs : List V} {es : List Ed} (s : TpS H H') (h : Edits H vs es) : Edits H' vs es := Paired.imp (fun _ _ r => r.ts s) h

/-- it fits a text of this size -/
abbrev fit1 (sz : Int) (x : Ed) : Prop := 0 ≤ x.s ∧ x.s ≤ x.e ∧ x.e ≤ sz
/-- the size behind it -/
abbrev nsz (sz : Int) (x : Ed) : Int := sz - (x.e - x.s) + x.n.length
def fits : Int → List Ed → Prop
  | _, [] => True
  | sz, x :: xs => fit1 sz x ∧ fits (nsz sz x) xs
def sza (sz : Int) (es : List Ed) : Int := es.foldl nsz sz
theorem sza_snoc (sz : Int) (es : List Ed) (x : Ed) : sza sz (es ++ [x]) = nsz (sza sz es) x := by
  unfold sza
  rw [List.foldl_append]
  rfl
theorem fits_app : ∀ {sz : Int} {es fs : List Ed}, fits sz (es ++ fs) ↔ fits sz es ∧ fits (sza sz es) fs
  | sz, [], fs => ⟨fun h => ⟨trivial, h⟩, fun h => h.2⟩
  | sz, x :: es, fs => by
    show fit1 sz x ∧ fits (nsz sz x) (es ++ fs) ↔ (fit1 sz x ∧ fits (nsz sz x) es) ∧ fits (sza (nsz sz x) es) fs
    rw [fits_app]
    constructor
    · rintro ⟨a, b, c⟩; exact ⟨⟨a, b⟩, c⟩
    · rintro ⟨⟨a, b⟩, c⟩; exact ⟨a, b, c⟩
theorem fits_snoc {sz : Int} {es : List Ed} {x : Ed} (h : fits sz es) (h1 : fit1 (sza sz es) x) : fits sz (es ++ [x]) := fits_app.mpr ⟨h, h1, trivial⟩
theorem fits_take {sz : Int} {es : List Ed} (h : fits sz es) (k : Nat) : fits sz (es.take k) := by
  have e := List.take_append_drop k es
  rw [← e] at h
  exact (fits_app.mp h).1
/-- the place of the first that does not fit, or -1 -/
def fuAt : Int → List Ed → Nat → Int
  | _, [], _ => -1
  | sz, x :: xs, k => if fit1 sz x then fuAt (nsz sz x) xs (k + 1) else k
def fu (sz : Int) (es : List Ed) : Int := fuAt sz es 0
theorem fuAt_cases : ∀ (es : List Ed) (sz : Int) (k : Nat), (fuAt sz es k = -1 ∧ fits sz es) ∨ ∃ j, j < es.length ∧ fuAt sz es k = ((k + j : Nat) : Int) ∧ fits sz (es.take j) ∧ ¬ fits sz (es.take (j + 1))
  | [], sz, k => .inl ⟨rfl, trivial⟩
  | x :: xs, sz, k => by
    by_cases c : fit1 sz x
    · rcases fuAt_cases xs (nsz sz x) (k + 1) with ⟨h1, h2⟩ | ⟨j, h0, h1, h2, h3⟩
      · exact .inl ⟨by unfold fuAt; rw [if_pos c]; exact h1, c, h2⟩
      · refine .inr ⟨j + 1, by simpa using h0, ?_, ⟨c, h2⟩, fun h => h3 h.2⟩
        unfold fuAt
        rw [if_pos c, h1]
        omega
    · refine .inr ⟨0, by simp, ?_, by rw [List.take_zero]; exact trivial, fun h => c h.1⟩
      unfold fuAt
      rw [if_neg c]
      simp
theorem fu_cases (sz : Int) (es : List Ed) : (fu sz es = -1 ∧ fits sz es) ∨ ∃ j, j < es.length ∧ fu sz es = ((j : Nat) : Int) ∧ fits sz (es.take j) ∧ ¬ fits sz (es.take (j + 1)) := by
  have h := fuAt_cases es sz 0
  simpa [fu] using h
theorem fu_fits {sz : Int} {es : List Ed} (h : fits sz es) : fu sz es = -1 := by
  rcases fu_cases sz es with ⟨h1, _⟩ | ⟨j, _, _, _, h3⟩
  · exact h1
  · exact absurd (fits_take h _) h3
theorem drop_cons {α : Type} {l : List α} {i : Nat} {x : α} (h : l[i]? = some x) : l.drop i = x :: l.drop (i + 1) := by
  obtain ⟨h1, e⟩ := List.getElem?_eq_some_iff.mp h
  rw [List.drop_eq_getElem_cons h1, e]
theorem take_snoc {α : Type} {l : List α} {i : Nat} {x : α} (h : l[i]? = some x) : l.take (i + 1) = l.take i ++ [x] := by
  obtain ⟨h1, e⟩ := List.getElem?_eq_some_iff.mp h
  rw [List.take_add_one, h]
  rfl
/-- one step of the search -/
theorem fu_step {sz z : Int} {es : List Ed} {i : Nat} {x : Ed} (h : es[i]? = some x) (e : fu sz es = fuAt z (es.drop i) i) : fu sz es = if fit1 z x then fuAt (nsz z x) (es.drop (i + 1)) (i + 1) else (i : Int) := by
  rw [e, drop_cons h]
  rfl
theorem fu_end {sz z : Int} {es : List Ed} (e : fu sz es = fuAt z (es.drop es.length) es.length) : fu sz es = -1 := by
  rw [e, List.drop_length]
  rfl

/-! ## texts under edits -/
abbrev Nm (x : Ed) : Prop := x.n.length ≤ 2000 ∧ Ok x.n
def ap (t : Str) (x : Ed) : Str := cutS t none (some x.s) ++ x.n ++ cutS t (some x.e) none
def aps (t : Str) (es : List Ed) : Str := es.foldl ap t
theorem Ok.ap {t : Str} {x : Ed} (h : Ok t) (h' : Ok x.n) : Ok (ap t x) := ((h.cut _ _).app h').app (h.cut _ _)
theorem Ok.aps : ∀ {es : List Ed} {t : Str}, Ok t → (∀ x ∈ es, Ok x.n) → Ok (aps t es)
  | [], _, h, _ => h
  | x :: es, t, h, hn => Ok.aps (es := es) (h.ap (hn x (List.mem_cons_self ..))) fun y hy => hn y (List.mem_cons_of_mem _ hy)
theorem aps_snoc (t : Str) (es : List Ed) (x : Ed) : aps t (es ++ [x]) = ap (aps t es) x := by
  unfold aps
  rw [List.foldl_append]
  rfl
theorem tl_ap {t : Str} {x : Ed} (h : fit1 t.length x) : TL.tl (ap t x) = (TL.tl t).take x.s.toNat ++ TL.tl x.n ++ (TL.tl t).drop x.e.toNat := by
  unfold ap
  rw [TL.tl_append, TL.tl_append, tl_cutS, tl_cutS, cut_to h.1, cut_from (by omega)]
theorem len_ap {t : Str} {x : Ed} (h : fit1 t.length x) : ((ap t x).length : Int) = nsz t.length x := by
  have hl := TL.len_tl t
  rw [TL.len_tl, tl_ap h, List.length_append, List.length_append, List.length_take, List.length_drop, ← TL.len_tl t, ← TL.len_tl x.n]
  unfold nsz
  omega
theorem len_aps : ∀ {es : List Ed} {t : Str}, fits t.length es → ((aps t es).length : Int) = sza t.length es
  | [], _, _ => rfl
  | x :: es, t, h => by
    have e := len_ap h.1
    show ((aps (ap t x) es).length : Int) = sza (nsz t.length x) es
    rw [len_aps (es := es) (t := ap t x) (by rw [e]; exact h.2), e]
/-- what is asked of a list of edits beside: few, and none puts in much -/
structure Small (es : List Ed) : Prop where
  len : es.length ≤ 400
  new : ∀ x ∈ es, Nm x
theorem Small.take {es : List Ed} (h : Small es) (k : Nat) : Small (es.take k) := ⟨by rw [List.length_take]; have := h.len; omega, fun x hx => h.new x (List.mem_of_mem_take hx)⟩
theorem sza_le : ∀ {es : List Ed} {sz : Int}, fits sz es → (∀ x ∈ es, x.n.length ≤ 2000) → sza sz es ≤ sz + 2000 * es.length
  | [], sz, _, _ => by show sz ≤ _; simp
  | x :: es, sz, h, hn => by
    have h1 := sza_le (es := es) h.2 (fun y hy => hn y (List.mem_cons_of_mem _ hy))
    have h2 := hn x (List.mem_cons_self ..)
    have h3 := h.1
    show sza (nsz sz x) es ≤ _
    rw [List.length_cons]
    have : nsz sz x ≤ sz + 2000 := by unfold nsz; omega
    omega
theorem sza_nonneg : ∀ {es : List Ed} {sz : Int}, 0 ≤ sz → fits sz es → 0 ≤ sza sz es
  | [], _, h, _ => h
  | x :: es, sz, h, hf => by
    have h3 := hf.1
    exact sza_nonneg (es := es) (by unfold nsz; omega) hf.2
end Z
namespace Z
open PySem PySem.Spec L2
local macro_rules | `(tactic| walk_at "ne") => `(tactic| first
  | with_reducible assumption
  | with_reducible exact Ne.symm (by assumption)
  | exact Frs.ne (by with_reducible assumption) (by walk_at "hp")
  | exact Frs.ne' (by with_reducible assumption) (by walk_at "hp"))
local macro_rules | `(tactic| walk_at "hp") => `(tactic| first
  | with_reducible assumption
  | (with_reducible refine Same.at (by assumption) ?_; walk_at "hp")
  | (with_reducible refine SL.tup (by assumption) ?_; walk_at "hp")
  | (with_reducible refine SL.at (by assumption) (by walk_at "ne") ?_; walk_at "hp"))
local macro_rules | `(tactic| walk_at "sz") => `(tactic| first
  | with_reducible assumption
  | exact Nat.le_of_ble_eq_true rfl
  | (refine sz_le ?_; omega)
  | (refine sz_lt ?_; omega)
  | decide +kernel)
local macro_rules | `(tactic| walk_at "at") => `(tactic| first
  | with_reducible assumption
  | with_reducible exact at0
  | with_reducible exact at1
  | with_reducible exact at2
  | with_reducible exact ixN0)
local macro_rules | `(tactic| walk_at "nn") => `(tactic| first
  | omega
  | decide
  | exact ⟨by decide, by decide⟩
  | exact ⟨by omega, by omega⟩
  | exact ⟨by omega, by omega, by omega, by omega⟩)
local macro_rules | `(tactic| walk_at "rdv") => `(tactic| first
  | (with_reducible refine add_int ?_)
  | (with_reducible refine sub_int ?_)
  | (with_reducible refine neg_int ?_)
  | ((with_reducible refine ix_tpl (xs := ?xs) (v := ?v) ?h1 ?h2 ?_); (case h1 => walk_at "hp"); (case h2 => walk_at "at"))
  | ((with_reducible refine ix_lst (xs := ?xs) (v := ?v) ?h1 ?h2 ?_); (case h1 => walk_at "hp"); (case h2 => walk_at "at"))
  | (with_reducible refine eq_int ?_)
  | (with_reducible refine ne_int ?_)
  | (with_reducible refine lt_int ?_)
  | (with_reducible refine le_int ?_)
  | (with_reducible refine gt_int ?_)
  | (with_reducible refine ge_int ?_)
  | (with_reducible refine eq_str ?_)
  | (with_reducible refine ne_str ?_)
  | (with_reducible refine eq_bl ?_)
  | (with_reducible refine ne_bl ?_)
  | ((with_reducible refine mod_int ?hc ?_); (case hc => walk_at "nn"))
  | ((with_reducible refine div_int ?hc ?_); (case hc => walk_at "nn"))
  | ((with_reducible refine mul_intR ?hc ?_); (case hc => exact ⟨by decide, by decide⟩))
  | ((with_reducible refine mul_intR ?hc ?_); (case hc => exact ⟨by omega, by omega⟩))
  | ((with_reducible refine mul_intL ?hc ?_); (case hc => exact ⟨by omega, by omega⟩))
  | ((with_reducible refine pow_int ?hc ?_); (case hc => exact ⟨by decide, by decide, by decide⟩))
  | ((with_reducible refine add_str ?hc ?_); (case hc => walk_at "sz"))
  | ((with_reducible refine add_lst (xs := ?xs) (ys := ?ys) ?h1 ?h2 ?hc ?_); (case h1 => walk_at "hp"); (case h2 => walk_at "hp"); (case hc => walk_at "sz"))
  | ((with_reducible refine sl_strU ?hc ?_); (case hc => walk_at "sz"))
  | ((with_reducible refine sl_lst (xs := ?xs) ?h1 ?_); (case h1 => walk_at "hp"))
  | (with_reducible refine is_bl ?_)
  | (with_reducible refine isnt_bl ?_)
  | (with_reducible refine is_non ?_)
  | (with_reducible refine isnt_non ?_))
local macro_rules | `(tactic| walk_at "rdc") => `(tactic| first
  | ((with_reducible refine len_lst (xs := ?xs) ?h1 ?_); (case h1 => walk_at "hp"))
  | ((with_reducible refine len_tup (xs := ?xs) ?h1 ?_); (case h1 => walk_at "hp"))
  | ((with_reducible refine len_str ?hc ?_); (case hc => walk_at "sz"))
  | (with_reducible refine int_int ?_)
  | (with_reducible refine max_int ?_)
  | (with_reducible refine min_int ?_)
  | (with_reducible refine abs_int ?_)
  | (with_reducible refine isi_ii ?_)
  | (with_reducible refine isi_ib ?_)
  | (with_reducible refine isi_ss ?_)
  | (with_reducible refine isi_bb ?_)
  | ((with_reducible refine isi_tt (xs := ?xs) ?h1 ?_); (case h1 => walk_at "hp"))
  | ((with_reducible refine isi_ll (xs := ?xs) ?h1 ?_); (case h1 => walk_at "hp"))
  | ((with_reducible refine list_lst (xs := ?xs) ?h1 ?_); (case h1 => walk_at "hp"))
  | ((with_reducible refine list_tup (xs := ?xs) ?h1 ?_); (case h1 => walk_at "hp"))
  | ((with_reducible refine tuple_lst (xs := ?xs) ?h1 ?_); (case h1 => walk_at "hp"))
  | ((with_reducible refine tuple_tup (xs := ?xs) ?h1 ?_); (case h1 => walk_at "hp"))
  | ((with_reducible refine append_lst (xs := ?xs) ?h1 ?hc ?_); (case h1 => walk_at "hp"); (case hc => walk_at "sz"))
  | ((with_reducible refine clear_lst (xs := ?xs) ?h1 ?_); (case h1 => walk_at "hp"))
  | ((with_reducible refine set_lst (xs := ?xs) (k := ?k) ?h1 ?h2 ?_); (case h1 => walk_at "hp"); (case h2 => walk_at "at")))
local macro_rules | `(tactic| walk_at "rd1") => `(tactic| first
  | ((with_reducible refine rVar (v := ?v) ?h ?_); (case h => exact rfl))
  | (with_reducible refine rC ?_)
  | (with_reducible refine rCons ?_)
  | (with_reducible refine rNil ?_)
  | (with_reducible refine rOp ?_)
  | (with_reducible refine rSeq ?_)
  | (with_reducible refine rAsgN ?_)
  | (with_reducible refine rAsgT ?_)
  | (with_reducible refine rAsgS ?_)
  | (with_reducible refine rTest ?_)
  | (with_reducible refine rBl ?_)
  | (with_reducible refine rBl' ?_)
  | (with_reducible refine rInt ?_)
  | (with_reducible refine rInt' ?_)
  | (with_reducible refine rCall ?_)
  | (with_reducible refine rCB ?_)
  | (with_reducible refine rRet ?_)
  | (with_reducible refine rDrop ?_)
  | (with_reducible refine rIfS ?_)
  | (with_reducible refine rTup ?_)
  | (with_reducible refine rLst ?_)
  | (with_reducible refine ⟨Nat.le_of_ble_eq_true rfl, ?_⟩)
  | (with_reducible refine rSl ?_)
  | (with_reducible refine rPart ?_)
  | (with_reducible refine rNoPart ?_)
  | (with_reducible refine rBM ?_)
  | (with_reducible refine rBM0 ?_)
  | ((with_reducible refine tyL (xs := ?xs) ?h1 ?_); (case h1 => walk_at "hp"))
  | (with_reducible refine rM1 ?_)
  | (with_reducible refine rM0 ?_)
  | (with_reducible refine rStr ?_)
  | (with_reducible refine rTru ?_)
  | (with_reducible refine tru_bl ?_)
  | (with_reducible refine tru_int ?_)
  | ((with_reducible refine tru_lst (xs := ?xs) ?h1 ?_); (case h1 => walk_at "hp"))
  | ((with_reducible refine tru_tup (xs := ?xs) ?h1 ?_); (case h1 => walk_at "hp"))
  | ((with_reducible refine tru_str ?hc ?_); (case hc => walk_at "sz"))
  | (with_reducible refine rAnd ?_)
  | (with_reducible refine rOr ?_)
  | (with_reducible refine rNot ?_)
  | (with_reducible refine rAndV ?_)
  | (with_reducible refine rOrV ?_)
  | (with_reducible refine rNotV ?_)
  | (with_reducible refine rIfE ?_)
  | (with_reducible refine rChain ?_)
  | (with_reducible refine rChain3 ?_)
  | (with_reducible refine ifT ?_)
  | (with_reducible refine ifF ?_)
  | (with_reducible refine ifNF ?_)
  | (with_reducible refine ifNT ?_)
  | (with_reducible refine rNext ?_)
  | (with_reducible refine rBrk ?_)
  | (with_reducible refine rCnt ?_)
  | (with_reducible refine rRetN ?_)
  | (with_reducible refine rForR1 ?_)
  | (with_reducible refine rForR2 ?_)
  | (with_reducible refine rForL ?_)
  | ((with_reducible refine rRg1 ?hb ?_); (case hb => walk_at "nn"))
  | ((with_reducible refine rRg2 ?hb ?_); (case hb => walk_at "nn"))
  | ((with_reducible refine rRf (xs := ?xs) ?h1 ?_); (case h1 => walk_at "hp"))
  | (with_reducible refine rLcR1 ?_)
  | (with_reducible refine rLcR2 ?_)
  | (with_reducible refine rLcL ?_)
  | (with_reducible refine gN ?_)
  | (with_reducible refine gNl ?_)
  | (with_reducible refine gC ?_)
  | ((with_reducible refine gT (xs := ?xs) ?h1 ?h2 ?_); (case h1 => walk_at "hp"); (case h2 => exact rfl))
  | (with_reducible refine rUn ?_)
  | walk_at "rdv"
  | walk_at "rdc")
local macro_rules | `(tactic| walk_at "rd") => `(tactic| repeat walk_at "rd1")

/-- a list of edits, as it comes of a def -/
def sp_law_edit_row : Sp := fun vs H Q _ => ∃ (r : Addr) (t : Str) (n : Int), vs = [.ref r, .str t, .int n] ∧ Reel H r ∧ t.length ≤ 5000 ∧ Ok t ∧ 0 ≤ n ∧ n ≤ 300 ∧
  ∀ (p : Addr) (us : List V) (es : List Ed) (H' : Hp), SL r H H' → Reel H' r → Frs H p → H' p = some (.lst us) → Edits H' us es → es.length = n.toNat → (∀ x ∈ es, Nm x) → fits t.length es → sza t.length es ≤ 5000 → (∀ k, sza t.length (es.take k) ≤ 5000) → Q (.ref p) H'
theorem use_edit_row {r : Addr} {t : Str} {n : Int} {H : Hp} {Q : VK} {E : XK} (hR : Reel H r) (ht : t.length ≤ 5000 ∧ Ok t) (hn : 0 ≤ n ∧ n ≤ 300)
    (h : ∀ (p : Addr) (us : List V) (es : List Ed) (H' : Hp), SL r H H' → Reel H' r → Frs H p → H' p = some (.lst us) → Edits H' us es → es.length = n.toNat → (∀ x ∈ es, Nm x) → fits t.length es → sza t.length es ≤ 5000 → Q (.ref p) H') :
    sp_law_edit_row [.ref r, .str t, .int n] H Q E := ⟨r, t, n, rfl, hR, ht.1, ht.2, hn.1, hn.2, fun p us es H' h1 h2 h3 h4 h5 h6 h7 h8 h9 _ => h p us es H' h1 h2 h3 h4 h5 h6 h7 h8 h9⟩
theorem use_edit_rowK {r : Addr} {t : Str} {n : Int} {H : Hp} {Q : VK} {E : XK} (hR : Reel H r) (ht : t.length ≤ 5000 ∧ Ok t) (hn : 0 ≤ n ∧ n ≤ 300)
    (h : ∀ (p : Addr) (us : List V) (es : List Ed) (H' : Hp), SL r H H' → Reel H' r → Frs H p → H' p = some (.lst us) → Edits H' us es → es.length = n.toNat → (∀ x ∈ es, Nm x) → fits t.length es → (∀ k, sza t.length (es.take k) ≤ 5000) → Q (.ref p) H') :
    sp_law_edit_row [.ref r, .str t, .int n] H Q E := ⟨r, t, n, rfl, hR, ht.1, ht.2, hn.1, hn.2, fun p us es H' h1 h2 h3 h4 h5 h6 h7 h8 _ h9 => h p us es H' h1 h2 h3 h4 h5 h6 h7 h8 h9⟩
section
variable {P : Program} {w : World} {K : PySem.W.Frag} {mg : Str → Option Value} {base : Heap}
end
end Z
namespace Z
open PySem PySem.Spec L2
/-! ## planted edits do not fit -/
/-- the list begins as es, up to an edit that does not fit there -/
def Spoilt (sz : Int) (es es' : List Ed) : Prop := ∃ (j : Nat) (x : Ed), es'.take j = es.take j ∧ es'[j]? = some x ∧ ¬ fit1 (sza sz (es.take j)) x
theorem Spoilt.unfit {sz : Int} {es es' : List Ed} (h : Spoilt sz es es') : ¬ fits sz es' := fun hf => by
  obtain ⟨j, x, h1, h2, h3⟩ := h
  have h4 := fits_take hf (j + 1)
  rw [take_snoc h2, h1] at h4
  exact h3 (fits_app.mp h4).2.1
theorem Spoilt.pre {sz : Int} {es es' : List Ed} (h : Spoilt sz es es') {k : Nat} (hf : fits sz (es'.take k)) : es'.take k = es.take k := by
  obtain ⟨j, x, h1, h2, h3⟩ := h
  by_cases c : k ≤ j
  · have := congrArg (List.take k) h1
    rw [List.take_take, List.take_take, Nat.min_eq_left c] at this
    exact this
  · refine absurd ?_ h3
    have h4 := fits_take hf (j + 1)
    rw [List.take_take, Nat.min_eq_left (by omega), take_snoc h2, h1] at h4
    exact (fits_app.mp h4).2.1
theorem spoil {sz : Int} {es es' : List Ed} {d : Nat} {x : Ed} (h : es' = es ∧ d ≤ es.length ∨ Spoilt sz es es') (hx : ¬ fit1 (sza sz (es.take d)) x) : Spoilt sz es (es'.take d ++ [x] ++ es'.drop (d + 1)) := by
  have here : es'.take d = es.take d → (es'.take d).length = d → Spoilt sz es (es'.take d ++ [x] ++ es'.drop (d + 1)) := fun e l => by
    refine ⟨d, x, ?_, ?_, hx⟩
    · rw [List.append_assoc, List.take_left' l, e]
    · rw [List.append_assoc, List.getElem?_append_right (by omega), l, Nat.sub_self]
      rfl
  rcases h with ⟨rfl, hd⟩ | ⟨j, y, h1, h2, h3⟩
  · exact here rfl (by rw [List.length_take]; omega)
  · have hj := (List.getElem?_eq_some_iff.mp h2).1
    by_cases c : d ≤ j
    · refine here ?_ (by rw [List.length_take]; omega)
      have := congrArg (List.take d) h1
      rw [List.take_take, List.take_take, Nat.min_eq_left c] at this
      exact this
    · have l : j < (es'.take d).length := by rw [List.length_take]; omega
      refine ⟨j, y, ?_, ?_, h3⟩
      · rw [List.append_assoc, List.take_append_of_le_length (by omega), List.take_take, Nat.min_eq_left (by omega)]
        exact h1
      · rw [List.append_assoc, List.getElem?_append_left l, List.getElem?_take_of_lt (by omega)]
        exact h2
/-- the sizes ahead of each edit, and behind the last -/
def szs (sz : Int) (es : List Ed) (i : Nat) : List Int := (List.range (i + 1)).map fun j => sza sz (es.take j)
theorem szs_snoc (sz : Int) (es : List Ed) (i : Nat) : szs sz es (i + 1) = szs sz es i ++ [sza sz (es.take (i + 1))] := by
  unfold szs
  rw [List.range_succ, List.map_append]
  rfl
theorem szs_at {sz : Int} {es : List Ed} {i j : Nat} {n : Int} (h : (szs sz es i)[j]? = some n) : j ≤ i ∧ n = sza sz (es.take j) := by
  unfold szs at h
  rw [List.getElem?_map] at h
  by_cases c : j < i + 1
  · rw [List.getElem?_range c] at h
    exact ⟨by omega, (Option.some.inj h).symm⟩
  · rw [List.getElem?_eq_none (by rw [List.length_range]; omega)] at h
    cases h
end Z
namespace Z
open PySem PySem.Spec L2
local macro_rules | `(tactic| walk_at "ne") => `(tactic| first
  | with_reducible assumption
  | with_reducible exact Ne.symm (by assumption)
  | exact Frs.ne (by with_reducible assumption) (by walk_at "hp")
  | exact Frs.ne' (by with_reducible assumption) (by walk_at "hp"))
local macro_rules | `(tactic| walk_at "hp") => `(tactic| first
  | with_reducible assumption
  | (with_reducible refine Same.at (by assumption) ?_; walk_at "hp")
  | (with_reducible refine SL.tup (by assumption) ?_; walk_at "hp")
  | (with_reducible refine SL.at (by assumption) (by walk_at "ne") ?_; walk_at "hp"))
local macro_rules | `(tactic| walk_at "sz") => `(tactic| first
  | with_reducible assumption
  | exact Nat.le_of_ble_eq_true rfl
  | (refine sz_le ?_; omega)
  | (refine sz_lt ?_; omega)
  | decide +kernel)
local macro_rules | `(tactic| walk_at "at") => `(tactic| first
  | with_reducible assumption
  | with_reducible exact at0
  | with_reducible exact at1
  | with_reducible exact at2
  | with_reducible exact ixN0)
local macro_rules | `(tactic| walk_at "nn") => `(tactic| first
  | omega
  | decide
  | exact ⟨by decide, by decide⟩
  | exact ⟨by omega, by omega⟩
  | exact ⟨by omega, by omega, by omega, by omega⟩)
local macro_rules | `(tactic| walk_at "rdv") => `(tactic| first
  | (with_reducible refine add_int ?_)
  | (with_reducible refine sub_int ?_)
  | (with_reducible refine neg_int ?_)
  | ((with_reducible refine ix_tpl (xs := ?xs) (v := ?v) ?h1 ?h2 ?_); (case h1 => walk_at "hp"); (case h2 => walk_at "at"))
  | ((with_reducible refine ix_lst (xs := ?xs) (v := ?v) ?h1 ?h2 ?_); (case h1 => walk_at "hp"); (case h2 => walk_at "at"))
  | (with_reducible refine eq_int ?_)
  | (with_reducible refine ne_int ?_)
  | (with_reducible refine lt_int ?_)
  | (with_reducible refine le_int ?_)
  | (with_reducible refine gt_int ?_)
  | (with_reducible refine ge_int ?_)
  | (with_reducible refine eq_str ?_)
  | (with_reducible refine ne_str ?_)
  | (with_reducible refine eq_bl ?_)
  | (with_reducible refine ne_bl ?_)
  | ((with_reducible refine mod_int ?hc ?_); (case hc => walk_at "nn"))
  | ((with_reducible refine div_int ?hc ?_); (case hc => walk_at "nn"))
  | ((with_reducible refine mul_intR ?hc ?_); (case hc => exact ⟨by decide, by decide⟩))
  | ((with_reducible refine mul_intR ?hc ?_); (case hc => exact ⟨by omega, by omega⟩))
  | ((with_reducible refine mul_intL ?hc ?_); (case hc => exact ⟨by omega, by omega⟩))
  | ((with_reducible refine pow_int ?hc ?_); (case hc => exact ⟨by decide, by decide, by decide⟩))
  | ((with_reducible refine add_str ?hc ?_); (case hc => walk_at "sz"))
  | ((with_reducible refine add_lst (xs := ?xs) (ys := ?ys) ?h1 ?h2 ?hc ?_); (case h1 => walk_at "hp"); (case h2 => walk_at "hp"); (case hc => walk_at "sz"))
  | ((with_reducible refine sl_strU ?hc ?_); (case hc => walk_at "sz"))
  | ((with_reducible refine sl_lst (xs := ?xs) ?h1 ?_); (case h1 => walk_at "hp"))
  | (with_reducible refine is_bl ?_)
  | (with_reducible refine isnt_bl ?_)
  | (with_reducible refine is_non ?_)
  | (with_reducible refine isnt_non ?_))
local macro_rules | `(tactic| walk_at "rdc") => `(tactic| first
  | ((with_reducible refine len_lst (xs := ?xs) ?h1 ?_); (case h1 => walk_at "hp"))
  | ((with_reducible refine len_tup (xs := ?xs) ?h1 ?_); (case h1 => walk_at "hp"))
  | ((with_reducible refine len_str ?hc ?_); (case hc => walk_at "sz"))
  | (with_reducible refine int_int ?_)
  | (with_reducible refine max_int ?_)
  | (with_reducible refine min_int ?_)
  | (with_reducible refine abs_int ?_)
  | (with_reducible refine isi_ii ?_)
  | (with_reducible refine isi_ib ?_)
  | (with_reducible refine isi_ss ?_)
  | (with_reducible refine isi_bb ?_)
  | ((with_reducible refine isi_tt (xs := ?xs) ?h1 ?_); (case h1 => walk_at "hp"))
  | ((with_reducible refine isi_ll (xs := ?xs) ?h1 ?_); (case h1 => walk_at "hp"))
  | ((with_reducible refine list_lst (xs := ?xs) ?h1 ?_); (case h1 => walk_at "hp"))
  | ((with_reducible refine list_tup (xs := ?xs) ?h1 ?_); (case h1 => walk_at "hp"))
  | ((with_reducible refine tuple_lst (xs := ?xs) ?h1 ?_); (case h1 => walk_at "hp"))
  | ((with_reducible refine tuple_tup (xs := ?xs) ?h1 ?_); (case h1 => walk_at "hp"))
  | ((with_reducible refine append_lst (xs := ?xs) ?h1 ?hc ?_); (case h1 => walk_at "hp"); (case hc => walk_at "sz"))
  | ((with_reducible refine clear_lst (xs := ?xs) ?h1 ?_); (case h1 => walk_at "hp"))
  | ((with_reducible refine set_lst (xs := ?xs) (k := ?k) ?h1 ?h2 ?_); (case h1 => walk_at "hp"); (case h2 => walk_at "at")))
local macro_rules | `(tactic| walk_at "rd1") => `(tactic| first
  | ((with_reducible refine rVar (v := ?v) ?h ?_); (case h => exact rfl))
  | (with_reducible refine rC ?_)
  | (with_reducible refine rCons ?_)
  | (with_reducible refine rNil ?_)
  | (with_reducible refine rOp ?_)
  | (with_reducible refine rSeq ?_)
  | (with_reducible refine rAsgN ?_)
  | (with_reducible refine rAsgT ?_)
  | (with_reducible refine rAsgS ?_)
  | (with_reducible refine rTest ?_)
  | (with_reducible refine rBl ?_)
  | (with_reducible refine rBl' ?_)
  | (with_reducible refine rInt ?_)
  | (with_reducible refine rInt' ?_)
  | (with_reducible refine rCall ?_)
  | (with_reducible refine rCB ?_)
  | (with_reducible refine rRet ?_)
  | (with_reducible refine rDrop ?_)
  | (with_reducible refine rIfS ?_)
  | (with_reducible refine rTup ?_)
  | (with_reducible refine rLst ?_)
  | (with_reducible refine ⟨Nat.le_of_ble_eq_true rfl, ?_⟩)
  | (with_reducible refine rSl ?_)
  | (with_reducible refine rPart ?_)
  | (with_reducible refine rNoPart ?_)
  | (with_reducible refine rBM ?_)
  | (with_reducible refine rBM0 ?_)
  | ((with_reducible refine tyL (xs := ?xs) ?h1 ?_); (case h1 => walk_at "hp"))
  | (with_reducible refine rM1 ?_)
  | (with_reducible refine rM0 ?_)
  | (with_reducible refine rStr ?_)
  | (with_reducible refine rTru ?_)
  | (with_reducible refine tru_bl ?_)
  | (with_reducible refine tru_int ?_)
  | ((with_reducible refine tru_lst (xs := ?xs) ?h1 ?_); (case h1 => walk_at "hp"))
  | ((with_reducible refine tru_tup (xs := ?xs) ?h1 ?_); (case h1 => walk_at "hp"))
  | ((with_reducible refine tru_str ?hc ?_); (case hc => walk_at "sz"))
  | (with_reducible refine rAnd ?_)
  | (with_reducible refine rOr ?_)
  | (with_reducible refine rNot ?_)
  | (with_reducible refine rAndV ?_)
  | (with_reducible refine rOrV ?_)
  | (with_reducible refine rNotV ?_)
  | (with_reducible refine rIfE ?_)
  | (with_reducible refine rChain ?_)
  | (with_reducible refine rChain3 ?_)
  | (with_reducible refine ifT ?_)
  | (with_reducible refine ifF ?_)
  | (with_reducible refine ifNF ?_)
  | (with_reducible refine ifNT ?_)
  | (with_reducible refine rNext ?_)
  | (with_reducible refine rBrk ?_)
  | (with_reducible refine rCnt ?_)
  | (with_reducible refine rRetN ?_)
  | (with_reducible refine rForR1 ?_)
  | (with_reducible refine rForR2 ?_)
  | (with_reducible refine rForL ?_)
  | ((with_reducible refine rRg1 ?hb ?_); (case hb => walk_at "nn"))
  | ((with_reducible refine rRg2 ?hb ?_); (case hb => walk_at "nn"))
  | ((with_reducible refine rRf (xs := ?xs) ?h1 ?_); (case h1 => walk_at "hp"))
  | (with_reducible refine rLcR1 ?_)
  | (with_reducible refine rLcR2 ?_)
  | (with_reducible refine rLcL ?_)
  | (with_reducible refine gN ?_)
  | (with_reducible refine gNl ?_)
  | (with_reducible refine gC ?_)
  | ((with_reducible refine gT (xs := ?xs) ?h1 ?h2 ?_); (case h1 => walk_at "hp"); (case h2 => exact rfl))
  | (with_reducible refine rUn ?_)
  | walk_at "rdv"
  | walk_at "rdc")
local macro_rules | `(tactic| walk_at "rd") => `(tactic| repeat walk_at "rd1")

def sp_law_number : Sp := fun vs H Q _ => ∃ i : Int, vs = [.int i] ∧ Q (.bl true) H
theorem use_number {i : Int} {H : Hp} {Q : VK} {E : XK} (h : Q (.bl true) H) : sp_law_number [.int i] H Q E := ⟨i, rfl, h⟩
def sp_law_unfit : Sp := fun vs H Q _ => ∃ (r : Addr) (n : Int), vs = [.ref r, .int n] ∧ Reel H r ∧ 0 ≤ n ∧
  ∀ (p : Addr) (a b : Int) (x : Str) (H' : Hp), ¬ fit1 n ⟨a, b, x⟩ → x.length ≤ 2 → Ok x → SL r H H' → Reel H' r → H' p = some (.tup [.int a, .int b, .str x]) → Q (.ref p) H'
theorem use_unfit {r : Addr} {n : Int} {H : Hp} {Q : VK} {E : XK} (hR : Reel H r) (hn : 0 ≤ n)
    (h : ∀ (p : Addr) (a b : Int) (x : Str) (H' : Hp), ¬ fit1 n ⟨a, b, x⟩ → x.length ≤ 2 → Ok x → SL r H H' → Reel H' r → H' p = some (.tup [.int a, .int b, .str x]) → Q (.ref p) H') : sp_law_unfit [.ref r, .int n] H Q E := ⟨r, n, rfl, hR, hn, h⟩
def sp_law_planted : Sp := fun vs H Q _ => ∃ (r p : Addr) (t : Str) (us : List V) (es : List Ed) (m : Int), vs = [.ref r, .str t, .ref p, .int m] ∧ Reel H r ∧ p ≠ r ∧ t.length ≤ 5000 ∧ H p = some (.lst us) ∧ Edits H us es ∧ fits t.length es ∧ es.length ≤ 300 ∧ (∀ x ∈ es, Nm x) ∧ 0 ≤ m ∧ m ≤ 10 ∧
  ∀ (q : Addr) (us' : List V) (es' : List Ed) (H' : Hp), SL r H H' → Reel H' r → Frs H q → H' q = some (.lst us') → Edits H' us' es' → Small es' → (0 < m → ¬ fits t.length es') → (∀ k, fits t.length (es'.take k) → es'.take k = es.take k) → Q (.ref q) H'
section
variable {P : Program} {w : World} {K : PySem.W.Frag} {mg : Str → Option Value} {base : Heap}
end
end Z
namespace Z
open PySem PySem.Spec L2
/-! ## edits as data -/
def edD (x : Ed) : PyData := .tuple [.int x.s, .int x.e, .str x.n]
theorem edD_shaped {x : Ed} (h : Ok x.n) : SeqAt.shaped (edD x) = true := by
  unfold edD SeqAt.shaped
  simp [PyData.canLay0, PyData.canLayAll0, PyData.depth, PyData.depthAll, h.strOk]
theorem edD_eqv (x y : Ed) : PyData.eqv (edD x) (edD y) = decide (x = y) := by
  obtain ⟨a, b, c⟩ := x
  obtain ⟨a', b', c'⟩ := y
  show (a == a' && (b == b' && (c == c' && true))) = decide ((⟨a, b, c⟩ : Ed) = ⟨a', b', c'⟩)
  by_cases h : (⟨a, b, c⟩ : Ed) = ⟨a', b', c'⟩
  · rw [decide_eq_true h]
    injection h with h1 h2 h3
    subst h1 h2 h3
    simp
  · rw [decide_eq_false h]
    cases hb : (a == a' && (b == b' && (c == c' && true))) with
    | false => rfl
    | true =>
      simp only [Bool.and_eq_true, beq_iff_eq, and_true] at hb
      obtain ⟨h1, h2, h3⟩ := hb
      subst h1 h2 h3
      exact absurd rfl h
theorem ed_dp {K : PySem.W.Frag} {H : Hp} {v : V} {x : Ed} (h : EdAt H v x) : Dp K H v (edD x) := by
  obtain ⟨p, rfl, e⟩ := h
  exact .tup (SqT.of e) (.cons (.int _) (.cons (.int _) (.cons (.str _) .nil)))
/-! ## inverse lists -/
def inv1 (t : Str) (x : Ed) : Ed := ⟨x.s, x.s + x.n.length, cutS t (some x.s) (some x.e)⟩
def bks : Str → List Ed → List Ed
  | _, [] => []
  | t, x :: es => bks (ap t x) es ++ [inv1 t x]
theorem bks_snoc : ∀ (es : List Ed) (t : Str) (x : Ed), bks t (es ++ [x]) = inv1 (aps t es) x :: bks t es
  | [], t, x => rfl
  | y :: es, t, x => by
    show bks (ap t y) (es ++ [x]) ++ [inv1 t y] = inv1 (aps (ap t y) es) x :: (bks (ap t y) es ++ [inv1 t y])
    rw [bks_snoc es (ap t y) x]
    rfl
theorem bks_len : ∀ (es : List Ed) (t : Str), (bks t es).length = es.length
  | [], _ => rfl
  | y :: es, t => by
    show (bks (ap t y) es ++ [inv1 t y]).length = _
    rw [List.length_append, bks_len es]
    rfl
theorem tl_inv1 {t : Str} {x : Ed} (h : fit1 t.length x) : TL.tl (inv1 t x).n = ((TL.tl t).take x.e.toNat).drop x.s.toNat := by
  unfold inv1
  show TL.tl (cutS t (some x.s) (some x.e)) = _
  rw [tl_cutS, cut_mid h.1 (by omega)]
theorem len_inv1 {t : Str} {x : Ed} (h : fit1 t.length x) : ((inv1 t x).n.length : Int) = x.e - x.s := by
  have hl := TL.len_tl t
  rw [TL.len_tl, tl_inv1 h, List.length_drop, List.length_take, ← hl]
  omega
/-- the inverse fits, and leads back -/
theorem inv1_fit {t : Str} {x : Ed} (h : fit1 t.length x) : fit1 (ap t x).length (inv1 t x) := by
  have e := len_ap h
  show 0 ≤ x.s ∧ x.s ≤ x.s + x.n.length ∧ x.s + x.n.length ≤ (ap t x).length
  rw [e]
  unfold nsz
  omega
theorem split3 (l : List Nat) {a b : Nat} (h : a ≤ b) (h2 : b ≤ l.length) : l.take a ++ (l.take b).drop a ++ l.drop b = l := by
  have e : l.take a = (l.take b).take a := by rw [List.take_take, Nat.min_eq_left h]
  rw [e, List.take_append_drop, List.take_append_drop]
theorem ap_inv1 {t : Str} {x : Ed} (h : fit1 t.length x) : ap (ap t x) (inv1 t x) = t := by
  have hl := TL.len_tl t
  have hn := TL.len_tl x.n
  refine TL.ext_tl ?_
  rw [tl_ap (inv1_fit h), tl_inv1 h, tl_ap h]
  show ((TL.tl t).take x.s.toNat ++ TL.tl x.n ++ (TL.tl t).drop x.e.toNat).take x.s.toNat ++ ((TL.tl t).take x.e.toNat).drop x.s.toNat ++ ((TL.tl t).take x.s.toNat ++ TL.tl x.n ++ (TL.tl t).drop x.e.toNat).drop (x.s + x.n.length).toNat = TL.tl t
  have h1 : ((TL.tl t).take x.s.toNat).length = x.s.toNat := by rw [List.length_take]; omega
  have e1 : ((TL.tl t).take x.s.toNat ++ TL.tl x.n ++ (TL.tl t).drop x.e.toNat).take x.s.toNat = (TL.tl t).take x.s.toNat := by
    rw [List.append_assoc]
    exact List.take_left' h1
  have e2 : ((TL.tl t).take x.s.toNat ++ TL.tl x.n ++ (TL.tl t).drop x.e.toNat).drop (x.s + x.n.length).toNat = (TL.tl t).drop x.e.toNat :=
    List.drop_left' (by rw [List.length_append, h1, ← hn]; omega)
  rw [e1, e2]
  exact split3 _ (by omega) (by omega)
theorem inv1_inv1 {t : Str} {x : Ed} (h : fit1 t.length x) : inv1 (ap t x) (inv1 t x) = x := by
  have hl := TL.len_tl t
  have hn := TL.len_tl x.n
  have e1 : x.s + ((inv1 t x).n.length : Int) = x.e := by rw [len_inv1 h]; omega
  have h1 : ((TL.tl t).take x.s.toNat).length = x.s.toNat := by rw [List.length_take]; omega
  have e2 : cutS (ap t x) (some x.s) (some (x.s + x.n.length)) = x.n := by
    refine TL.ext_tl ?_
    rw [tl_cutS, cut_mid h.1 (by omega), tl_ap h]
    have e3 : ((TL.tl t).take x.s.toNat ++ TL.tl x.n ++ (TL.tl t).drop x.e.toNat).take (x.s + x.n.length).toNat = (TL.tl t).take x.s.toNat ++ TL.tl x.n :=
      List.take_left' (by rw [List.length_append, h1, ← hn]; omega)
    rw [e3]
    exact List.drop_left' h1
  show (⟨x.s, x.s + ((inv1 t x).n.length : Int), cutS (ap t x) (some x.s) (some (x.s + x.n.length))⟩ : Ed) = x
  rw [e1, e2]
theorem bks_fits : ∀ (es : List Ed) (t : Str), fits t.length es → fits (aps t es).length (bks t es) ∧ aps (aps t es) (bks t es) = t
  | [], _, _ => ⟨trivial, rfl⟩
  | x :: es, t, h => by
    have hx : fits (ap t x).length es := by rw [len_ap h.1]; exact h.2
    obtain ⟨f1, f2⟩ := bks_fits es (ap t x) hx
    have hs : sza (aps (ap t x) es).length (bks (ap t x) es) = (ap t x).length := by rw [← len_aps f1, f2]
    refine ⟨fits_snoc f1 ?_, ?_⟩
    · show fit1 (sza (aps (ap t x) es).length (bks (ap t x) es)) (inv1 t x)
      rw [hs]
      exact inv1_fit h.1
    · show aps (aps (ap t x) es) (bks (ap t x) es ++ [inv1 t x]) = t
      rw [aps_snoc, f2, ap_inv1 h.1]
theorem bks_app : ∀ (fs gs : List Ed) (t : Str), bks t (fs ++ gs) = bks (aps t fs) gs ++ bks t fs
  | [], gs, t => by show bks t gs = bks t gs ++ []; rw [List.append_nil]
  | x :: fs, gs, t => by
    show bks (ap t x) (fs ++ gs) ++ [inv1 t x] = bks (aps (ap t x) fs) gs ++ (bks (ap t x) fs ++ [inv1 t x])
    rw [bks_app fs gs (ap t x), List.append_assoc]
theorem aps_app (t : Str) (fs gs : List Ed) : aps t (fs ++ gs) = aps (aps t fs) gs := by
  unfold aps
  rw [List.foldl_append]
/-- the first k of the inverse list lead back over the last k -/
theorem bks_take {t : Str} {es : List Ed} (h : fits t.length es) {k : Nat} (hk : k ≤ es.length) : aps (aps t es) ((bks t es).take k) = aps t (es.take (es.length - k)) := by
  have e := List.take_append_drop (es.length - k) es
  have hf : fits t.length (es.take (es.length - k) ++ es.drop (es.length - k)) := by rw [e]; exact h
  obtain ⟨h1, h2⟩ := fits_app.mp hf
  have h3 : fits (aps t (es.take (es.length - k))).length (es.drop (es.length - k)) := by rw [len_aps h1]; exact h2
  have hl : (bks (aps t (es.take (es.length - k))) (es.drop (es.length - k))).length = k := by rw [bks_len, List.length_drop]; omega
  have e1 : (bks t es).take k = bks (aps t (es.take (es.length - k))) (es.drop (es.length - k)) := by
    have := bks_app (es.take (es.length - k)) (es.drop (es.length - k)) t
    rw [e] at this
    rw [this]
    exact List.take_left' hl
  have e2 : aps t es = aps (aps t (es.take (es.length - k))) (es.drop (es.length - k)) := by rw [← aps_app, e]
  rw [e1, e2]
  exact (bks_fits _ _ h3).2
/-- the inverse of the inverse is the list -/
theorem bks_bks : ∀ {es : List Ed} {t : Str}, fits t.length es → bks (aps t es) (bks t es) = es
  | [], _, _ => rfl
  | x :: es, t, h => by
    have hx : fits (ap t x).length es := by rw [len_ap h.1]; exact h.2
    obtain ⟨f1, f2⟩ := bks_fits es (ap t x) hx
    show bks (aps (ap t x) es) (bks (ap t x) es ++ [inv1 t x]) = x :: es
    rw [bks_snoc, f2, bks_bks hx, inv1_inv1 h.1]
theorem bks_small {es : List Ed} {t : Str} (h : fits t.length es) {B : Nat} (hn : ∀ fs x gs, es = fs ++ x :: gs → (aps t fs).length ≤ B) : ∀ y ∈ bks t es, y.n.length ≤ B := by
  intro y hy
  obtain ⟨i, hi⟩ := List.getElem?_of_mem hy
  have hil : i < (bks t es).length := (List.getElem?_eq_some_iff.mp hi).1
  rw [bks_len] at hil
  have key : ∀ (es : List Ed) (t : Str) (y : Ed), y ∈ bks t es → ∃ fs x gs, es = fs ++ x :: gs ∧ y = inv1 (aps t fs) x := by
    intro es
    induction es with
    | nil => intro t y h; exact nomatch h
    | cons x es ih =>
      intro t y h
      rcases List.mem_append.mp h with h | h
      · obtain ⟨fs, z, gs, e, q⟩ := ih (ap t x) y h
        exact ⟨x :: fs, z, gs, by rw [e]; rfl, q⟩
      · exact ⟨[], x, es, rfl, List.mem_singleton.mp h⟩
  obtain ⟨fs, x, gs, e, q⟩ := key es t y hy
  rw [q]
  exact Nat.le_trans (cutS_length _ _ _) (hn fs x gs e)
/-- what is asked of a list of edits that is applied -/
structure Mild (es : List Ed) : Prop where
  len : es.length ≤ 400
  new : ∀ x ∈ es, x.n.length ≤ 2000000 ∧ Ok x.n
/-- no text on the way is long -/
def Mid (t : Str) (es : List Ed) : Prop := ∀ k, (aps t (es.take k)).length ≤ 2000000
theorem Small.mild {es : List Ed} (h : Small es) : Mild es := ⟨h.len, fun x hx => ⟨by have := (h.new x hx).1; omega, (h.new x hx).2⟩⟩
theorem Small.mid {es : List Ed} {t : Str} (h : Small es) (ht : t.length ≤ 900000) (hf : fits t.length es) : Mid t es := fun k => by
  have f := fits_take hf k
  have hl := len_aps f
  have hb := sza_le f fun y hy => (h.new y (List.mem_of_mem_take hy)).1
  have hsl := h.len
  rw [List.length_take] at hb
  omega
theorem Mild.take {es : List Ed} (h : Mild es) (k : Nat) : Mild (es.take k) := ⟨by rw [List.length_take]; have := h.len; omega, fun x hx => h.new x (List.mem_of_mem_take hx)⟩
theorem Mid.take {es : List Ed} {t : Str} (h : Mid t es) (k : Nat) : Mid t (es.take k) := fun i => by
  rw [List.take_take]
  exact h _
theorem Ok.bks : ∀ {es : List Ed} {t : Str}, Ok t → (∀ x ∈ es, Ok x.n) → ∀ y ∈ bks t es, Ok y.n
  | [], _, _, _, y, hy => nomatch hy
  | x :: es, t, h, hn, y, hy => by
    rcases List.mem_append.mp hy with hy | hy
    · exact Ok.bks (es := es) (h.ap (hn x (List.mem_cons_self ..))) (fun z hz => hn z (List.mem_cons_of_mem _ hz)) y hy
    · rw [List.mem_singleton.mp hy]
      exact h.cut _ _
theorem bks_mild {es : List Ed} {t : Str} (h : Mild es) (hm : Mid t es) (ht : Ok t) : Mild (bks t es) := by
  refine ⟨by rw [bks_len]; exact h.len, fun y hy => ⟨?_, Ok.bks ht (fun x hx => (h.new x hx).2) y hy⟩⟩
  have key : ∀ (es : List Ed) (t : Str) (y : Ed), y ∈ bks t es → ∃ fs x gs, es = fs ++ x :: gs ∧ y = inv1 (aps t fs) x := by
    intro es
    induction es with
    | nil => intro t y h; exact nomatch h
    | cons x es ih =>
      intro t y h
      rcases List.mem_append.mp h with h | h
      · obtain ⟨fs, z, gs, e, q⟩ := ih (ap t x) y h
        exact ⟨x :: fs, z, gs, by rw [e]; rfl, q⟩
      · exact ⟨[], x, es, rfl, List.mem_singleton.mp h⟩
  obtain ⟨fs, x, gs, e, q⟩ := key es t y hy
  rw [q]
  have := hm fs.length
  rw [e, List.take_left' rfl] at this
  exact Nat.le_trans (cutS_length _ _ _) this
theorem bks_mid {es : List Ed} {t : Str} (hf : fits t.length es) (hm : Mid t es) : Mid (aps t es) (bks t es) := fun k => by
  by_cases hk : k ≤ es.length
  · rw [bks_take hf hk]
    exact hm _
  · have e : (bks t es).take k = (bks t es).take es.length := by
      rw [List.take_of_length_le (by rw [bks_len]; omega), List.take_of_length_le (by rw [bks_len]; omega)]
    rw [e, bks_take hf (Nat.le_refl _)]
    exact hm _
theorem fits_of_take {sz : Int} {es : List Ed} {k : Nat} (h : fits sz es) : fits sz (es.take k) := fits_take h k
theorem aps_all {es : List Ed} {t : Str} (hm : Mid t es) : (aps t es).length ≤ 2000000 := by
  have := hm es.length
  rw [List.take_length] at this
  exact this
end Z
namespace Z
open PySem PySem.Spec L2
local macro_rules | `(tactic| walk_at "ne") => `(tactic| first
  | with_reducible assumption
  | with_reducible exact Ne.symm (by assumption)
  | exact Frs.ne (by with_reducible assumption) (by walk_at "hp")
  | exact Frs.ne' (by with_reducible assumption) (by walk_at "hp"))
local macro_rules | `(tactic| walk_at "hp") => `(tactic| first
  | with_reducible assumption
  | (with_reducible refine Same.at (by assumption) ?_; walk_at "hp")
  | (with_reducible refine SL.tup (by assumption) ?_; walk_at "hp")
  | (with_reducible refine SL.at (by assumption) (by walk_at "ne") ?_; walk_at "hp"))
local macro_rules | `(tactic| walk_at "sz") => `(tactic| first
  | with_reducible assumption
  | exact Nat.le_of_ble_eq_true rfl
  | (refine sz_le ?_; omega)
  | (refine sz_lt ?_; omega)
  | decide +kernel)
local macro_rules | `(tactic| walk_at "at") => `(tactic| first
  | with_reducible assumption
  | with_reducible exact at0
  | with_reducible exact at1
  | with_reducible exact at2
  | with_reducible exact ixN0)
local macro_rules | `(tactic| walk_at "nn") => `(tactic| first
  | omega
  | decide
  | exact ⟨by decide, by decide⟩
  | exact ⟨by omega, by omega⟩
  | exact ⟨by omega, by omega, by omega, by omega⟩)
local macro_rules | `(tactic| walk_at "rdv") => `(tactic| first
  | (with_reducible refine add_int ?_)
  | (with_reducible refine sub_int ?_)
  | (with_reducible refine neg_int ?_)
  | ((with_reducible refine ix_tpl (xs := ?xs) (v := ?v) ?h1 ?h2 ?_); (case h1 => walk_at "hp"); (case h2 => walk_at "at"))
  | ((with_reducible refine ix_lst (xs := ?xs) (v := ?v) ?h1 ?h2 ?_); (case h1 => walk_at "hp"); (case h2 => walk_at "at"))
  | (with_reducible refine eq_int ?_)
  | (with_reducible refine ne_int ?_)
  | (with_reducible refine lt_int ?_)
  | (with_reducible refine le_int ?_)
  | (with_reducible refine gt_int ?_)
  | (with_reducible refine ge_int ?_)
  | (with_reducible refine eq_str ?_)
  | (with_reducible refine ne_str ?_)
  | (with_reducible refine eq_bl ?_)
  | (with_reducible refine ne_bl ?_)
  | ((with_reducible refine mod_int ?hc ?_); (case hc => walk_at "nn"))
  | ((with_reducible refine div_int ?hc ?_); (case hc => walk_at "nn"))
  | ((with_reducible refine mul_intR ?hc ?_); (case hc => exact ⟨by decide, by decide⟩))
  | ((with_reducible refine mul_intR ?hc ?_); (case hc => exact ⟨by omega, by omega⟩))
  | ((with_reducible refine mul_intL ?hc ?_); (case hc => exact ⟨by omega, by omega⟩))
  | ((with_reducible refine pow_int ?hc ?_); (case hc => exact ⟨by decide, by decide, by decide⟩))
  | ((with_reducible refine add_str ?hc ?_); (case hc => walk_at "sz"))
  | ((with_reducible refine add_lst (xs := ?xs) (ys := ?ys) ?h1 ?h2 ?hc ?_); (case h1 => walk_at "hp"); (case h2 => walk_at "hp"); (case hc => walk_at "sz"))
  | ((with_reducible refine sl_strU ?hc ?_); (case hc => walk_at "sz"))
  | ((with_reducible refine sl_lst (xs := ?xs) ?h1 ?_); (case h1 => walk_at "hp"))
  | (with_reducible refine is_bl ?_)
  | (with_reducible refine isnt_bl ?_)
  | (with_reducible refine is_non ?_)
  | (with_reducible refine isnt_non ?_))
local macro_rules | `(tactic| walk_at "rdc") => `(tactic| first
  | ((with_reducible refine len_lst (xs := ?xs) ?h1 ?_); (case h1 => walk_at "hp"))
  | ((with_reducible refine len_tup (xs := ?xs) ?h1 ?_); (case h1 => walk_at "hp"))
  | ((with_reducible refine len_str ?hc ?_); (case hc => walk_at "sz"))
  | (with_reducible refine int_int ?_)
  | (with_reducible refine max_int ?_)
  | (with_reducible refine min_int ?_)
  | (with_reducible refine abs_int ?_)
  | (with_reducible refine isi_ii ?_)
  | (with_reducible refine isi_ib ?_)
  | (with_reducible refine isi_ss ?_)
  | (with_reducible refine isi_bb ?_)
  | ((with_reducible refine isi_tt (xs := ?xs) ?h1 ?_); (case h1 => walk_at "hp"))
  | ((with_reducible refine isi_ll (xs := ?xs) ?h1 ?_); (case h1 => walk_at "hp"))
  | ((with_reducible refine list_lst (xs := ?xs) ?h1 ?_); (case h1 => walk_at "hp"))
  | ((with_reducible refine list_tup (xs := ?xs) ?h1 ?_); (case h1 => walk_at "hp"))
  | ((with_reducible refine tuple_lst (xs := ?xs) ?h1 ?_); (case h1 => walk_at "hp"))
  | ((with_reducible refine tuple_tup (xs := ?xs) ?h1 ?_); (case h1 => walk_at "hp"))
  | ((with_reducible refine append_lst (xs := ?xs) ?h1 ?hc ?_); (case h1 => walk_at "hp"); (case hc => walk_at "sz"))
  | ((with_reducible refine clear_lst (xs := ?xs) ?h1 ?_); (case h1 => walk_at "hp"))
  | ((with_reducible refine set_lst (xs := ?xs) (k := ?k) ?h1 ?h2 ?_); (case h1 => walk_at "hp"); (case h2 => walk_at "at")))
local macro_rules | `(tactic| walk_at "rd1") => `(tactic| first
  | ((with_reducible refine rVar (v := ?v) ?h ?_); (case h => exact rfl))
  | (with_reducible refine rC ?_)
  | (with_reducible refine rCons ?_)
  | (with_reducible refine rNil ?_)
  | (with_reducible refine rOp ?_)
  | (with_reducible refine rSeq ?_)
  | (with_reducible refine rAsgN ?_)
  | (with_reducible refine rAsgT ?_)
  | (with_reducible refine rAsgS ?_)
  | (with_reducible refine rTest ?_)
  | (with_reducible refine rBl ?_)
  | (with_reducible refine rBl' ?_)
  | (with_reducible refine rInt ?_)
  | (with_reducible refine rInt' ?_)
  | (with_reducible refine rCall ?_)
  | (with_reducible refine rCB ?_)
  | (with_reducible refine rRet ?_)
  | (with_reducible refine rDrop ?_)
  | (with_reducible refine rIfS ?_)
  | (with_reducible refine rTup ?_)
  | (with_reducible refine rLst ?_)
  | (with_reducible refine ⟨Nat.le_of_ble_eq_true rfl, ?_⟩)
  | (with_reducible refine rSl ?_)
  | (with_reducible refine rPart ?_)
  | (with_reducible refine rNoPart ?_)
  | (with_reducible refine rBM ?_)
  | (with_reducible refine rBM0 ?_)
  | ((with_reducible refine tyL (xs := ?xs) ?h1 ?_); (case h1 => walk_at "hp"))
  | (with_reducible refine rM1 ?_)
  | (with_reducible refine rM0 ?_)
  | (with_reducible refine rStr ?_)
  | (with_reducible refine rTru ?_)
  | (with_reducible refine tru_bl ?_)
  | (with_reducible refine tru_int ?_)
  | ((with_reducible refine tru_lst (xs := ?xs) ?h1 ?_); (case h1 => walk_at "hp"))
  | ((with_reducible refine tru_tup (xs := ?xs) ?h1 ?_); (case h1 => walk_at "hp"))
  | ((with_reducible refine tru_str ?hc ?_); (case hc => walk_at "sz"))
  | (with_reducible refine rAnd ?_)
  | (with_reducible refine rOr ?_)
  | (with_reducible refine rNot ?_)
  | (with_reducible refine rAndV ?_)
  | (with_reducible refine rOrV ?_)
  | (with_reducible refine rNotV ?_)
  | (with_reducible refine rIfE ?_)
  | (with_reducible refine rChain ?_)
  | (with_reducible refine rChain3 ?_)
  | (with_reducible refine ifT ?_)
  | (with_reducible refine ifF ?_)
  | (with_reducible refine ifNF ?_)
  | (with_reducible refine ifNT ?_)
  | (with_reducible refine rNext ?_)
  | (with_reducible refine rBrk ?_)
  | (with_reducible refine rCnt ?_)
  | (with_reducible refine rRetN ?_)
  | (with_reducible refine rForR1 ?_)
  | (with_reducible refine rForR2 ?_)
  | (with_reducible refine rForL ?_)
  | ((with_reducible refine rRg1 ?hb ?_); (case hb => walk_at "nn"))
  | ((with_reducible refine rRg2 ?hb ?_); (case hb => walk_at "nn"))
  | ((with_reducible refine rRf (xs := ?xs) ?h1 ?_); (case h1 => walk_at "hp"))
  | (with_reducible refine rLcR1 ?_)
  | (with_reducible refine rLcR2 ?_)
  | (with_reducible refine rLcL ?_)
  | (with_reducible refine gN ?_)
  | (with_reducible refine gNl ?_)
  | (with_reducible refine gC ?_)
  | ((with_reducible refine gT (xs := ?xs) ?h1 ?h2 ?_); (case h1 => walk_at "hp"); (case h2 => exact rfl))
  | (with_reducible refine rUn ?_)
  | walk_at "rdv"
  | walk_at "rdc")
local macro_rules | `(tactic| walk_at "rd") => `(tactic| repeat walk_at "rd1")

/-- the first that does not fit -/
def spFu : Sp := fun vs H Q _ => ∃ (L : Int) (p : Addr) (us : List V) (es : List Ed), vs = [.int L, .ref p] ∧ H p = some (.lst us) ∧ Edits H us es ∧ Mild es ∧ Q (.int (fu L es)) H
abbrev sp_first_unfit : Sp := spFu
abbrev sp_law_first_unfit : Sp := spFu
theorem use_fu {L : Int} {p : Addr} {us : List V} {es : List Ed} {H : Hp} {Q : VK} {E : XK} (hp : H p = some (.lst us)) (he : Edits H us es) (hs : Mild es) (h : Q (.int (fu L es)) H) : spFu [.int L, .ref p] H Q E := ⟨L, p, us, es, rfl, hp, he, hs, h⟩
def sp_law_splice : Sp := fun vs H Q _ => ∃ (t : Str) (p : Addr) (us : List V) (es : List Ed), vs = [.str t, .ref p] ∧ H p = some (.lst us) ∧ Edits H us es ∧ Mild es ∧ fits t.length es ∧ t.length ≤ 2000000 ∧ Mid t es ∧ Q (.str (aps t es)) H
theorem use_splice {t : Str} {p : Addr} {us : List V} {es : List Ed} {H : Hp} {Q : VK} {E : XK} (hp : H p = some (.lst us)) (he : Edits H us es) (hs : Mild es) (hf : fits t.length es) (hl : t.length ≤ 2000000) (hm : Mid t es) (h : Q (.str (aps t es)) H) : sp_law_splice [.str t, .ref p] H Q E := ⟨t, p, us, es, rfl, hp, he, hs, hf, hl, hm, h⟩
def sp_law_same_edit : Sp := fun vs H Q _ => ∃ (v u : V) (x y : Ed), vs = [v, u] ∧ EdAt H v x ∧ EdAt H u y ∧ Ok x.n ∧ Ok y.n ∧ Q (.bl (decide (x = y))) H
theorem use_same_edit {v u : V} {x y : Ed} {H : Hp} {Q : VK} {E : XK} (h1 : EdAt H v x) (h2 : EdAt H u y) (k1 : Ok x.n) (k2 : Ok y.n) (h : Q (.bl (decide (x = y))) H) : sp_law_same_edit [v, u] H Q E := ⟨v, u, x, y, rfl, h1, h2, k1, k2, h⟩
def sp_law_same_edits : Sp := fun vs H Q _ => ∃ (p q : Addr) (us ws : List V) (xs ys : List Ed), vs = [.ref p, .ref q] ∧ H p = some (.lst us) ∧ H q = some (.lst ws) ∧ Edits H us xs ∧ Edits H ws ys ∧ xs.length ≤ 1000 ∧ (∀ x ∈ xs, Ok x.n) ∧ (∀ y ∈ ys, Ok y.n) ∧ Q (.bl (decide (xs = ys))) H
theorem use_same_edits {p q : Addr} {us ws : List V} {xs ys : List Ed} {H : Hp} {Q : VK} {E : XK} (hp : H p = some (.lst us)) (hq : H q = some (.lst ws)) (h1 : Edits H us xs) (h2 : Edits H ws ys) (hl : xs.length ≤ 1000) (k1 : ∀ x ∈ xs, Ok x.n) (k2 : ∀ y ∈ ys, Ok y.n) (h : Q (.bl (decide (xs = ys))) H) :
    sp_law_same_edits [.ref p, .ref q] H Q E := ⟨p, q, us, ws, xs, ys, rfl, hp, hq, h1, h2, hl, k1, k2, h⟩
section
variable {P : Program} {w : World} {K : PySem.W.Frag} {mg : Str → Option Value} {base : Heap}
end
end Z
namespace Z
open PySem PySem.Spec PyProof.Rows PySem.W
/-! ## super().__init__(text) in an own exception's __init__ -/
section
variable {prog : Program} {w : World} {A : Around} {E : Value → Shared → Prop} {h : Heap} {g : Array GenState} {d : Drawn} {t : Nat} {os : OsState}
variable {nm q : Str} {C N : Addr} {bs bm : List Value} {hdct : Bool} {sn : List Str} {sub : List Value} {ab : Bool} {col : Option Bool} {dd : Option Addr} {k0 k1 k2 k3 k5 : Option Value}
theorem call_bwV {u e t0 : Addr} {rest : List Value} {Q : Value → Shared → Prop}
    (hC : h.get? C = some (excClassObj nm q C N bs bm hdct sn sub ab col dd k0 k1 k2 k3 k5 "ValueError.__new__")) (he : h.get? e = some (PySem.HandSPX.excO C t0)) (hu : h.get? u = some (kxs_mw "ValueError.__init__" e)) (hrest : rest.length ≤ sizeLine)
    (hq : ∀ h' t1, (∀ b o, b ≠ e → h.get? b = some o → h'.get? b = some o) → h'.get? e = some (PySem.HandSPX.excO C t1) → Q .none ⟨h', g, d, t, os⟩) :
    wpAny (model prog w) A (call (.ref u) rest) Q E ⟨h, g, d, t, os⟩ := by
  refine wpAny_call (codeAny_of_tree ?_)
  show wpAny _ A.in1 (callAny (.ref u) ⟨rest, []⟩) _ _ _
  simp only [callAny]
  refine wpAny_bind (wpAny_load hu ?_)
  simp only [kxs_mw, show (Value.type "method-wrapper" == Value.type "method" || Value.type "method-wrapper" == Value.type "builtin_function_or_method" || Value.type "method-wrapper" == Value.type "method-wrapper") = true by decide, if_true]
  refine KFB.if_so (by decide) ?_
  refine wpAny_bind (check_bound_init F.excBase_ValueError.toExcCallFacts hC he rfl ?_)
  refine wpAny_bind (wpAny_pure (wpAny_pure ?_))
  refine ⟨plainId_quiet F.excBase_ValueError.init.plain _, codeAny_builtin F.excBase_ValueError.initEntry ?_⟩
  refine exc_init_tree (cls := .ref C) (t0 := t0) (dv := none) (c2 := .none) (c3 := .none) (b4 := .bool false) he hrest fun h' k e' _ => ?_
  exact hq h' _ k e'
end

open L2 in
/-- the context of such a body -/
def cxS (CX : CXT) (P : Program) (w : World) (K : Frag) (mg : Str → Option Value) (base : Heap) (N : List Str) (qual : Str) (scope : Scope) (f cda cc : Addr) (A : Around) (outer : List Env) (s : Shared) (H : Hp) (E : XK) : Cx where
  prog := P
  w := w
  K := K
  mg := mg
  base := base
  A := A.deeper (ksEnv qual scope s.heap.objs.size f (.ref cda) cc)
  N := N
  s_0 := s
  H_0 := H
  env := ksEnv qual scope s.heap.objs.size f (.ref cda) cc
  outer := outer
  stack := ksEnv qual scope s.heap.objs.size f (.ref cda) cc :: outer
  ex := []
  calm := true
  fn := fun _ => false
  pn := []
  xe := fun e s' => wpAny (model P w) (A.deeper (ksEnv qual scope s.heap.objs.size f (.ref cda) cc)) (leaving (ksEnv qual scope s.heap.objs.size f (.ref cda) cc) e) (fun _ s'' => CX outer H s E e s'') (fun e' s'' => CX outer H s E e' s'') s'
/-- the scope of such a body -/
structure SupScope (N ps : List Str) (sc : Scope) : Prop where
  kind : sc.kind = .function
  co : sc.isCoroutine = false
  gen : sc.isGenerator = false
  nd : N.Nodup
  pre : N.take ps.length = ps
  par : ∀ x ∈ ps, sc.names.lookup x = some .local
  cell : ∀ x ∈ sc.names, x.2 ≠ .cell
  free : ∀ x ∈ sc.names, x.2 = .free → x.1 = "__class__"
  sup : sc.names.lookup ("super" : Str) = some .globalImplicit
  cls : sc.names.lookup ("__class__" : Str) = some .free
/-- what the written part says of the class at C and of its own __init__ -/
structure SupC (P : Program) (K : Frag) (mg : Str → Option Value) (C cda cc : Addr) : Prop where
  oex : L2.OexC K C
  code : ∃ ccl cdd vs ccs file tf, K.lookup cda = some ⟨ccl, cdd, .fields vs, ccs⟩ ∧ vs[2]? = some (.str file tf) ∧ ((P.main.file : Str) == file) = true
  cell : ∃ cl cld csl, K.lookup cc = some ⟨cl, cld, .cell (some (.ref C)), csl⟩
  sub : mroIn K C (.ref C) = some true
  sup : mg "super" = none
  any : nsIn K cStatics "thirdparty.any" = some none
  along : ks_superIn K C C "__init__" = some (some (.builtin "ValueError.__init__"))
  subV : subIn K (.ref C) (.type "ValueError") = some true
  top : (P.main.scope.names.lookup ("super" : Str)).isSome = false
section
open L2
variable {CX : CXT} {P : Program} {w : World} {K : Frag} {mg : Str → Option Value} {base : Heap} {N ps : List Str} {qual : Str} {scope : Scope} {f cda cc C : Addr} {A : Around} {outer : List Env} {s s1 : Shared} {H : Hp} {E : XK} {us : List Value} {vs : List V}
theorem binds_get {x : Str} {v : Value} : ∀ {P : List Str} {vs : List Value} {i : Nat}, P.Nodup → P[i]? = some x → vs[i]? = some v → vs.length = P.length → (P.zip vs).reverse.lookup x = some v := by
  intro P vs i nd h1 h2 hl
  have key : ∀ {l : List (Str × Value)}, (l.map (·.1)).Nodup → (x, v) ∈ l → l.lookup x = some v := by
    intro l
    induction l with
    | nil => intro _ h; exact nomatch h
    | cons p l ih =>
      obtain ⟨y, z⟩ := p
      intro nd h
      rw [List.map_cons, List.nodup_cons] at nd
      by_cases e : x = y
      · subst e
        rcases List.mem_cons.mp h with h | h
        · cases h
          simp [List.lookup]
        · exact absurd (List.mem_map_of_mem (f := (·.1)) h) nd.1
      · have e2 : (x == y) = false := by simpa using e
        show (match x == y with | true => some z | false => l.lookup x) = some v
        rw [e2]
        refine ih nd.2 ?_
        rcases List.mem_cons.mp h with h | h
        · cases h; exact absurd rfl e
        · exact h
  refine key ?_ ?_
  · rw [List.map_reverse, List.map_fst_zip (by omega)]
    unfold List.Nodup
    rw [List.pairwise_reverse]
    exact List.Pairwise.imp (fun h => Ne.symm h) nd
  · rw [List.mem_reverse]
    refine List.mem_of_getElem? (i := i) ?_
    rw [List.getElem?_zip_eq_some]
    exact ⟨h1, h2⟩
theorem inv_sup (S : SupScope N ps scope) (T : SupC P K mg C cda cc) (hd : A.handled = none) (e0 : Env0 P w K mg base A outer s H) (hl : vs.length = ps.length) (r : Vals vs us) {h₀ : Heap} {tk : Nat}
    (hns : h₀.Ns s.heap.objs.size (fun x => (ps.zip us).reverse.lookup x)) (hk : ∀ b o, s.heap.get? b = some o → h₀.get? b = some o) :
    Inv (cxS CX P w K mg base N qual scope f cda cc A outer s H E) [] (L2.start N vs) H { s with heap := h₀, toks := tk } := by
  have hpl : ps.length ≤ N.length := by have := congrArg List.length S.pre; rw [List.length_take] at this; omega
  have noA : ∀ b : Addr, b ∉ (cxS CX P w K mg base N qual scope f cda cc A outer s H E).ex := fun b z => absurd (show b ∈ ([] : List Addr) from z) (by simp)
  have cells : ∀ {y : Str} {c : Addr}, (cxS CX P w K mg base N qual scope f cda cc A outer s H E).env.cells.lookup y = some c → y = "__class__" ∧ c = cc := fun {y c} h => by
    have h' : List.lookup y [(("__class__" : Str), cc)] = some c := h
    by_cases e : y = "__class__"
    · subst e
      simp [List.lookup] at h'
      exact ⟨rfl, h'.symm⟩
    · have e2 : (y == ("__class__" : Str)) = false := by simpa using e
      simp [List.lookup, e2] at h'
  obtain ⟨cl, cld, csl, hcell⟩ := T.cell
  have hb := e0.mod.kin _ _ hcell
  refine ⟨⟨e0.mod, S.kind, rfl, rfl, Nat.le_refl _, fun y z c h1 h2 => (cells h1).1.trans (cells h2).1.symm, fun y hy => ?_, fun y c hf _ => (Bool.false_ne_true hf).elim, fun _ => hd, Around.frames_deeper e0.frames, .inr ⟨rfl, rfl⟩, fun b z => absurd z (noA b), e0.bs, e0.bsz, fun b _ _ => noA b, fun b z => absurd z (noA b), e0.funs, e0.frf⟩,
    rfl, e0.bare, Un.kept hk, ⟨_, hns, fun i y v h1 h2 h3 => ?_⟩, fun y c h => ?_, e0.hok.fresh (Nat.le_refl _), fun y c h => ?_, fun p hp => absurd (show p ∈ ([] : List (Addr × Obj)) from hp) (by simp), e0.hok.kept hk, ?_⟩
  · have hy : scope.names.lookup y = some .cell ∨ scope.names.lookup y = some .free := hy
    rcases hy with hy | hy
    · exact absurd rfl (S.cell _ (PySem.mem_of_lookup hy))
    · have e : y = "__class__" := S.free _ (PySem.mem_of_lookup hy) rfl
      subst e
      exact ⟨cc, by show List.lookup _ [(("__class__" : Str), cc)] = some cc; simp [List.lookup]⟩
  · have hi : i < vs.length := by
      unfold L2.start at h2
      by_cases hi : i < vs.length
      · exact hi
      · rw [List.getElem?_append_right (by simpa using hi)] at h2
        rw [List.getElem?_replicate] at h2
        split at h2 <;> cases h2
    have ha : vs[i]? = some v := by
      unfold L2.start at h2
      rw [List.getElem?_append_left (by simpa using hi), List.getElem?_map] at h2
      cases e : vs[i]? with
      | none => rw [e] at h2; cases h2
      | some a => rw [e] at h2; cases h2; rfl
    obtain ⟨u, hu, rv⟩ := r.get ha
    have hp : ps[i]? = some y := by
      rw [← S.pre, List.getElem?_take_of_lt (by omega)]; exact h1
    have ndP : ps.Nodup := by rw [← S.pre]; exact S.nd.sublist (List.take_sublist _ _)
    exact ⟨u, rv, .inl ⟨S.par y (List.mem_of_getElem? hp), binds_get ndP hp hu (by have := r.length; omega)⟩⟩
  · obtain ⟨_, rfl⟩ := cells h
    exact ⟨_, _, hk _ _ (e0.bs _ _ hb).1, rfl⟩
  · obtain ⟨_, rfl⟩ := cells h
    exact (e0.bs _ _ hb).2
  · unfold L2.start
    show _ = N.length
    rw [List.length_append, List.length_map, List.length_replicate]
    omega
theorem fn_sup {fI : Addr} {name : Str} {params : Arguments} {scope : Scope} {kV doc pm ct oc : Value} {an od : Option Addr} {osl : Array (Option Value)} {sp : Sp} {k : Nat} {p0 p1 p2 p3 p4 : Pos} {msg : Expr} {rest : List Stmt} {ar : Arg} {self : Str}
    (lk : K.lookup fI = some ⟨oc, od, .func (ksFn name qual params (.Expr (.Call (.Attribute (.Call (.Name "super" p0) [] [] p1) "__init__" p2) [msg] [] p3) p4 :: rest) scope .none kV doc pm an (.ref cda) ct cc), osl⟩)
    (hcd : codeIn K (.ref cda) qual = true) (S : SupScope N ps scope) (T : SupC P K mg C cda cc) (hps : ps.head? = some self) (har : (params.posonlyargs ++ params.args).head? = some ar) (hself : ar.arg = self)
    (len : ∀ vs H Q E, sp vs H Q E → vs.length = ps.length)
    (hst : ∀ L, starEach (msg :: []) (ksEnv qual scope L fI (.ref cda) cc) = (false, eval msg (ksEnv qual scope L fI (.ref cda) cc)) :: starEach [] (ksEnv qual scope L fI (.ref cda) cc) := by intro _; rfl)
    (hev : ∀ L, ∃ pl, eval (.Call (.Attribute (.Call (.Name "super" p0) [] [] p1) "__init__" p2) [msg] [] p3) (ksEnv qual scope L fI (.ref cda) cc) = (do
      let ov ← attributeBase (.Call (.Name "super" p0) [] [] p1) "__init__" (ksEnv qual scope L fI (.ref cda) cc) (eval (.Call (.Name "super" p0) [] [] p1) (ksEnv qual scope L fI (.ref cda) cc))
      standAt p2.atName
      let (f, first) ← holding [ov] (getMethod ov "__init__" pl)
      callWith p3 f first (backTo p3 (starEach [msg] (ksEnv qual scope L fI (.ref cda) cc))) []))
    (hi : ∀ L, interactive (ksEnv qual scope L fI (.ref cda) cc) = false)
    (hsw : ∀ L, swapsWith (.Call (.Attribute (.Call (.Name "super" p0) [] [] p1) "__init__" p2) [msg] [] p3) none p4.line (ksEnv qual scope L fI (.ref cda) cc) = pure false)
    (hbody : ∀ (A : Around) (outer : List Env) (s : Shared) (H : Hp) (vs : List V) (Q : VK) (E : XK), Room k (A.deeper (ksEnv qual scope s.heap.objs.size fI (.ref cda) cc)) → sp vs H Q E →
      ∃ (x : Addr) (ta : TA) (t : TS), vs.head? = some (.ref x) ∧ H x = some (exo x C none) ∧ PA (cxS CX P w K mg base N qual scope fI cda cc A outer s H E) [msg] ta ∧ PSs (cxS CX P w K mg base N qual scope fI cda cc A outer s H E) rest t ∧
        ta (L2.start N vs) H fun ws H1 => ws.length ≤ 1000 ∧ H1 x = some (exo x C none) ∧ t { nx := fun _ H' => Q .non H', rt := Q } (L2.start N vs) H1) :
    FnOk P w K mg base CX (k + 1) fI (ksFn name qual params (.Expr (.Call (.Attribute (.Call (.Name "super" p0) [] [] p1) "__init__" p2) [msg] [] p3) p4 :: rest) scope .none kV doc pm an (.ref cda) ct cc) ps sp := by
  refine ⟨len, fun A outer s H args us vs Q E hr e0 hb r hsp => ?_⟩
  have hl := len _ _ _ _ hsp
  have KX : K.In s.heap := e0.mod.kin.keeps fun b o e => (e0.bs b o e).1
  have lim : s.heap.NoLimit := e0.mod.nolimit.keeps fun b o e => (e0.bs b o e).1
  obtain ⟨x, ta, t, hx, hHx, pa, ps', q⟩ := hbody A outer s H vs Q E (hr.deeper _) hsp
  refine ks_codeAny_call_defAt (fd := ksFn name qual params (.Expr (.Call (.Attribute (.Call (.Name "super" p0) [] [] p1) "__init__" p2) [msg] [] p3) p4 :: rest) scope .none kV doc pm an (.ref cda) ct cc) hr.depth (KX _ _ lk) rfl lim (codeRec_of KX hcd) rfl hb S.cell
    (fun y hy => S.par y.1 (List.of_mem_zip hy).1) (fun h₀ hns hk => ?_) S.co S.gen S.kind
  have I := inv_sup (CX := CX) (P := P) (w := w) (mg := mg) (N := N) (qual := qual) (f := fI) (E := E) (tk := s.toks + (ps.zip us).length) S T hr.hd e0 hl r hns hk
  have KX0 : K.In h₀ := KX.keeps hk
  obtain ⟨nm, q', N', bs, bm, sn, sub, ab, col, dd, k0, k1, k2, k3, k5, hC, hbm⟩ := T.oex.cls
  have hcl : clsIn K C = some { name := nm, bases := bs, mro := .ref C :: bm, ns := N', qualname := q', hasDict := true, slotNames := sn, subclasses := sub, abstract := ab, collection := col, hasDel := false } := by unfold clsIn; rw [hC] <;> rfl
  obtain ⟨ccl, cdd, cvs, ccs, file, tf, hcda, hvs2, hfile⟩ := T.code
  obtain ⟨cl, cld, csl, hcell⟩ := T.cell
  obtain ⟨t0, ho⟩ := exo_at I.hok hHx
  have hxC : x ≠ C := fun z => by
    have := (e0.bs _ _ (e0.mod.kin _ _ hC)).2
    rw [← z, hHx] at this
    cases this
  have hself' : ps[0]? = some self := by cases ps with | nil => cases hps | cons a l => exact hps
  have hxv : us[0]? = some (.ref x) := by
    have h0 : vs[0]? = some (.ref x) := by cases vs with | nil => cases hx | cons a l => exact hx
    obtain ⟨u, hu, ru⟩ := r.get h0
    rw [hu]
    exact congrArg some ru
  have ndP : ps.Nodup := by rw [← S.pre]; exact S.nd.sublist (List.take_sublist _ _)
  have hlook : (ps.zip us).reverse.lookup self = some (.ref x) := binds_get ndP hself' hxv (by have := r.length; omega)
  obtain ⟨hs, g, d, tk, os⟩ := s
  obtain ⟨pl, ev⟩ := hev hs.objs.size
  show _root_.PySem.wpAt (model P w) (A.deeper (ksEnv qual scope hs.objs.size fI (.ref cda) cc)) (.func (.Expr (.Call (.Attribute (.Call (.Name "super" p0) [] [] p1) "__init__" p2) [msg] [] p3) p4 :: rest) (ksEnv qual scope hs.objs.size fI (.ref cda) cc)) (execs (.Expr (.Call (.Attribute (.Call (.Name "super" p0) [] [] p1) "__init__" p2) [msg] [] p3) p4 :: rest) (ksEnv qual scope hs.objs.size fI (.ref cda) cc)) _ _ _
  refine ks_wpAt_execs_cons ?_
  refine ks_wpAt_Expr_any ?_ (hi _) (hsw _)
  refine ks_wpAt_MethodCall (pl := pl) ?_ ev
  refine ks_wpAt_super_base (env := ksEnv qual scope hs.objs.size fI (.ref cda) cc) S.sup S.cls (by decide +kernel) rfl (KX0 _ _ lk) rfl har rfl (KX0 _ _ hcda) rfl hvs2 hfile T.top ?_
  obtain ⟨mb, hmb1, hmb2⟩ := e0.mod.blt
  have bk : ∀ b o, base.get? b = some o → h₀.get? b = some o := fun b o e => hk _ _ (e0.bs b o e).1
  refine ks_loadName_global S.kind S.sup (Calls.loadGlobal_builtin (env := ksEnv qual scope hs.objs.size fI (.ref cda) cc) (e0.mod.glob.keeps bk) T.sup (hmb1.keeps bk) ((hmb2 _ (by decide +kernel)).trans (show bootBuiltins "super" = some (.type "super") by first | boot_by_name | rfl | kernel_rfl)) ⟨rfl, ?_⟩)
  refine wpAny_loadName_free S.kind S.cls (show List.lookup _ [(("__class__" : Str), cc)] = some cc by simp [List.lookup]) ⟨_, KX0 _ _ hcell, rfl⟩ ?_
  refine wpAny_loadName_local S.kind (show scope.names.lookup ar.arg = some .local by rw [hself]; exact S.par _ (List.mem_of_getElem? hself')) hns (by rw [hself]; exact hlook) ?_
  refine ks_wpAny_isType_cls (KX0 _ _ hC) rfl ⟨rfl, ?_⟩
  refine ks_wpAny_call_super (KX0 _ _ hC) rfl ho rfl (fun c e => nomatch e) (looks_mroIn KX0 T.sub) (fun h1 e1 kk1 => ?_)
  have I1 := I.kept (t' := tk + (ps.zip us).length) kk1
  have KX1 : K.In h1 := KX0.keeps kk1
  have inst1 : W.InstAt h1 x { cls := .ref C, dict := none, data := .fields #[.ref t0, .none, .none, .none, .bool false, .none] } C none := ⟨kk1 _ _ ho, rfl, rfl, trivial⟩
  have hf1 := T.along
  unfold ks_superIn at hf1
  rw [hcl] at hf1
  refine kxs_getMethod kxs_ValueError e1 (looks_opaque KX1 T.any) (l₀ := .ref C :: bm) (fun A Q E s k q => wpAny_bind ((looks_clsIn KX1 hcl) A _ E s k (wpAny_pure q))) rfl KX1 hf1 (inst1.type.andThen (looks_subIn KX1 T.subV)) hxC (by decide +kernel) ?_
  have kk2 : ∀ b o, h1.get? b = some o → (h1.push (kxs_mw "ValueError.__init__" x)).get? b = some o := fun b o e => Heap.get?_push_of_some _ e
  have I2 := I1.kept (t' := tk + (ps.zip us).length + 1) kk2
  have hu2 : (h1.push (kxs_mw "ValueError.__init__" x)).get? h1.objs.size = some (kxs_mw "ValueError.__init__" x) := Heap.get?_push_at rfl rfl
  have I2p : Inv (cxS CX P w K mg base N qual scope fI cda cc A outer ⟨hs, g, d, tk, os⟩ H E) [(h1.objs.size, kxs_mw "ValueError.__init__" x)] (L2.start N vs) H ⟨h1.push (kxs_mw "ValueError.__init__" x), g, d, tk + (ps.zip us).length + 1, os⟩ := I2.pins_of fun p hp => by
    rw [List.mem_singleton.mp hp]
    exact ⟨hu2, I1.hok.fresh (Nat.le_refl _), Nat.ne_of_gt I1.lt, I1.nofs (Nat.le_refl _), fun v z => nomatch z⟩
  have hargs := pa.run p3 _ _ _ _ _ I2p q
  show wpAny _ _ (callWith p3 (.ref h1.objs.size) [] (backTo p3 (starEach (msg :: []) (ksEnv qual scope hs.objs.size fI (.ref cda) cc))) []) _ _ _
  have he := hst hs.objs.size
  have hargs' := hargs
  change wpAny _ _ (spliced (backTo p3 (starEach (msg :: []) (ksEnv qual scope hs.objs.size fI (.ref cda) cc)))) _ _ _ at hargs'
  rw [he] at hargs' ⊢
  refine kxs_callWith (i := "ValueError.__init__") (x := x) rfl (Calls.evalArgs_plain (thn hargs' fun us3 s3 hh => ?_))
  obtain ⟨vs3, H3, I3, r3, hl3, hx3, q3⟩ := hh
  have hpin := I3.pin (h1.objs.size, kxs_mw "ValueError.__init__" x) (List.mem_append_right _ (List.mem_cons_self ..))
  refine ⟨hpin.1, ?_⟩
  show wpAny _ _ (call (.ref h1.objs.size) us3) _ _ _
  obtain ⟨t3, ho3⟩ := exo_at I3.hok hx3
  have hlen3 : us3.length ≤ sizeLine := by rw [← Paired.length r3, sizeLine_eq]; omega
  have KX3 := I3.kIn
  obtain ⟨h3, g3, d3, tk3, os3⟩ := s3
  refine call_bwV (KX3 _ _ hC) ho3 hpin.1 hlen3 fun h4 t4 k4 hx4 => ?_
  have J := I3.write (t' := tk3) (x := x) (e := x) (o := exo x C none) (by rw [hx3]; exact True.intro) (.inl rfl) k4 ⟨_, hx4⟩ (exo_ok hx4)
  have eu : upd H3 x (exo x C none) = H3 := by
    funext b
    by_cases hb : b = x
    · rw [hb, upd_same, hx3]
    · rw [upd_ne hb]
  rw [eu] at J
  refine wpAt_of_wpAny ?_
  refine wpAny_mono (ps'.run _ _ _ _ _ J q3) (fun fl s' hs' => ?_) fun e s' hs' => hs'
  have fin : ∀ {σ' : L2.St} {H' : Hp} {v : V} {u : Value} {pins : List (Addr × Obj)}, Inv (cxS CX P w K mg base N qual scope fI cda cc A outer ⟨hs, g, d, tk, os⟩ H E) pins σ' H' s' → RelV v u → Q v H' → CE outer P w H ⟨hs, g, d, tk, os⟩ Q u s' :=
    fun {σ' H' v u pins} J rv q => ⟨v, H', J.os, J.bare, J.base, J.hok, rv, q⟩
  cases fl with
  | ret u =>
    obtain ⟨v, σ', H', J, rv, q⟩ := hs'
    exact fin J rv q
  | next =>
    obtain ⟨σ', H', J, q⟩ := hs'
    exact fin (v := V.non) (u := Value.none) J rfl q
  | brk =>
    obtain ⟨_, _, _, q⟩ := hs'
    exact False.elim q
  | cont =>
    obtain ⟨_, _, _, q⟩ := hs'
    exact False.elim q
end
end Z
namespace Z
open PySem PySem.Spec PyProof.Rows L2
/-! ## defs that may raise -/
/-- a def that may be called by its name, and may let an exception out -/
structure CalX (P : Program) (w : World) (K : PySem.W.Frag) (mg : Str → Option Value) (base : Heap) (k : Nat) (x : Str) (sp : Sp) : Prop where
  ex : ∃ (f : Addr) (fd : FuncData) (ps : List Str), FnOk P w K mg base (L2.CX P w) k f fd ps sp ∧ mg x = some (.ref f) ∧ PySem.W.keepIn K (.ref f) = true ∧ Binds K fd ps []
/-- an own exception that may be made by its name; sp: its __init__ -/
structure OexI (P : Program) (w : World) (K : PySem.W.Frag) (mg : Str → Option Value) (base : Heap) (k : Nat) (x : Str) (C : Addr) (sp : Sp) : Prop where
  ex : ∃ (f : Addr) (fd : FuncData) (ps : List Str), OexC K C ∧ PySem.W.findIn K (.ref C) "__init__" = some (some (.ref f)) ∧ PySem.W.typeIn K (.ref f) = some (.type "function") ∧ FnOk P w K mg base (L2.CX P w) k f fd ps sp ∧ Binds K fd ps [] ∧ mg x = some (.ref C)
section
variable {P : Program} {w : World} {K : PySem.W.Frag} {mg : Str → Option Value} {base : Heap}
theorem calX {x : Str} {st : Stmt} {f : Addr} {fd : FuncData} {N ps : List Str} {k : Nat} {sp : Sp} (F : C8.Def K mg x st f fd) (b : Binds K fd ps []) (S : FnScope N ps (C8.fnScope st)) (len : ∀ vs H Q E, sp vs H Q E → vs.length = ps.length)
    (hbody : ∀ (cdv : Value) (A : Around) (outer : List Env) (s : Shared) (H : Hp) (vs : List V) (Q : VK) (E : XK), Room k (A.deeper (envOfC x (C8.fnScope st) s.heap.objs.size f cdv)) → sp vs H Q E →
      ∃ t, PSs (cxOf (L2.CX P w) P w K mg base N x (C8.fnScope st) f cdv A outer s H E) (C8.fnBody st) t ∧ t { nx := fun _ H' => Q .non H', rt := Q } (start N vs) H) : CalX P w K mg base (k + 1) x sp := by
  refine ⟨f, fd, ps, ?_, F.mgf, F.kp, b⟩
  obtain ⟨oc, od, dV, kV, doc, pm, an, cdv, ct, osl, rfl, lk, hcd⟩ := F.fn.ex
  exact fn_of lk hcd S len fun A outer s H vs Q E hr hsp => hbody cdv A outer s H vs Q E hr hsp
end
section
variable {X : Cx} {k j : Nat} {x : Str} {sp : Sp} {p pos : Pos} {e : Expr} {es : List Expr} {t : TA} {E : XK} {W : WX} {C : Addr}
/-- a class by its name -/
theorem pe_cls (hg : Gl X x) (hm : X.mg x = some (.ref C)) (hd : (x == ("__debug__" : Str)) = false := by decide) : PE X (.Name x p) (tC (.ref C)) := pe_glob hg hm rfl hd
/-- called where no exception leaves -/
theorem pe_cn (c : CalX X.prog X.w X.K X.mg X.base k x sp) (hr : Room j X.A) (hk : k ≤ j) (hg : Gl X x) (ha : PA X (e :: es) t)
    (hdb : (x == ("__debug__" : Str)) = false := by decide) (he : starEach (e :: es) X.env = (false, eval e X.env) :: starEach es X.env := by rfl) (hpl : (backTo pos (starEach es X.env)).any (·.1) = false := by rfl) :
    PE X (.Call (.Name x p) (e :: es) [] pos) (tCall sp [] L2.E0 t) := by
  obtain ⟨f, fd, ps, F, hm, kp, b⟩ := c.ex
  exact pe_call F (hr.mono hk) hg hm kp b .nil passL ha hdb he hpl
/-- called in a def that hands the exception on -/
theorem pe_cx (c : CalX X.prog X.w X.K X.mg X.base k x sp) (tk : Takes X fun cls d _ H => E cls d H) (hr : Room j X.A) (hk : k ≤ j) (hg : Gl X x) (ha : PA X (e :: es) t)
    (hdb : (x == ("__debug__" : Str)) = false := by decide) (he : starEach (e :: es) X.env = (false, eval e X.env) :: starEach es X.env := by rfl) (hpl : (backTo pos (starEach es X.env)).any (·.1) = false := by rfl) :
    PE X (.Call (.Name x p) (e :: es) [] pos) (tCall sp [] E t) := by
  obtain ⟨f, fd, ps, F, hm, kp, b⟩ := c.ex
  exact pe_call F (hr.mono hk) hg hm kp b .nil (passes_call tk fun _ _ _ _ h => h) ha hdb he hpl
/-- called in the body of a try -/
theorem pe_ct (c : CalX X.prog X.w X.K X.mg X.base k x sp) (tk : Takes X W) (hr : Room j X.A) (hk : k ≤ j) (hg : Gl X x) (ha : PA X (e :: es) t)
    (hdb : (x == ("__debug__" : Str)) = false := by decide) (he : starEach (e :: es) X.env = (false, eval e X.env) :: starEach es X.env := by rfl) (hpl : (backTo pos (starEach es X.env)).any (·.1) = false := by rfl) :
    PE X (.Call (.Name x p) (e :: es) [] pos) (tCallS sp (WE W) t) := by
  obtain ⟨f, fd, ps, F, hm, kp, b⟩ := c.ex
  exact pe_callS F (hr.mono hk) hg hm kp b (fun σ => passAt tk σ) ha hdb he hpl
theorem pm_x (c : OexI X.prog X.w X.K X.mg X.base k x C sp) (hr : Room j X.A) (hk : k + 1 ≤ j) (hg : Gl X x) (ha : PA X (e :: es) t)
    (hdb : (x == ("__debug__" : Str)) = false := by decide) (he : starEach (e :: es) X.env = (false, eval e X.env) :: starEach es X.env := by rfl) (hpl : (backTo pos (starEach es X.env)).any (·.1) = false := by rfl) :
    PMk X (.Call (.Name x p) (e :: es) [] pos) (tMkO C sp [] t) := by
  obtain ⟨f, fd, ps, T, iC, tI, F, b, hm⟩ := c.ex
  exact pmk_oex T iC tI F (hr.mono hk) b .nil passL hg hm ha hdb he hpl
end
/-- the heap behind an exception of the class at C with the fields fs: what a wish must bear -/
def WantX (C : Addr) (fs : List (Str × V)) (H : Hp) (E : XK) : Prop := ∀ (d : Addr) (H' : Hp), H d = none → Same H H' → H' d = some (.xd fs) → E (.ref C) (some d) H'
theorem mkO1 {C : Addr} {sp : Sp} {H1 : Hp} {E : XK} {vs : List V} (fs : List (Str × V)) (hw : WantX C fs H1 E)
    (hs : ∀ (a : Addr) (Q : VK), H1 a = none → (∀ d, H1 d = none → d ≠ a → Q .non (upd (upd (upd H1 a (exo a C none)) d (exd d fs)) a (exo a C (some d)))) → sp (.ref a :: vs) (upd H1 a (exo a C none)) Q (fun _ _ _ => False)) :
    ∀ a, H1 a = none → sp (.ref a :: (vs ++ [])) (upd H1 a (exo a C none))
      (fun v H2 => v = .non ∧ ∃ (d : Addr) (fs : List (Str × V)), H2 a = some (exo a C (some d)) ∧ H2 d = some (exd d fs) ∧ H1 d = none ∧ E (.ref C) (some d) (upd (del H2 a) d (.xd fs))) (fun _ _ _ => False) := by
  intro a ha
  rw [List.append_nil]
  refine hs a _ ha fun d hd hda => ?_
  refine ⟨rfl, d, fs, upd_same, ?_, hd, ?_⟩
  · rw [upd_ne hda, upd_same]
  · refine hw d _ hd (fun b o hb => ?_) upd_same
    have hba : b ≠ a := ne_of_none hb ha
    have hbd : b ≠ d := ne_of_none hb hd
    rw [upd_ne hbd, del_ne hba, upd_ne hba, upd_ne hbd, upd_ne hba]
    exact hb
/-! ## isinstance of a caught exception -/
/-- what the written part says of the class -/
structure ExcK (K : PySem.W.Frag) (C : Addr) : Prop where
  k0 : (PySem.W.clsIn K C).isSome = true
  k4 : PySem.W.findIn K (.ref C) "__getattribute__" = some (some (.builtin "BaseException.__getattribute__"))
  k5 : PySem.W.findIn K (.ref C) "__getattr__" = some none
  k6 : PySem.W.subIn K (.ref C) (.type "BaseException") = some true
  k7 : PySem.W.findIn K (.ref C) "__class__" = some (some (.builtin "object.__class__"))
  k8 : PySem.W.specialIn K (.builtin "object.__class__") "__get__" = some (some (.builtin "getset_descriptor.__get__"))
  k9 : PySem.W.takesIn K (.builtin "object.__class__") = some true
  k10 : PySem.W.mroIn K C (.type "object") = some true
/-- isinstance(e, c): a the caught exception, of the class at C; c a class, or a tuple of classes -/
def tXi (K : PySem.W.Frag) (a : Addr) (cls : Value) (d : Option Addr) (C : Addr) (ta : TA) : TE := fun σ H Q => ta σ H fun vs H1 => cls = .ref C ∧ (∃ (dd : Addr) (fs : List (Str × V)), d = some dd ∧ H1 dd = some (.xd fs)) ∧
  ∃ b : Bool, Q (.bl b) H1 ∧ ((∃ (c : V) (u : Value), vs = [.ref a, c] ∧ ClsV c u ∧ PySem.W.kitOne K (.ref C) u = some b) ∨
    ∃ (tp : Addr) (cs : List V) (us : List Value), vs = [.ref a, .ref tp] ∧ H1 tp = some (.tup cs) ∧ Paired ClsV cs us ∧ PySem.W.kitAny K (.ref C) us = some b)
theorem pe_xi {X : Cx} {a C : Addr} {oe : Obj} {cls : Value} {d : Option Addr} {pn : List (Addr × Obj)} {e : Expr} {es : List Expr} {ta : TA} {p pos : Pos} (T : ExcK X.K C)
    (hz : Zc cls d oe) (hf : ∃ vs, oe.data = .fields vs) (hg : Gl (X.suite a ((a, oe) :: pn)) "isinstance") (hm : X.mg "isinstance" = none) (ha : PA (X.suite a ((a, oe) :: pn)) (e :: es) ta)
    (hv : bootBuiltins ("isinstance" : Str) = some (.builtin "isinstance") := by decide +kernel)
    (he : starEach (e :: es) X.env = (false, eval e X.env) :: starEach es X.env := by rfl) (hpl : (backTo pos (starEach es X.env)).any (·.1) = false := by rfl) :
    PE (X.suite a ((a, oe) :: pn)) (.Call (.Name "isinstance" p) (e :: es) [] pos) (tXi X.K a cls d C ta) := by
  refine ⟨fun pins s σ H Q I h => ?_⟩
  refine wpAny_Call_Name_kw (ld_blt I hg hm hv ?_ (by decide) (by decide))
  refine PyProof.Rows.callWith_builtin1 (thn (ha.run pos pins s σ H _ I h) fun us s1 hh => ?_) he hpl
  obtain ⟨vs, H1, I1, r1, ec, ⟨dd, fs, ed, ea⟩, b, q, hb⟩ := hh
  subst ec
  subst ed
  obtain ⟨ho, _⟩ := I1.pin (a, oe) (List.mem_append_left _ List.mem_cons_self)
  obtain ⟨fv, hd⟩ := hf
  have hx : ObjOk X.prog X.w H1 s1.heap dd (.xd fs) := I1.hok dd _ ea
  obtain ⟨mA, hns, hr⟩ := hx
  obtain ⟨od, hod, hl⟩ := lookIn_ns hns
  have J : PySem.W.InstAt s1.heap a oe C (some od) := ⟨ho, hz.1, by unfold PySem.W.notCls; rw [hd] <;> rfl, by rw [hz.2]; exact hod⟩
  have Z := PySem.W.kitx_exc (x := a) (ox := oe) (od := some od) T.k0 T.k4 T.k5 T.k6 T.k7 T.k8 T.k9 T.k10
  rcases hb with ⟨c, u, rfl, k, e1⟩ | ⟨tp, cs, ws, rfl, hT, k, e1⟩
  · obtain ⟨u1, u2, rfl, x1, x2⟩ := vals2 r1
    have e2 := k.eq x2
    subst e2
    cases (show u1 = Value.ref a from x1)
    exact PySem.W.kia_one Z I1.kIn J e1 (fun z => nomatch z) fun tk => ⟨.bl b, H1, I1.tok tk, rfl, q⟩
  · obtain ⟨u1, u2, rfl, x1, x2⟩ := vals2 r1
    cases (show u1 = Value.ref a from x1)
    cases (show u2 = Value.ref tp from x2)
    obtain ⟨_, its, rv, o, h1, h2, n, h3⟩ := (show ObjOk X.prog X.w H1 s1.heap tp (.tup cs) from I1.hok tp _ hT)
    have e3 := ClsV.all k rv
    subst e3
    obtain ⟨oc, od', dt, sl⟩ := o
    simp only at h2 h3
    subst h2 h3
    exact PySem.W.kia_tup Z I1.kIn J h1 e1 (fun z => nomatch z) fun tk => ⟨.bl b, H1, I1.tok tk, rfl, q⟩
/-! ## readings -/
section
variable {t ta : TA} {te : TE} {σ : L2.St} {H : Hp} {Q : VK} {sp : Sp} {E : L2.St → XK} {C a dd : Addr} {E' : XK} {D : Ends} {K : PySem.W.Frag} {fs : List (Str × V)} {f : Str} {v c : V} {u : Value} {b : Bool}
theorem rCallS (h : t σ H fun vs H1 => sp vs H1 Q (E σ)) : tCallS sp E t σ H Q := h
theorem rRaise (h : ta σ H fun vs H1 => vs.length ≤ 1000 ∧ ∀ a, H1 a = none → sp (.ref a :: (vs ++ [])) (upd H1 a (exo a C none))
      (fun v H2 => v = .non ∧ ∃ (d : Addr) (fs : List (Str × V)), H2 a = some (exo a C (some d)) ∧ H2 d = some (exd d fs) ∧ H1 d = none ∧ E' (.ref C) (some d) (upd (del H2 a) d (.xd fs))) (fun _ _ _ => False)) :
    tMkO C sp [] ta σ H E' := h
theorem rXf (h : te σ H fun x H1 => x = .ref a ∧ (Value.ref C) = .ref C ∧ ∃ (d' : Addr) (fs : List (Str × V)) (v : V), some dd = some d' ∧ H1 d' = some (.xd fs) ∧ fs.lookup f = some v ∧ Q v H1) : tXf a (.ref C) (some dd) C f te σ H Q := h
theorem xf_end {R : V → Prop} (hd : H dd = some (.xd fs)) (e : fs.lookup f = some v) (h : R v) : (V.ref a : V) = .ref a ∧ (Value.ref C) = .ref C ∧ ∃ (d' : Addr) (fs : List (Str × V)) (v : V), some dd = some d' ∧ H d' = some (.xd fs) ∧ fs.lookup f = some v ∧ R v := ⟨rfl, rfl, dd, fs, v, rfl, hd, e, h⟩
theorem rXi (h : ta σ H fun vs H1 => (Value.ref C) = .ref C ∧ (∃ (d' : Addr) (fs : List (Str × V)), some dd = some d' ∧ H1 d' = some (.xd fs)) ∧
  ∃ b : Bool, Q (.bl b) H1 ∧ ((∃ (c : V) (u : Value), vs = [.ref a, c] ∧ ClsV c u ∧ PySem.W.kitOne K (.ref C) u = some b) ∨
    ∃ (tp : Addr) (cs : List V) (us : List Value), vs = [.ref a, .ref tp] ∧ H1 tp = some (.tup cs) ∧ Paired ClsV cs us ∧ PySem.W.kitAny K (.ref C) us = some b)) : tXi K a (.ref C) (some dd) C ta σ H Q := h
theorem xi_own {R : Bool → Prop} {c : Addr} (hd : H dd = some (.xd fs)) (e : PySem.W.kitOne K (.ref C) (.ref c) = some b) (h : R b) : (Value.ref C) = .ref C ∧ (∃ (d' : Addr) (fs : List (Str × V)), some dd = some d' ∧ H d' = some (.xd fs)) ∧
  ∃ b : Bool, R b ∧ ((∃ (c' : V) (u : Value), [V.ref a, .ref c] = [.ref a, c'] ∧ ClsV c' u ∧ PySem.W.kitOne K (.ref C) u = some b) ∨
    ∃ (tp : Addr) (cs : List V) (us : List Value), [V.ref a, .ref c] = [.ref a, .ref tp] ∧ H tp = some (.tup cs) ∧ Paired ClsV cs us ∧ PySem.W.kitAny K (.ref C) us = some b) := ⟨rfl, ⟨dd, fs, rfl, hd⟩, b, h, .inl ⟨_, _, rfl, .own c, e⟩⟩
theorem xi_ty {R : Bool → Prop} {n : String} (hd : H dd = some (.xd fs)) (e : PySem.W.kitOne K (.ref C) (.type n) = some b) (h : R b) : (Value.ref C) = .ref C ∧ (∃ (d' : Addr) (fs : List (Str × V)), some dd = some d' ∧ H d' = some (.xd fs)) ∧
  ∃ b : Bool, R b ∧ ((∃ (c' : V) (u : Value), [V.ref a, .ty n] = [.ref a, c'] ∧ ClsV c' u ∧ PySem.W.kitOne K (.ref C) u = some b) ∨
    ∃ (tp : Addr) (cs : List V) (us : List Value), [V.ref a, .ty n] = [.ref a, .ref tp] ∧ H tp = some (.tup cs) ∧ Paired ClsV cs us ∧ PySem.W.kitAny K (.ref C) us = some b) := ⟨rfl, ⟨dd, fs, rfl, hd⟩, b, h, .inl ⟨_, _, rfl, .ty n, e⟩⟩
theorem rOst {to te : TE} {nx : L2.St → Hp → Prop} {rt : VK} {bk ct : L2.St → Hp → Prop} (h : te σ H fun y H1 => to σ H1 fun x H2 => ∃ a C : Addr, x = .ref a ∧ OexC K C ∧ PySem.W.findIn K (.ref C) f = some none ∧
  ((H2 a = some (exo a C none) ∧ ∀ dx, H2 dx = none → dx ≠ a → nx σ (upd (upd H2 dx (exd dx [(f, y)])) a (exo a C (some dx)))) ∨
    ∃ (dx : Addr) (fs : List (Str × V)), H2 a = some (exo a C (some dx)) ∧ H2 dx = some (exd dx fs) ∧ fs.length ≤ 900 ∧ nx σ (upd H2 dx (exd dx ((f, y) :: fs))))) : tOst K f to te ⟨nx, rt, bk, ct⟩ σ H := h
theorem rRevL (h : te σ H fun x H1 => ∃ a xs, x = .ref a ∧ SqL K H1 a xs ∧ newO (.lst xs.reverse) H1 Q) : tRevL K te σ H Q := h
theorem revL_end {xs : List V} {p : Addr} (hp : H p = some (.lst xs)) (h : newO (.lst xs.reverse) H Q) : ∃ a ys, (V.ref p : V) = .ref a ∧ SqL K H a ys ∧ newO (.lst ys.reverse) H Q := ⟨p, xs, rfl, SqL.of hp, h⟩
end
/-- a whole number's text is short -/
theorem num_len {n : Nat} (h : n ≤ 3000) : (Str.ofString (toString ((n : Nat) : Int))).length ≤ 4 := by
  have e := TL.tl_num n
  have k : ∀ m, m < 3001 → (TL.numL m).length ≤ 4 := by decide +kernel
  rw [TL.len_tl, e]
  exact k n (by omega)
theorem str_int {i : Int} {H : Hp} {Q : VK} (h : i.natAbs.log2 < 1920) (k : Q (.str (toString i)) H) : rStrI [.int i] H Q := ⟨i, rfl, h, k⟩
theorem log_small {i : Int} (h : i.natAbs ≤ 3000) : i.natAbs.log2 < 1920 := by
  by_cases h0 : i.natAbs = 0
  · rw [h0]
    decide
  · have : i.natAbs.log2 < 12 := (Nat.log2_lt h0).mpr (by show i.natAbs < 4096; omega)
    omega
/-! ## classes of exceptions: what is asked of the written part -/
section
variable {K : PySem.W.Frag} {S C : Addr} {b : Bool}
theorem exm_self (h1 : PySem.W.subIn K (.ref S) (.type "BaseException") = some true) (h2 : PySem.W.isClsIn K S = true) (h3 : PySem.W.typeIn K (.ref S) = some (.type "type")) (h4 : PySem.W.subIn K (.ref S) (.ref S) = some true) :
    PySem.W.exmOne K (.ref S) (.ref S) = some true := by
  have e1 : (PySem.W.subIn K (.ref S) (.type "BaseException") == some true) = true := by rw [h1] <;> rfl
  have e2 : ((PySem.W.clsIn K S).isSome && PySem.W.typeIn K (.ref S) == some (.type "type")) = true := by
    have h2' : (PySem.W.clsIn K S).isSome = true := h2
    rw [h2', h3] <;> rfl
  show (if (PySem.W.subIn K (.ref S) (.type "BaseException") == some true) = true then (if ((PySem.W.clsIn K S).isSome && PySem.W.typeIn K (.ref S) == some (.type "type")) = true then PySem.W.subIn K (.ref S) (.ref S) else none) else none) = some true
  rw [if_pos e1, if_pos e2]
  exact h4
theorem kit_ref (h2 : PySem.W.isClsIn K S = true) (h3 : PySem.W.typeIn K (.ref S) = some (.type "type")) (h4 : PySem.W.subIn K (.ref C) (.ref S) = some b) (h5 : PySem.W.subIn K (.ref C) (.ref C) = some true) : PySem.W.kitOne K (.ref C) (.ref S) = some b := by
  have e2 : ((PySem.W.clsIn K S).isSome && PySem.W.typeIn K (.ref S) == some (.type "type")) = true := by
    have h2' : (PySem.W.clsIn K S).isSome = true := h2
    rw [h2', h3] <;> rfl
  show (if (Value.ref C == Value.ref S) = true then some true else if ((PySem.W.clsIn K S).isSome && PySem.W.typeIn K (.ref S) == some (.type "type")) = true then PySem.W.subIn K (.ref C) (.ref S) else none) = some b
  by_cases q : (Value.ref C == Value.ref S) = true
  · rw [if_pos q]
    have e : C = S := Value.ref.inj (beq_iff_eq.mp q)
    subst e
    rw [h5] at h4
    exact h4
  · rw [if_neg q, if_pos e2]
    exact h4
theorem kit_tyV (h : PySem.W.subIn K (.ref C) (.type "ValueError") = some b) : PySem.W.kitOne K (.ref C) (.type "ValueError") = some b := by
  show (if (Value.ref C == Value.type "ValueError") = true then some true else if PySem.W.kitMeta "ValueError" = true then PySem.W.subIn K (.ref C) (.type "ValueError") else none) = some b
  rw [if_neg (fun z => nomatch (beq_iff_eq.mp z : Value.ref C = Value.type "ValueError")), if_pos (by decide +kernel)]
  exact h
end
end Z
namespace Z
open PySem PySem.Spec PyProof.Rows L2
/-! ## str of an edit -/
theorem tl_neg (s t : String) : TL.tl (Str.ofString (s ++ t)) = TL.tl (Str.ofString s) ++ TL.tl (Str.ofString t) := by
  rw [Str.ofString_eq_toList, Str.ofString_eq_toList, Str.ofString_eq_toList]
  show ((s ++ t).toList.map Char.toNat).toArray.toList = (s.toList.map Char.toNat).toArray.toList ++ (t.toList.map Char.toNat).toArray.toList
  simp
theorem num_len' {i : Int} (h : i.natAbs < 1000000000) : (Str.ofString (toString i)).length ≤ 10 := by
  match i, h with
  | .ofNat n, h =>
    rw [TL.len_tl]
    show (TL.tl (Str.ofString (toString ((n : Nat) : Int)))).length ≤ 10
    rw [TL.tl_num]
    have := TL.numL_len (n := n) (k := 9) (by omega) h
    omega
  | .negSucc n, h =>
    rw [TL.len_tl]
    show (TL.tl (Str.ofString ("-" ++ toString (((n + 1 : Nat) : Int))))).length ≤ 10
    rw [tl_neg, TL.tl_num, List.length_append]
    have := TL.numL_len (n := n + 1) (k := 9) (by omega) h
    have e : (TL.tl (Str.ofString "-")).length = 1 := by decide +kernel
    omega
/-- str(t), t a tuple of ints and texts: some bounded text -/
theorem str_tup {prog : Program} {w : World} {A : Around} {E : Value → Shared → Prop} {s : Shared} {a : Addr} {o : Obj} {items : Array Value} {n : Nat} {ts : List Str} {Q : Value → Shared → Prop} (hu : A.units + 4 < cLine) (ha : s.heap.get? a = some o) (hc : o.cls = .type "tuple") (hd : o.data = .seq items n)
    (hT : ∀ (prog : Program) (w : World), ReprAll prog w items.toList ts) (hsz : (tupleText ts).length ≤ sizeLine)
    (h : ∀ (m : Str) (u tk : Tok), m.length ≤ (tupleText ts).length + 5 → Q (.str m u) { s with toks := tk }) : wpAny (model prog w) A (call (.type "str") [.ref a]) Q E s :=
  callType_new F.called_str (by decide) (F.typeCall_str_1 _) (F.newCall_str_1 _) (fun obj => F.args_object_init_2 obj _) F.entry_str_new
    (meets_str_new (S := fun A' R s' => A'.units + 3 < cLine ∧ s'.heap.get? a = some o ∧
        ∀ m u tk, m.length ≤ (tupleText ts).length + 5 → R (.ok (.ret (.str m u))) { s' with toks := tk })
      fun prog' w' A' R s' h => wpAny_strOf_slot rfl (by show A'.units + 1 + 1 < cLine; have := h.1; omega) ⟨o, h.2.1, hc⟩ F.slot_tuple_str F.slot_tuple_repr
        (fmt_tuple_repr h.2.1 hc hd (hT prog' w') hsz fun m u tk hm => ⟨m, u, rfl, h.2.2 m u tk hm⟩))
    ⟨by show A.units + 1 + 3 < cLine; omega, ha, fun m u tk hm => ⟨typeIs_str _ _ _, h m u tk hm⟩⟩
theorem ok_small {x : Str} (h : Ok x) : ∀ c ∈ x.cps.toList, c < 16 ^ 8 := fun c hc => by
  have h1 : c < 1114112 := h c hc
  exact Nat.lt_trans h1 (by decide)
theorem int_small {i : Int} (h : i.natAbs < 1000000000) : i.natAbs.log2 < 1920 := by
  by_cases h0 : i.natAbs = 0
  · rw [h0]
    decide
  · have : i.natAbs.log2 < 30 := (Nat.log2_lt h0).mpr (by show i.natAbs < 1073741824; omega)
    omega
/-- str of an edit: some text, not long -/
def rStrE : List V → Hp → VK → Prop := fun vs H Q => ∃ (v : V) (x : Ed), vs = [v] ∧ EdAt H v x ∧ x.s.natAbs < 1000000000 ∧ x.e.natAbs < 1000000000 ∧ Ok x.n ∧ x.n.length ≤ 100000 ∧ ∀ m : Str, m.length ≤ 2000000 → Q (.str m) H
theorem call_strE {X : Cx} (hu : X.A.units + 64 < cLine) : CallR X (.type "str") rStrE := by
  intro pins s σ H vs us Q I r h
  obtain ⟨v, x, rfl, ⟨p, rfl, hp⟩, h1, h2, hk, hl, q⟩ := h
  obtain ⟨u, rfl, r1⟩ := vals1 r
  cases r1
  obtain ⟨its, rv, ⟨o, ho, hcl, n, hd⟩, _⟩ := I.tuple (SqT.of hp)
  have e1 := StrLaws.reprText_len x.n (ok_small hk)
  have e2 := num_len' h1
  have e3 := num_len' h2
  have hz := sizeLine_eq
  have htx := fmt_text [Str.ofString (toString x.s), Str.ofString (toString x.e), reprText x.n]
  rw [piled_cons, piled_cons, piled_cons, piled_nil] at htx
  have hT : ∀ (prog : Program) (w : World), ReprAll prog w its.toArray.toList [Str.ofString (toString x.s), Str.ofString (toString x.e), reprText x.n] := fun prog w => by
    cases rv with
    | cons a1 rv =>
      cases rv with
      | cons a2 rv =>
        cases rv with
        | cons a3 rv =>
          cases rv
          obtain ⟨t1, rfl⟩ := a1
          obtain ⟨t2, rfl⟩ := a2
          obtain ⟨t3, rfl⟩ := a3
          exact .cons (ReprIs.int t1 (int_small h1)) (.cons (ReprIs.int t2 (int_small h2)) (.cons (ReprIs.str x.n t3 (by omega)) .nil))
  exact str_tup (by omega) ho hcl hd hT (by omega) fun m u tk hm => ⟨.str m, H, I.tok _, ⟨u, rfl⟩, q m (by omega)⟩
/-- str of an int, or of an edit -/
def rStrU : List V → Hp → VK → Prop := fun vs H Q => rStrI vs H Q ∨ rStrE vs H Q
theorem call_strU {X : Cx} (hu : X.A.units + 64 < cLine) : CallR X (.type "str") rStrU := CallR.or call_strI (call_strE hu)
theorem st_int {i : Int} {H : Hp} {Q : VK} (h : i.natAbs.log2 < 1920) (k : Q (.str (toString i)) H) : rStrU [.int i] H Q := .inl ⟨i, rfl, h, k⟩
theorem st_ed {v : V} {x : Ed} {H : Hp} {Q : VK} (h : EdAt H v x) (h1 : x.s.natAbs < 1000000000 ∧ x.e.natAbs < 1000000000) (h2 : Ok x.n ∧ x.n.length ≤ 100000) (k : ∀ m : Str, m.length ≤ 2000000 → Q (.str m) H) : rStrU [v] H Q := .inr ⟨v, x, rfl, h, h1.1, h1.2, h2.1, h2.2, k⟩
end Z
namespace Z
open PySem PySem.Spec L2
local macro_rules | `(tactic| walk_at "ne") => `(tactic| first
  | with_reducible assumption
  | with_reducible exact Ne.symm (by assumption)
  | exact Frs.ne (by with_reducible assumption) (by walk_at "hp")
  | exact Frs.ne' (by with_reducible assumption) (by walk_at "hp"))
local macro_rules | `(tactic| walk_at "hp") => `(tactic| first
  | with_reducible assumption
  | (with_reducible refine Same.at (by assumption) ?_; walk_at "hp")
  | (with_reducible refine SL.tup (by assumption) ?_; walk_at "hp")
  | (with_reducible refine SL.at (by assumption) (by walk_at "ne") ?_; walk_at "hp"))
local macro_rules | `(tactic| walk_at "sz") => `(tactic| first
  | with_reducible assumption
  | exact Nat.le_of_ble_eq_true rfl
  | (refine sz_le ?_; omega)
  | (refine sz_lt ?_; omega)
  | decide +kernel)
local macro_rules | `(tactic| walk_at "at") => `(tactic| first
  | with_reducible assumption
  | with_reducible exact at0
  | with_reducible exact at1
  | with_reducible exact at2
  | with_reducible exact ixN0)
local macro_rules | `(tactic| walk_at "nn") => `(tactic| first
  | omega
  | decide
  | exact ⟨by decide, by decide⟩
  | exact ⟨by omega, by omega⟩
  | exact ⟨by omega, by omega, by omega, by omega⟩)
local macro_rules | `(tactic| walk_at "rdv") => `(tactic| first
  | (with_reducible refine add_int ?_)
  | (with_reducible refine sub_int ?_)
  | (with_reducible refine neg_int ?_)
  | ((with_reducible refine ix_tpl (xs := ?xs) (v := ?v) ?h1 ?h2 ?_); (case h1 => walk_at "hp"); (case h2 => walk_at "at"))
  | ((with_reducible refine ix_lst (xs := ?xs) (v := ?v) ?h1 ?h2 ?_); (case h1 => walk_at "hp"); (case h2 => walk_at "at"))
  | (with_reducible refine eq_int ?_)
  | (with_reducible refine ne_int ?_)
  | (with_reducible refine lt_int ?_)
  | (with_reducible refine le_int ?_)
  | (with_reducible refine gt_int ?_)
  | (with_reducible refine ge_int ?_)
  | (with_reducible refine eq_str ?_)
  | (with_reducible refine ne_str ?_)
  | (with_reducible refine eq_bl ?_)
  | (with_reducible refine ne_bl ?_)
  | ((with_reducible refine mod_int ?hc ?_); (case hc => walk_at "nn"))
  | ((with_reducible refine div_int ?hc ?_); (case hc => walk_at "nn"))
  | ((with_reducible refine mul_intR ?hc ?_); (case hc => exact ⟨by decide, by decide⟩))
  | ((with_reducible refine mul_intR ?hc ?_); (case hc => exact ⟨by omega, by omega⟩))
  | ((with_reducible refine mul_intL ?hc ?_); (case hc => exact ⟨by omega, by omega⟩))
  | ((with_reducible refine pow_int ?hc ?_); (case hc => exact ⟨by decide, by decide, by decide⟩))
  | ((with_reducible refine add_str ?hc ?_); (case hc => walk_at "sz"))
  | ((with_reducible refine add_lst (xs := ?xs) (ys := ?ys) ?h1 ?h2 ?hc ?_); (case h1 => walk_at "hp"); (case h2 => walk_at "hp"); (case hc => walk_at "sz"))
  | ((with_reducible refine sl_strU ?hc ?_); (case hc => walk_at "sz"))
  | ((with_reducible refine sl_lst (xs := ?xs) ?h1 ?_); (case h1 => walk_at "hp"))
  | (with_reducible refine is_bl ?_)
  | (with_reducible refine isnt_bl ?_)
  | (with_reducible refine is_non ?_)
  | (with_reducible refine isnt_non ?_))
local macro_rules | `(tactic| walk_at "rdc") => `(tactic| first
  | ((with_reducible refine len_lst (xs := ?xs) ?h1 ?_); (case h1 => walk_at "hp"))
  | ((with_reducible refine len_tup (xs := ?xs) ?h1 ?_); (case h1 => walk_at "hp"))
  | ((with_reducible refine len_str ?hc ?_); (case hc => walk_at "sz"))
  | (with_reducible refine int_int ?_)
  | (with_reducible refine max_int ?_)
  | (with_reducible refine min_int ?_)
  | (with_reducible refine abs_int ?_)
  | (with_reducible refine isi_ii ?_)
  | (with_reducible refine isi_ib ?_)
  | (with_reducible refine isi_ss ?_)
  | (with_reducible refine isi_bb ?_)
  | ((with_reducible refine isi_tt (xs := ?xs) ?h1 ?_); (case h1 => walk_at "hp"))
  | ((with_reducible refine isi_ll (xs := ?xs) ?h1 ?_); (case h1 => walk_at "hp"))
  | ((with_reducible refine list_lst (xs := ?xs) ?h1 ?_); (case h1 => walk_at "hp"))
  | ((with_reducible refine list_tup (xs := ?xs) ?h1 ?_); (case h1 => walk_at "hp"))
  | ((with_reducible refine tuple_lst (xs := ?xs) ?h1 ?_); (case h1 => walk_at "hp"))
  | ((with_reducible refine tuple_tup (xs := ?xs) ?h1 ?_); (case h1 => walk_at "hp"))
  | ((with_reducible refine append_lst (xs := ?xs) ?h1 ?hc ?_); (case h1 => walk_at "hp"); (case hc => walk_at "sz"))
  | ((with_reducible refine clear_lst (xs := ?xs) ?h1 ?_); (case h1 => walk_at "hp"))
  | ((with_reducible refine set_lst (xs := ?xs) (k := ?k) ?h1 ?h2 ?_); (case h1 => walk_at "hp"); (case h2 => walk_at "at")))
local macro_rules | `(tactic| walk_at "rd1") => `(tactic| first
  | ((with_reducible refine rVar (v := ?v) ?h ?_); (case h => exact rfl))
  | (with_reducible refine rC ?_)
  | (with_reducible refine rCons ?_)
  | (with_reducible refine rNil ?_)
  | (with_reducible refine rOp ?_)
  | (with_reducible refine rSeq ?_)
  | (with_reducible refine rAsgN ?_)
  | (with_reducible refine rAsgT ?_)
  | (with_reducible refine rAsgS ?_)
  | (with_reducible refine rTest ?_)
  | (with_reducible refine rBl ?_)
  | (with_reducible refine rBl' ?_)
  | (with_reducible refine rInt ?_)
  | (with_reducible refine rInt' ?_)
  | (with_reducible refine rCall ?_)
  | (with_reducible refine rCB ?_)
  | (with_reducible refine rRet ?_)
  | (with_reducible refine rDrop ?_)
  | (with_reducible refine rIfS ?_)
  | (with_reducible refine rTup ?_)
  | (with_reducible refine rLst ?_)
  | (with_reducible refine ⟨Nat.le_of_ble_eq_true rfl, ?_⟩)
  | (with_reducible refine rSl ?_)
  | (with_reducible refine rPart ?_)
  | (with_reducible refine rNoPart ?_)
  | (with_reducible refine rBM ?_)
  | (with_reducible refine rBM0 ?_)
  | ((with_reducible refine tyL (xs := ?xs) ?h1 ?_); (case h1 => walk_at "hp"))
  | (with_reducible refine rM1 ?_)
  | (with_reducible refine rM0 ?_)
  | (with_reducible refine rStr ?_)
  | (with_reducible refine rTru ?_)
  | (with_reducible refine tru_bl ?_)
  | (with_reducible refine tru_int ?_)
  | ((with_reducible refine tru_lst (xs := ?xs) ?h1 ?_); (case h1 => walk_at "hp"))
  | ((with_reducible refine tru_tup (xs := ?xs) ?h1 ?_); (case h1 => walk_at "hp"))
  | ((with_reducible refine tru_str ?hc ?_); (case hc => walk_at "sz"))
  | (with_reducible refine rAnd ?_)
  | (with_reducible refine rOr ?_)
  | (with_reducible refine rNot ?_)
  | (with_reducible refine rAndV ?_)
  | (with_reducible refine rOrV ?_)
  | (with_reducible refine rNotV ?_)
  | (with_reducible refine rIfE ?_)
  | (with_reducible refine rChain ?_)
  | (with_reducible refine rChain3 ?_)
  | (with_reducible refine ifT ?_)
  | (with_reducible refine ifF ?_)
  | (with_reducible refine ifNF ?_)
  | (with_reducible refine ifNT ?_)
  | (with_reducible refine rNext ?_)
  | (with_reducible refine rBrk ?_)
  | (with_reducible refine rCnt ?_)
  | (with_reducible refine rRetN ?_)
  | (with_reducible refine rForR1 ?_)
  | (with_reducible refine rForR2 ?_)
  | (with_reducible refine rForL ?_)
  | ((with_reducible refine rRg1 ?hb ?_); (case hb => walk_at "nn"))
  | ((with_reducible refine rRg2 ?hb ?_); (case hb => walk_at "nn"))
  | ((with_reducible refine rRf (xs := ?xs) ?h1 ?_); (case h1 => walk_at "hp"))
  | (with_reducible refine rLcR1 ?_)
  | (with_reducible refine rLcR2 ?_)
  | (with_reducible refine rLcL ?_)
  | (with_reducible refine gN ?_)
  | (with_reducible refine gNl ?_)
  | (with_reducible refine gC ?_)
  | ((with_reducible refine gT (xs := ?xs) ?h1 ?h2 ?_); (case h1 => walk_at "hp"); (case h2 => exact rfl))
  | (with_reducible refine rUn ?_)
  | walk_at "rdv"
  | walk_at "rdc")
local macro_rules | `(tactic| walk_at "rd") => `(tactic| repeat walk_at "rd1")

local macro_rules | `(tactic| walk_at "rd1") => `(tactic| first
  | (with_reducible refine rCallS ?_)
  | (with_reducible refine rRaise ?_)
  | (with_reducible refine rXf ?_)
  | (with_reducible refine rXi ?_)
  | (with_reducible refine rOst ?_)
  | (with_reducible refine rRevL ?_)
  | ((with_reducible refine revL_end (xs := ?xs) ?h1 ?_); (case h1 => walk_at "hp")))

def sp_EditError (C : Addr) : Sp := fun vs H Q _ => ∃ (x : Addr) (n : Nat), vs = [.ref x, .int n] ∧ n ≤ 3000 ∧ H x = some (exo x C none) ∧
  ∀ d, H d = none → d ≠ x → Q .non (upd (upd H d (exd d [("index", .int n)])) x (exo x C (some d)))
/-- how such an error comes out of a def -/
abbrev BadX (C : Addr) (n : Nat) (H : Hp) (E : XK) : Prop := WantX C [("index", .int n)] H E
def sp_check_edits (C : Addr) : Sp := fun vs H Q E => ∃ (L : Int) (p : Addr) (us : List V) (es : List Ed), vs = [.int L, .ref p] ∧ H p = some (.lst us) ∧ Edits H us es ∧ Mild es ∧
  (fits L es → Q .non H) ∧ ∀ n : Nat, fu L es = n → n ≤ 1000 → BadX C n H E
theorem use_check_edits {C : Addr} {L : Int} {p : Addr} {us : List V} {es : List Ed} {H : Hp} {Q : VK} {E : XK} (hp : H p = some (.lst us)) (he : Edits H us es) (hs : Mild es) (h1 : fits L es → Q .non H) (h2 : ∀ n : Nat, fu L es = n → n ≤ 1000 → BadX C n H E) :
    sp_check_edits C [.int L, .ref p] H Q E := ⟨L, p, us, es, rfl, hp, he, hs, h1, h2⟩
def sp_apply (C : Addr) : Sp := fun vs H Q E => ∃ (t : Str) (p : Addr) (us : List V) (es : List Ed), vs = [.str t, .ref p] ∧ H p = some (.lst us) ∧ Edits H us es ∧ Mild es ∧ t.length ≤ 2000000 ∧ (fits t.length es → Mid t es) ∧
  (fits t.length es → Q (.str (aps t es)) H) ∧ ∀ n : Nat, fu t.length es = n → n ≤ 1000 → BadX C n H E
theorem use_apply {C : Addr} {t : Str} {p : Addr} {us : List V} {es : List Ed} {H : Hp} {Q : VK} {E : XK} (hp : H p = some (.lst us)) (he : Edits H us es) (hs : Mild es) (hl : t.length ≤ 2000000) (hm : fits t.length es → Mid t es) (h1 : fits t.length es → Q (.str (aps t es)) H)
    (h2 : ∀ n : Nat, fu t.length es = n → n ≤ 1000 → BadX C n H E) : sp_apply C [.str t, .ref p] H Q E := ⟨t, p, us, es, rfl, hp, he, hs, hl, hm, h1, h2⟩
def sp_inverse (C : Addr) : Sp := fun vs H Q E => ∃ (t : Str) (p : Addr) (us : List V) (es : List Ed), vs = [.str t, .ref p] ∧ H p = some (.lst us) ∧ Edits H us es ∧ Mild es ∧ t.length ≤ 2000000 ∧ (fits t.length es → Mid t es) ∧
  (fits t.length es → ∀ (q : Addr) (ws : List V) (H' : Hp), Frs H q → Same H H' → H' q = some (.lst ws) → Edits H' ws (bks t es) → Q (.ref q) H') ∧ ∀ n : Nat, fu t.length es = n → n ≤ 1000 → BadX C n H E
theorem use_inverse {C : Addr} {t : Str} {p : Addr} {us : List V} {es : List Ed} {H : Hp} {Q : VK} {E : XK} (hp : H p = some (.lst us)) (he : Edits H us es) (hs : Mild es) (hl : t.length ≤ 2000000) (hm : fits t.length es → Mid t es)
    (h1 : fits t.length es → ∀ (q : Addr) (ws : List V) (H' : Hp), Frs H q → Same H H' → H' q = some (.lst ws) → Edits H' ws (bks t es) → Q (.ref q) H')
    (h2 : ∀ n : Nat, fu t.length es = n → n ≤ 1000 → BadX C n H E) : sp_inverse C [.str t, .ref p] H Q E := ⟨t, p, us, es, rfl, hp, he, hs, hl, hm, h1, h2⟩
section
variable {P : Program} {w : World} {K : PySem.W.Frag} {mg : Str → Option Value} {base : Heap} {aE : Addr}
end
end Z
namespace Z
open PySem PySem.Spec L2
local macro_rules | `(tactic| walk_at "ne") => `(tactic| first
  | with_reducible assumption
  | with_reducible exact Ne.symm (by assumption)
  | exact Frs.ne (by with_reducible assumption) (by walk_at "hp")
  | exact Frs.ne' (by with_reducible assumption) (by walk_at "hp"))
local macro_rules | `(tactic| walk_at "hp") => `(tactic| first
  | with_reducible assumption
  | (with_reducible refine Same.at (by assumption) ?_; walk_at "hp")
  | (with_reducible refine SL.tup (by assumption) ?_; walk_at "hp")
  | (with_reducible refine SL.at (by assumption) (by walk_at "ne") ?_; walk_at "hp"))
local macro_rules | `(tactic| walk_at "sz") => `(tactic| first
  | with_reducible assumption
  | exact Nat.le_of_ble_eq_true rfl
  | (refine sz_le ?_; omega)
  | (refine sz_lt ?_; omega)
  | decide +kernel)
local macro_rules | `(tactic| walk_at "at") => `(tactic| first
  | with_reducible assumption
  | with_reducible exact at0
  | with_reducible exact at1
  | with_reducible exact at2
  | with_reducible exact ixN0)
local macro_rules | `(tactic| walk_at "nn") => `(tactic| first
  | omega
  | decide
  | exact ⟨by decide, by decide⟩
  | exact ⟨by omega, by omega⟩
  | exact ⟨by omega, by omega, by omega, by omega⟩)
local macro_rules | `(tactic| walk_at "rdv") => `(tactic| first
  | (with_reducible refine add_int ?_)
  | (with_reducible refine sub_int ?_)
  | (with_reducible refine neg_int ?_)
  | ((with_reducible refine ix_tpl (xs := ?xs) (v := ?v) ?h1 ?h2 ?_); (case h1 => walk_at "hp"); (case h2 => walk_at "at"))
  | ((with_reducible refine ix_lst (xs := ?xs) (v := ?v) ?h1 ?h2 ?_); (case h1 => walk_at "hp"); (case h2 => walk_at "at"))
  | (with_reducible refine eq_int ?_)
  | (with_reducible refine ne_int ?_)
  | (with_reducible refine lt_int ?_)
  | (with_reducible refine le_int ?_)
  | (with_reducible refine gt_int ?_)
  | (with_reducible refine ge_int ?_)
  | (with_reducible refine eq_str ?_)
  | (with_reducible refine ne_str ?_)
  | (with_reducible refine eq_bl ?_)
  | (with_reducible refine ne_bl ?_)
  | ((with_reducible refine mod_int ?hc ?_); (case hc => walk_at "nn"))
  | ((with_reducible refine div_int ?hc ?_); (case hc => walk_at "nn"))
  | ((with_reducible refine mul_intR ?hc ?_); (case hc => exact ⟨by decide, by decide⟩))
  | ((with_reducible refine mul_intR ?hc ?_); (case hc => exact ⟨by omega, by omega⟩))
  | ((with_reducible refine mul_intL ?hc ?_); (case hc => exact ⟨by omega, by omega⟩))
  | ((with_reducible refine pow_int ?hc ?_); (case hc => exact ⟨by decide, by decide, by decide⟩))
  | ((with_reducible refine add_str ?hc ?_); (case hc => walk_at "sz"))
  | ((with_reducible refine add_lst (xs := ?xs) (ys := ?ys) ?h1 ?h2 ?hc ?_); (case h1 => walk_at "hp"); (case h2 => walk_at "hp"); (case hc => walk_at "sz"))
  | ((with_reducible refine sl_strU ?hc ?_); (case hc => walk_at "sz"))
  | ((with_reducible refine sl_lst (xs := ?xs) ?h1 ?_); (case h1 => walk_at "hp"))
  | (with_reducible refine is_bl ?_)
  | (with_reducible refine isnt_bl ?_)
  | (with_reducible refine is_non ?_)
  | (with_reducible refine isnt_non ?_))
local macro_rules | `(tactic| walk_at "rdc") => `(tactic| first
  | ((with_reducible refine len_lst (xs := ?xs) ?h1 ?_); (case h1 => walk_at "hp"))
  | ((with_reducible refine len_tup (xs := ?xs) ?h1 ?_); (case h1 => walk_at "hp"))
  | ((with_reducible refine len_str ?hc ?_); (case hc => walk_at "sz"))
  | (with_reducible refine int_int ?_)
  | (with_reducible refine max_int ?_)
  | (with_reducible refine min_int ?_)
  | (with_reducible refine abs_int ?_)
  | (with_reducible refine isi_ii ?_)
  | (with_reducible refine isi_ib ?_)
  | (with_reducible refine isi_ss ?_)
  | (with_reducible refine isi_bb ?_)
  | ((with_reducible refine isi_tt (xs := ?xs) ?h1 ?_); (case h1 => walk_at "hp"))
  | ((with_reducible refine isi_ll (xs := ?xs) ?h1 ?_); (case h1 => walk_at "hp"))
  | ((with_reducible refine list_lst (xs := ?xs) ?h1 ?_); (case h1 => walk_at "hp"))
  | ((with_reducible refine list_tup (xs := ?xs) ?h1 ?_); (case h1 => walk_at "hp"))
  | ((with_reducible refine tuple_lst (xs := ?xs) ?h1 ?_); (case h1 => walk_at "hp"))
  | ((with_reducible refine tuple_tup (xs := ?xs) ?h1 ?_); (case h1 => walk_at "hp"))
  | ((with_reducible refine append_lst (xs := ?xs) ?h1 ?hc ?_); (case h1 => walk_at "hp"); (case hc => walk_at "sz"))
  | ((with_reducible refine clear_lst (xs := ?xs) ?h1 ?_); (case h1 => walk_at "hp"))
  | ((with_reducible refine set_lst (xs := ?xs) (k := ?k) ?h1 ?h2 ?_); (case h1 => walk_at "hp"); (case h2 => walk_at "at")))
local macro_rules | `(tactic| walk_at "rd1") => `(tactic| first
  | ((with_reducible refine rVar (v := ?v) ?h ?_); (case h => exact rfl))
  | (with_reducible refine rC ?_)
  | (with_reducible refine rCons ?_)
  | (with_reducible refine rNil ?_)
  | (with_reducible refine rOp ?_)
  | (with_reducible refine rSeq ?_)
  | (with_reducible refine rAsgN ?_)
  | (with_reducible refine rAsgT ?_)
  | (with_reducible refine rAsgS ?_)
  | (with_reducible refine rTest ?_)
  | (with_reducible refine rBl ?_)
  | (with_reducible refine rBl' ?_)
  | (with_reducible refine rInt ?_)
  | (with_reducible refine rInt' ?_)
  | (with_reducible refine rCall ?_)
  | (with_reducible refine rCB ?_)
  | (with_reducible refine rRet ?_)
  | (with_reducible refine rDrop ?_)
  | (with_reducible refine rIfS ?_)
  | (with_reducible refine rTup ?_)
  | (with_reducible refine rLst ?_)
  | (with_reducible refine ⟨Nat.le_of_ble_eq_true rfl, ?_⟩)
  | (with_reducible refine rSl ?_)
  | (with_reducible refine rPart ?_)
  | (with_reducible refine rNoPart ?_)
  | (with_reducible refine rBM ?_)
  | (with_reducible refine rBM0 ?_)
  | ((with_reducible refine tyL (xs := ?xs) ?h1 ?_); (case h1 => walk_at "hp"))
  | (with_reducible refine rM1 ?_)
  | (with_reducible refine rM0 ?_)
  | (with_reducible refine rStr ?_)
  | (with_reducible refine rTru ?_)
  | (with_reducible refine tru_bl ?_)
  | (with_reducible refine tru_int ?_)
  | ((with_reducible refine tru_lst (xs := ?xs) ?h1 ?_); (case h1 => walk_at "hp"))
  | ((with_reducible refine tru_tup (xs := ?xs) ?h1 ?_); (case h1 => walk_at "hp"))
  | ((with_reducible refine tru_str ?hc ?_); (case hc => walk_at "sz"))
  | (with_reducible refine rAnd ?_)
  | (with_reducible refine rOr ?_)
  | (with_reducible refine rNot ?_)
  | (with_reducible refine rAndV ?_)
  | (with_reducible refine rOrV ?_)
  | (with_reducible refine rNotV ?_)
  | (with_reducible refine rIfE ?_)
  | (with_reducible refine rChain ?_)
  | (with_reducible refine rChain3 ?_)
  | (with_reducible refine ifT ?_)
  | (with_reducible refine ifF ?_)
  | (with_reducible refine ifNF ?_)
  | (with_reducible refine ifNT ?_)
  | (with_reducible refine rNext ?_)
  | (with_reducible refine rBrk ?_)
  | (with_reducible refine rCnt ?_)
  | (with_reducible refine rRetN ?_)
  | (with_reducible refine rForR1 ?_)
  | (with_reducible refine rForR2 ?_)
  | (with_reducible refine rForL ?_)
  | ((with_reducible refine rRg1 ?hb ?_); (case hb => walk_at "nn"))
  | ((with_reducible refine rRg2 ?hb ?_); (case hb => walk_at "nn"))
  | ((with_reducible refine rRf (xs := ?xs) ?h1 ?_); (case h1 => walk_at "hp"))
  | (with_reducible refine rLcR1 ?_)
  | (with_reducible refine rLcR2 ?_)
  | (with_reducible refine rLcL ?_)
  | (with_reducible refine gN ?_)
  | (with_reducible refine gNl ?_)
  | (with_reducible refine gC ?_)
  | ((with_reducible refine gT (xs := ?xs) ?h1 ?h2 ?_); (case h1 => walk_at "hp"); (case h2 => exact rfl))
  | (with_reducible refine rUn ?_)
  | walk_at "rdv"
  | walk_at "rdc")
local macro_rules | `(tactic| walk_at "rd") => `(tactic| repeat walk_at "rd1")

local macro_rules | `(tactic| walk_at "rd1") => `(tactic| first
  | (with_reducible refine rCallS ?_)
  | (with_reducible refine rRaise ?_)
  | (with_reducible refine rXf ?_)
  | (with_reducible refine rXi ?_)
  | (with_reducible refine rOst ?_)
  | (with_reducible refine rRevL ?_)
  | ((with_reducible refine revL_end (xs := ?xs) ?h1 ?_); (case h1 => walk_at "hp")))

theorem use_planted {r p : Addr} {t : Str} {us : List V} {es : List Ed} {m : Int} {H : Hp} {Q : VK} {E : XK} (hR : Reel H r) (hpr : p ≠ r) (ht : t.length ≤ 5000) (hp : H p = some (.lst us)) (he : Edits H us es) (hf : fits t.length es) (hl : es.length ≤ 300) (hn : ∀ x ∈ es, Nm x) (hm : 0 ≤ m ∧ m ≤ 10)
    (h : ∀ (q : Addr) (us' : List V) (es' : List Ed) (H' : Hp), SL r H H' → Reel H' r → Frs H q → H' q = some (.lst us') → Edits H' us' es' → Small es' → (0 < m → ¬ fits t.length es') → Q (.ref q) H') : sp_law_planted [.ref r, .str t, .ref p, .int m] H Q E := ⟨r, p, t, us, es, m, rfl, hR, hpr, ht, hp, he, hf, hl, hn, hm.1, hm.2, fun q us' es' H' h1 h2 h3 h4 h5 h6 h7 _ => h q us' es' H' h1 h2 h3 h4 h5 h6 h7⟩
theorem use_plantedK {r p : Addr} {t : Str} {us : List V} {es : List Ed} {m : Int} {H : Hp} {Q : VK} {E : XK} (hR : Reel H r) (hpr : p ≠ r) (ht : t.length ≤ 5000) (hp : H p = some (.lst us)) (he : Edits H us es) (hf : fits t.length es) (hl : es.length ≤ 300) (hn : ∀ x ∈ es, Nm x) (hm : 0 ≤ m ∧ m ≤ 10)
    (h : ∀ (q : Addr) (us' : List V) (es' : List Ed) (H' : Hp), SL r H H' → Reel H' r → Frs H q → H' q = some (.lst us') → Edits H' us' es' → Small es' → (0 < m → ¬ fits t.length es') → (∀ k, fits t.length (es'.take k) → es'.take k = es.take k) → Q (.ref q) H') : sp_law_planted [.ref r, .str t, .ref p, .int m] H Q E := ⟨r, p, t, us, es, m, rfl, hR, hpr, ht, hp, he, hf, hl, hn, hm.1, hm.2, h⟩
/-- the reel that is being filled -/
def Rl (H : Hp) (p : Addr) (lo hi : Nat) : Prop := ∃ ms : List Int, H p = some (.lst (V.int 0 :: ms.map V.int)) ∧ lo ≤ ms.length ∧ ms.length ≤ hi
theorem Rl.put {H' : Hp} {p : Addr} {ms : List Int} {z : Int} {lo hi : Nat} (h : H' p = some (.lst ((V.int 0 :: ms.map V.int) ++ [V.int z]))) (h1 : lo ≤ ms.length) (h2 : ms.length ≤ hi) : Rl H' p (lo + 1) (hi + 1) :=
  ⟨ms ++ [z], by rw [h, List.map_append]; rfl, by rw [List.length_append]; show _ ≤ _ + 1; omega, by rw [List.length_append]; show _ + 1 ≤ _; omega⟩
theorem Rl.le {H : Hp} {p : Addr} {lo hi lo' hi' : Nat} (h : Rl H p lo hi) (h1 : lo' ≤ lo) (h2 : hi ≤ hi') : Rl H p lo' hi' := let ⟨ms, e, a, b⟩ := h; ⟨ms, e, by omega, by omega⟩
def sp_law_reel (K : PySem.W.Frag) : Sp := fun vs H Q _ => ∃ (a : Addr) (ns : List Int), vs = [.ref a] ∧ SqL K H a (ns.map V.int) ∧ ns.length ≤ 63 ∧ ∀ (r : Addr) (H' : Hp), Frs H r → Same H H' → Reel H' r → Q (.ref r) H'
theorem use_reel {K : PySem.W.Frag} {a : Addr} {ns : List Int} {H : Hp} {Q : VK} {E : XK} (hs : SqL K H a (ns.map V.int)) (hl : ns.length ≤ 63) (h : ∀ (r : Addr) (H' : Hp), Frs H r → Same H H' → Reel H' r → Q (.ref r) H') : sp_law_reel K [.ref a] H Q E := ⟨a, ns, rfl, hs, hl, h⟩
section
variable {P : Program} {w : World} {K : PySem.W.Frag} {mg : Str → Option Value} {base : Heap} {aE : Addr}
theorem cal_law_reel {f : Addr} {fd : FuncData} (T : Txt mg) (FD : C8.Def K mg "_law_reel" s_law_reel f fd) (b : Binds K fd ["script"] []) : C8.Cal P w K mg base 1 "_law_reel" (sp_law_reel K) [] := by
  refine C8.cal0 FD b .nil sc_law_reel (fun vs H Q E h => ?_) (fun cdv A outer s H vs Q E hr h => ?_)
  · obtain ⟨a, ns, rfl, _⟩ := h; rfl
  · obtain ⟨a, ns, rfl, hS, hl, k⟩ := h
    refine ⟨_, (pss_cons (ps_set (i := 1) sc_law_reel.nd rfl (.inl rfl) (pe_lst (pa_cons pe_int pa_nil)))
  (pss_cons (ps_for PassesOwn.never rfl (pi_range1 rfl T.n_range (pa_cons (pe_callB (call_min2U rfl) (by rfl) T.n_min (by decide +kernel) (pa_cons (pe_callB (call_lenK K) (by rfl) T.n_len PySem.boot_len (pa_cons (pv 0) pa_nil)) (pa_cons pe_int pa_nil))) pa_nil)) (pg_name (i := 2) sc_law_reel.nd rfl (.inl rfl)) (pss_cons (ps_set (i := 3) sc_law_reel.nd rfl (.inl rfl) (pe_ix (ix_K K) (pv 0) (pv 2) (fun _ _ => rfl)))
  (pss_one (ps_if (pt_cmpR op_geU (pe_callB call_absU (by rfl) T.n_abs (by decide +kernel) (pa_cons (pv 3) pa_nil)) (pe_op op_powU pe_int pe_int) (nomark _)) (pss_cons (ps_set (i := 4) sc_law_reel.nd rfl (.inl rfl) (pe_callB call_absU (by rfl) T.n_abs (by decide +kernel) (pa_cons (pv 3) pa_nil)))
  (pss_one (ps_for PassesOwn.never rfl (pi_range1 rfl T.n_range (pa_cons pe_int pa_nil)) (pg_name (i := 5) sc_law_reel.nd rfl (.inl rfl)) (pss_one (ps_if (pt_cmpR op_gtU (pv 4) pe_int (nomark _)) (pss_cons (ps_expr (pe_bm F.plainAttrs_list F.slot_list_append F.type_list_append mt_append (pv 1) (pa_cons (pe_op op_modU (pe_callTy call_intU (by rfl) T.n_int (by decide +kernel) (pa_cons (pv 4) pa_nil)) pe_int) pa_nil)))
  (pss_one (ps_set (i := 4) sc_law_reel.nd rfl (.inl rfl) (pe_op op_divU (pv 4) pe_int)))) pss_nil))))) (pss_cons (ps_set (i := 6) sc_law_reel.nd rfl (.inl rfl) (pe_op op_modU (pe_callTy call_intU (by rfl) T.n_int (by decide +kernel) (pa_cons (pe_op (op_addK K) (pe_op (op_addK K) (pe_op op_mulU (pv 3) pe_int) (pe_op op_mulU (pv 2) pe_int)) pe_int) pa_nil)) pe_int))
  (pss_one (ps_for PassesOwn.never rfl (pi_range1 rfl T.n_range (pa_cons pe_int pa_nil)) (pg_name (i := 5) sc_law_reel.nd rfl (.inl rfl)) (pss_cons (ps_set (i := 6) sc_law_reel.nd rfl (.inl rfl) (pe_op op_modU (pe_callTy call_intU (by rfl) T.n_int (by decide +kernel) (pa_cons (pe_op (op_addK K) (pe_op (op_addK K) (pe_op op_mulU (pv 6) pe_int) (pe_op op_mulU (pv 5) pe_int)) pe_int) pa_nil)) pe_int))
  (pss_one (ps_expr (pe_bm F.plainAttrs_list F.slot_list_append F.type_list_append mt_append (pv 1) (pa_cons (pe_op op_modU (pe_callTy call_intU (by rfl) T.n_int (by decide +kernel) (pa_cons (pe_op op_divU (pv 6) pe_int) pa_nil)) pe_int) pa_nil))))))))))))
  (pss_cons (ps_set (i := 6) sc_law_reel.nd rfl (.inl rfl) (pe_op op_modU (pe_callTy call_intU (by rfl) T.n_int (by decide +kernel) (pa_cons (pe_op (op_addK K) (pe_op (op_addK K) (pe_op op_mulU (pe_callB (call_sumK K rfl) (by rfl) T.n_sum (by decide +kernel) (pa_cons (pv 1) pa_nil)) pe_int) (pe_op op_mulU (pe_callB (call_lenK K) (by rfl) T.n_len PySem.boot_len (pa_cons (pv 1) pa_nil)) pe_int)) pe_int) pa_nil)) pe_int))
  (pss_cons (ps_for PassesOwn.never rfl (pi_range1 rfl T.n_range (pa_cons pe_int pa_nil)) (pg_name (i := 5) sc_law_reel.nd rfl (.inl rfl)) (pss_cons (ps_set (i := 6) sc_law_reel.nd rfl (.inl rfl) (pe_op op_modU (pe_callTy call_intU (by rfl) T.n_int (by decide +kernel) (pa_cons (pe_op (op_addK K) (pe_op (op_addK K) (pe_op op_mulU (pv 6) pe_int) (pe_op op_mulU (pv 5) pe_int)) pe_int) pa_nil)) pe_int))
  (pss_one (ps_expr (pe_bm F.plainAttrs_list F.slot_list_append F.type_list_append mt_append (pv 1) (pa_cons (pe_op op_modU (pe_callTy call_intU (by rfl) T.n_int (by decide +kernel) (pa_cons (pe_op op_divU (pv 6) pe_int) pa_nil)) pe_int) pa_nil))))))
  (pss_one (ps_ret (pv 1))))))), ?_⟩
    show (_ : TS) _ [some (.ref a), none, none, none, none, none, none] H
    walk_at "rd"
    refine newO_gen fun p H1 f1 s1 h1 => ?_
    have g1 : Rl H1 p 0 0 := ⟨[], h1, by simp, by simp⟩
    have hml : (ns.map V.int).length = ns.length := List.length_map ..
    walk_at "rd"
    refine len_sql (s1.seq hS) ?_
    walk_at "rd"
    generalize hnb : (if (63 : Int) < ((ns.map V.int).length : Int) then (63 : Int) else ((ns.map V.int).length : Int)).toNat = nb
    have hnb1 : nb ≤ 63 ∧ nb ≤ ns.length := by rw [← hnb, hml]; split <;> omega
    refine loopR_by (fun i σ' H' => ∃ (o2 o3 o4 o5 o6 : Option V), σ' = [some (.ref a), some (.ref p), o2, o3, o4, o5, o6] ∧ SL p H1 H' ∧ Rl H' p 0 (60 * i)) ?_ ?_ ?_
    · exact ⟨none, none, none, none, none, rfl, SL.refl h1, g1⟩
    · rintro i σ' H2 hi ⟨o2, o3, o4, o5, o6, rfl, s2, g2⟩
      have hat : atI (ns.map V.int) (0 + (i : Int)) = some (V.int (ns[i]'(by omega))) := at_of (j := i) (by omega) (by rw [List.getElem?_map, List.getElem?_eq_getElem (by omega)]; rfl)
      generalize ns[i]'(by omega) = cell at hat
      walk_at "rd"
      refine ix_sql ((SL.same s1 s2 f1).seq hS) hat ?_
      walk_at "rd"
      refine ifD (fun c => ?_) (fun c => ?_)
      · walk_at "rd"
        generalize (if cell < 0 then -cell else cell) = rest0
        refine loopR_by (fun j σ' H' => ∃ (rest : Int) (o5 : Option V), σ' = [some (.ref a), some (.ref p), some (.int (0 + (i : Int))), some (.int cell), some (.int rest), o5, o6] ∧ SL p H1 H' ∧ Rl H' p 0 (60 * i + j)) ?_ ?_ ?_
        · exact ⟨rest0, _, rfl, s2, g2⟩
        · rintro j σ' H3 hj ⟨rest, o5, rfl, s3, ms, h3, l3, l3'⟩
          have hml : (V.int 0 :: ms.map V.int).length ≤ 10000 := by rw [List.length_cons, List.length_map]; omega
          walk_at "rd"
          refine ifD (fun c => ?_) (fun c => ?_)
          · walk_at "rd"
            refine putO_gen h3 fun H4 s4 h4 => ?_
            walk_at "rd"
            exact ⟨_, _, rfl, s3.trans s4, (Rl.put h4 l3 l3').le (by omega) (by omega)⟩
          · walk_at "rd"
            exact ⟨_, _, rfl, s3, ms, h3, l3, by omega⟩
        · rintro σ' H3 ⟨rest, o5, rfl, s3, g3⟩
          exact ⟨_, _, _, _, _, rfl, s3, g3.le (Nat.le_refl _) (by show 60 * i + 60 ≤ _; omega)⟩
      · walk_at "rd"
        generalize (cell * 48271 + (0 + (i : Int)) * 69621 + 4099) % 2147483647 = mixed0
        refine loopR_by (fun j σ' H' => ∃ (m : Int) (o5 : Option V), σ' = [some (.ref a), some (.ref p), some (.int (0 + (i : Int))), some (.int cell), o4, o5, some (.int m)] ∧ SL p H1 H' ∧ Rl H' p 0 (60 * i + j)) ?_ ?_ ?_
        · exact ⟨mixed0, _, rfl, s2, g2⟩
        · rintro j σ' H3 hj ⟨m, o5, rfl, s3, ms, h3, l3, l3'⟩
          have hml : (V.int 0 :: ms.map V.int).length ≤ 10000 := by rw [List.length_cons, List.length_map]; omega
          walk_at "rd"
          refine putO_gen h3 fun H4 s4 h4 => ?_
          walk_at "rd"
          exact ⟨_, _, rfl, s3.trans s4, (Rl.put h4 l3 l3').le (by omega) (by omega)⟩
        · rintro σ' H3 ⟨m, o5, rfl, s3, g3⟩
          exact ⟨_, _, _, _, _, rfl, s3, g3.le (Nat.le_refl _) (by show 60 * i + 4 ≤ _; omega)⟩
    · rintro σ' H2 ⟨o2, o3, o4, o5, o6, rfl, s2, ms, h2, l2, l2'⟩
      walk_at "rd"
      refine sum_lst (ns := 0 :: ms) h2 ?_
      walk_at "rd"
      generalize ((0 :: ms).sum * 69621 + ((V.int 0 :: ms.map V.int).length : Int) * 48271 + 977) % 2147483647 = mixed0
      refine loopR_by (fun j σ' H' => ∃ (m : Int) (o5 : Option V), σ' = [some (.ref a), some (.ref p), o2, o3, o4, o5, some (.int m)] ∧ SL p H1 H' ∧ Rl H' p j (60 * nb + j)) ?_ ?_ ?_
      · exact ⟨mixed0, _, rfl, s2, ms, h2, l2, l2'⟩
      · rintro j σ' H3 hj ⟨m, o5, rfl, s3, ms, h3, l3, l3'⟩
        have hml : (V.int 0 :: ms.map V.int).length ≤ 10000 := by rw [List.length_cons, List.length_map]; omega
        walk_at "rd"
        refine putO_gen h3 fun H4 s4 h4 => ?_
        walk_at "rd"
        exact ⟨_, _, rfl, s3.trans s4, (Rl.put h4 l3 l3').le (by omega) (by omega)⟩
      · rintro σ' H3 ⟨m, o5, rfl, s3, ms, h3, l3, l3'⟩
        walk_at "rd"
        exact k p H3 f1 (SL.same s1 s3 f1) ⟨0, ms, h3, l3, by omega⟩
end
end Z
namespace Z
open PySem PySem.Spec L2
/-! ## a loop downwards, stores within a tuple's target -/
section
variable {g : TG} {tb : TS} {nx : L2.St → Hp → Prop} {rt : VK} {bk ct : L2.St → Hp → Prop} {σ : L2.St} {H : Hp} {ta tb' : TE} {tas : TA} {v : V} {R : L2.St → Hp → Prop}
theorem rForR3 (h : tas σ H fun as H1 => ∃ (i j c : Int) (n : Nat), as = [.int i, .int j, .int c] ∧ RgC i j c n ∧ loopJ (Itc i c n) g tb nx rt σ H1) : tFor (iRng3 tas) g tb ⟨nx, rt, bk, ct⟩ σ H := h
theorem rRgD {i j : Int} {R : Int → Int → Nat → Prop} (b : -(2 ^ 62) ≤ i ∧ i < 2 ^ 62 ∧ -(2 ^ 62) ≤ j ∧ j < 2 ^ 62) (h : R i (-1) (i - j).toNat) : ∃ (i' j' c : Int) (n : Nat), [V.int i, V.int j, V.int (-1)] = [.int i', .int j', .int c] ∧ RgC i' j' c n ∧ R i' c n :=
  ⟨i, j, -1, _, rfl, RgC.neg b.1 b.2.1 b.2.2.1 b.2.2.2, h⟩
theorem loopC_by {lo c : Int} {n : Nat} (Pv : Nat → L2.St → Hp → Prop) (h0 : Pv 0 σ H)
    (hs : ∀ (i : Nat) σ H, i < n → Pv i σ H → g (.int (lo + (i : Int) * c)) σ H fun σ2 H2 => tb ⟨Pv (i + 1), rt, nx, Pv (i + 1)⟩ σ2 H2) (hd : ∀ σ H, Pv n σ H → nx σ H) : loopJ (Itc lo c n) g tb nx rt σ H :=
  for_rangeC (D := ⟨nx, rt, fun _ _ => False, fun _ _ => False⟩) Pv h0 hs hd
theorem gS {r : TSet} (h : ta σ H fun o H2 => tb' σ H2 fun k H3 => r o k v H3 fun H4 => R σ H4) : gSub ta tb' r v σ H R := h
end
theorem Paired.set {α β : Type} {F : α → β → Prop} : ∀ {xs : List α} {ys : List β} {x : α} {y : β} (k : Nat), Paired F xs ys → F x y → Paired F (xs.set k x) (ys.set k y)
  | _, _, _, _, _, .nil, _ => .nil
  | _, _, _, _, 0, .cons _ t, r => .cons r t
  | _, _, _, _, k + 1, .cons h t, r => .cons h (Paired.set k t r)
/-- the item ahead of the rest is replaced -/
theorem take_set {α : Type} {xs ws : List α} {k : Nat} {x y : α} (h : xs[k]? = some x) : (xs.take (k + 1) ++ ws).set k y = xs.take k ++ y :: ws := by
  obtain ⟨h1, e⟩ := List.getElem?_eq_some_iff.mp h
  rw [take_snoc h, List.append_assoc, List.set_append_right _ _ (by rw [List.length_take]; omega)]
  have : k - (xs.take k).length = 0 := by rw [List.length_take]; omega
  rw [this]
  rfl
theorem ixN_pos {n : Nat} {i : Int} {k : Nat} (e : i = (k : Int)) (h : k < n) : ixN n i = some k := by
  subst e
  unfold ixN
  rw [if_pos (by omega), if_pos (by omega)]
  rfl
/-- a list, one of its own made before -/
theorem Same.put {H H1 H2 : Hp} {l : Addr} (s0 : Same H H1) (n : H l = none) (s : SL l H1 H2) : Same H H2 := SL.same s0 s n
end Z
namespace Z
open PySem PySem.Spec PyProof.Rows L2 ItX
/-! ## iter(t), t a tuple -/
/-- at it an iterator over the tuple at a, at its beginning -/
def TItO (a it : Addr) : HO := .ext fun h => h.IsTupleIter it a 0
theorem tit_ok {P : Program} {w : World} {H : Hp} {h : Heap} {a it : Addr} (e : h.IsTupleIter it a 0) : ObjOk P w H h it (TItO a it) := ⟨e, let ⟨o, ho, _⟩ := e; ⟨o, ho⟩, fun h1 h2 q k => let ⟨o, ho, r⟩ := q; ⟨o, k o ho, r⟩⟩
section
variable {X : Cx} {pins : List (Addr × Obj)} {σ : L2.St} {H : Hp} {s : Shared} {a it : Addr}
theorem tit_get (I : Inv X pins σ H s) (e : H it = some (TItO a it)) : s.heap.IsTupleIter it a 0 := (I.hok it _ e).1
theorem call_iter_tup {prog : Program} {w : World} {A : Around} {E : Value → Shared → Prop} {t : Addr} {items : Array Value} {Q : Value → Shared → Prop} (ht : s.heap.IsTuple t items)
    (h : Q (.ref s.heap.objs.size) { s with heap := s.heap.push { cls := .type "tuple_iterator", data := .fields #[.ref t, .int 0 0] } }) : wpAny (model prog w) A (call (.builtin "iter") [.ref t]) Q E s := by
  refine Calls.call_function_entry (by decide +kernel) (by decide +kernel) PySem.W.kdk_entry_iter (PySem.W.kdk_args_iter _) ?_
  unfold Builtin.«iter»
  refine wpAny_bind (m := someArgs "iter" 1 2 _) (wpAny_of_eq (a := [Value.ref t]) (by first | rfl | kernel_rfl!) ?_)
  show wpAny _ _ (pyIter (.ref t) >>= _) _ _ _
  refine wpAny_bind (wpAny_pyIter_tuple ht ?_)
  exact wpAny_pure ⟨_, rfl, h⟩
/-- the new iterator is younger than all that is tracked -/
def rIterT (K : PySem.W.Frag) : List V → Hp → VK → Prop := fun vs H Q => ∃ (a : Addr) (xs : List V), vs = [.ref a] ∧ SqT K H a xs ∧ ∀ it, H it = none → (∀ m o, H m = some o → m < it) → Q (.ref it) (upd H it (TItO a it))
theorem call_iterT : CallR X (.builtin "iter") (rIterT X.K) := by
  intro pins s σ H xs us Q I r h
  obtain ⟨a, zs, rfl, hq, q⟩ := h
  obtain ⟨u, rfl, ru⟩ := vals1 r
  cases ru
  obtain ⟨its, rv, pl, hz⟩ := I.tuple hq
  refine call_iter_tup (show s.heap.IsTuple a its.toArray from pl) ?_
  exact ⟨.ref s.heap.objs.size, _, I.laid (t' := s.toks) (fun b u e => Heap.get?_push_of_some _ e) (Nat.le_refl _) (tit_ok ⟨_, Heap.get?_push_size _ rfl, rfl, rfl⟩), rfl, q _ (I.hok.fresh (Nat.le_refl _)) fun m o e => (I.hok m o e).lt⟩
theorem call_iterTK {K : PySem.W.Frag} (hK : X.K = K := by rfl) : CallR X (.builtin "iter") (rIterT K) := by subst hK; exact call_iterT
end
/-! ## own instances walked: __iter__ hands out a tuple's iterator -/
/-- a class whose __iter__ keeps the promise sp, at level k -/
structure ItM (P : Program) (w : World) (K : PySem.W.Frag) (mg : Str → Option Value) (base : Heap) (k : Nat) (C : Addr) (sp : Sp) : Prop where
  ex : ∃ (f : Addr) (fd : FuncData) (ps : List Str), FnOk P w K mg base C8.CX0 k f fd ps sp ∧ Binds K fd ps [] ∧ PySem.W.findIn K (.ref C) "__iter__" = some (some (.ref f)) ∧ PySem.W.isFn K (.ref f) = true
  nolen : PySem.W.findIn K (.ref C) "__len__" = some none
  nohint : PySem.W.findIn K (.ref C) "__length_hint__" = some none
section
variable {X : Cx} {pins : List (Addr × Obj)} {σ : L2.St} {H : Hp} {s : Shared} {p C dx : Addr} {fs : List (Str × V)} {k j : Nat} {sp : Sp} {A1 : Around}
/-- the iterator comes -/
theorem own_iter (M : ItM X.prog X.w X.K X.mg X.base k C sp) (sb : Sub X k A1) {Q : Value → Shared → Prop} {R : Addr → Addr → Hp → Prop} (I : Inv X pins σ H s) (hp : H p = some (.ins C dx fs))
    (h : sp [.ref p] H (fun v H2 => ∃ it a, v = .ref it ∧ X.s_0.heap.objs.size ≤ it ∧ H2 it = some (TItO a it) ∧ R it a H2) C8.E0)
    (hq : ∀ it a H2 s2, Inv X pins σ H2 s2 → H2 it = some (TItO a it) → X.s_0.heap.objs.size ≤ it → R it a H2 → Q (.ref it) s2) :
    wpAny (model X.prog X.w) A1 (pyIter (.ref p)) Q X.xe s := by
  obtain ⟨mA, J, _⟩ := ins_get I.hok hp
  obtain ⟨od, J, _⟩ := J.look
  obtain ⟨m0, hF⟩ := I.fr
  obtain ⟨f, fd, ps, FN, b, at_, isf⟩ := M.ex
  refine PySem.W.owit_iter hF I.ok.mod.kin J at_ isf ?_
  have e0 : Env0 X.prog X.w X.K X.mg X.base A1 X.stack s H := by
    have e := I.env0
    exact ⟨by rw [sb.fr]; exact e.frames, e.mod, e.bs, e.bsz, e.funs, e.frf, e.hok, e.bare⟩
  have hl := FN.len _ _ _ _ h
  have r2 : Vals [V.ref p] [Value.ref p] := .cons rfl .nil
  refine wpAny_call (codeAny_mono (FN.run A1 X.stack s H ⟨[.ref p], []⟩ [.ref p] [.ref p] _ C8.E0 sb.room e0 (by
    have := b s [.ref p] I.kIn (by simpa using hl)
    simpa using this) r2 h) fun r s' hq' => ?_)
  cases r with
  | error e => exact False.elim hq'
  | ok fl =>
    cases fl with
    | next => exact False.elim hq'
    | brk => exact False.elim hq'
    | cont => exact False.elim hq'
    | ret u =>
      obtain ⟨v, H2, I2, rv, it, a, ev, young, hit, hR⟩ := I.after hq'
      subst ev
      cases rv
      have st := tit_get I2 hit
      unfold PySem.W.OwitIt
      exact wpAny_specialOf (name := Str.ofString "__next__") st.typeIs PySem.F.slot_tuple_iterator_next.lookup (hq it a H2 s' I2 hit young hR)
/-- for x in o -/
def iOwn (n : Nat) (K : PySem.W.Frag) (C : Addr) (sp : Sp) (tl : TE) : TI := fun σ H R => tl σ H fun x H1 => ∃ p dx fs, x = .ref p ∧ H1 p = some (.ins C dx fs) ∧
  sp [.ref p] H1 (fun v H2 => ∃ it a, v = .ref it ∧ n ≤ it ∧ H2 it = some (TItO a it) ∧ R (Itt K a) (dropH H2 it)) C8.E0
theorem pi_own {tg l : Expr} {tl : TE} {n : Nat} (M : ItM X.prog X.w X.K X.mg X.base k C sp) (hr : Room j X.A) (hk : k ≤ j) (hl : PE X l tl) (hn : X.s_0.heap.objs.size = n := by rfl) : PI X tg l (iOwn n X.K C sp tl) := by
  subst hn
  refine ⟨fun pins s σ H R I h => ?_⟩
  refine thn (hl.run pins s σ H _ I h) fun v s1 ⟨x, H1, I1, r1, q1⟩ => ?_
  obtain ⟨p, dx, fs, e, hp, q⟩ := q1
  subst e
  cases r1
  refine own_iter M (⟨hr.mono hk, rfl⟩ : Sub X k X.A) I1 hp q fun it a H2 s2 I2 hit young hR => ?_
  have hi' := hit
  unfold TItO at hi'
  refine ⟨it, [it], _, _, dropH H2 it, rfl, inv_drop I2 hi', turn_tuple a it, tit_get I2 hit, fun b hb => ?_, hR⟩
  have e : b = it := by simpa using hb
  rw [e]
  exact inv_fp I2 hit young
theorem pi_ownK {tg l : Expr} {tl : TE} {n : Nat} {K : PySem.W.Frag} (M : ItM X.prog X.w X.K X.mg X.base k C sp) (hr : Room j X.A) (hk : k ≤ j) (hl : PE X l tl) (hn : X.s_0.heap.objs.size = n := by rfl) (hK : X.K = K := by rfl) : PI X tg l (iOwn n K C sp tl) := by subst hK; exact pi_own M hr hk hl hn
/-! ### list(o) -/
/-- the list at q takes the items from the i-th on -/
theorem own_fill {xs : List V} {q it a : Addr} {H0 : Hp} {Rs : Result → Shared → Prop} (hh : A1.in1.handled = none) (ha : H0 a = some (.tup xs)) (hl : xs.length ≤ sizeLine) (hqa : q ≠ a) (hqi : q ≠ it) (hf : FpOk X pins H0 it)
    (hd : ∀ s, Inv X pins σ (upd H0 q (.lst xs)) s → Rs (.ok (.ret .none)) s) :
    ∀ (n i : Nat) (s : Shared), n + i = xs.length → Inv X pins σ (upd H0 q (.lst (xs.take i))) s → s.heap.IsTupleIter it a i → codeAny (model X.prog X.w) A1 (.builtin "list.extend.loop" ⟨[.ref q, .ref it, .none], []⟩) Rs s := by
  intro n
  induction n with
  | zero =>
    intro i s e I st
    have hta : upd H0 q (.lst (xs.take i)) a = some (.tup xs) := (upd_ne hqa.symm).trans ha
    obtain ⟨its, rv, pl, hz⟩ := I.tuple (SqT.of hta)
    have hlen := rv.length
    apply codeAny_builtin PySem.F.entry_extend_loop
    rw [Around.under_plainId PySem.F.plain_extend_loop _]
    show wpAny _ _ (pyNext (.ref it) >>= _) _ _ _
    apply wpAny_bind
    refine wpAny_pyNext_tuple_end hh st (show s.heap.IsTuple a its.toArray from pl) (by simp; omega) fun h' eb => ?_
    have hn : upd H0 q (.lst (xs.take i)) it = none := (upd_ne hqi.symm).trans hf.1
    have I2 : Inv X pins σ (upd H0 q (.lst (xs.take i))) { s with heap := h' } := I.turned (t' := s.toks) (fun b o hb e => eb b o hb e) hn hf.2.1 hf.2.2.2.1 hf.2.2.2.2.1 hf.2.2.2.2.2
    rw [show i = xs.length by omega, List.take_length] at I2
    exact wpAny_pure (hd _ I2)
  | succ n ih =>
    intro i s e I st
    have hta : upd H0 q (.lst (xs.take i)) a = some (.tup xs) := (upd_ne hqa.symm).trans ha
    obtain ⟨its, rv, pl, hz⟩ := I.tuple (SqT.of hta)
    have hx : xs[i]? = some (xs[i]'(by omega)) := List.getElem?_eq_getElem (by omega)
    obtain ⟨u, hu, ru⟩ := rv.get hx
    have hn : upd H0 q (.lst (xs.take i)) it = none := (upd_ne hqi.symm).trans hf.1
    apply codeAny_builtin PySem.F.entry_extend_loop
    rw [Around.under_plainId PySem.F.plain_extend_loop _]
    show wpAny _ _ (pyNext (.ref it) >>= _) _ _ _
    apply wpAny_bind
    refine wpAny_pyNext_tuple_item st (show s.heap.IsTuple a its.toArray from pl) (x := u) (by simpa using hu) fun h' st' sb => ?_
    have I2 : Inv X pins σ (upd H0 q (.lst (xs.take i))) { s with heap := h' } := I.turned (t' := s.toks) (fun b o hb e => (sb.2 b hb).trans e) hn hf.2.1 hf.2.2.2.1 hf.2.2.2.2.1 hf.2.2.2.2.2
    obtain ⟨z, ws, k, r2, hl2, e2⟩ := I2.lstM upd_same
    have hw := r2.length
    rw [List.length_take] at hw
    show wpAny _ _ (updateSeq q (·.push u) >>= _) _ _ _
    apply wpAny_bind
    refine wpAny_updateSeq e2 rfl ?_ (by rw [List.size_toArray]; omega) (by rw [Array.size_push, List.size_toArray]; omega)
    refine wpAny_pure ⟨plainId_quiet PySem.F.plain_extend_loop _, ih (i + 1) _ (by omega) ?_ ?_⟩
    · have I3 := I2.lset (its' := ws ++ [u]) (f := (·.push u)) (ys := xs.take i ++ [xs[i]'(by omega)]) (t' := s.toks) upd_same e2 (by simp) (r2.append (.cons ru .nil)) (by rw [List.length_append, List.length_take]; show _ + 1 ≤ _; omega)
      rw [upd_upd, ← take_snoc hx] at I3
      exact I3
    · obtain ⟨o, ho, hc, hd'⟩ := st'
      refine ⟨o, ?_, hc, hd'⟩
      exact (Heap.SameBut.update ..).2 it (fun z => hqi z.symm) |>.trans ho
def rListOwn (n : Nat) (C : Addr) (sp : Sp) : List V → Hp → VK → Prop := fun vs H Q => ∃ p dx fs, vs = [.ref p] ∧ H p = some (.ins C dx fs) ∧ ∀ q, H q = none → n ≤ q →
  sp [.ref p] (upd H q (.lst [])) (fun v H2 => ∃ it a, v = .ref it ∧ n ≤ it ∧ H2 it = some (TItO a it) ∧ ∃ xs dx' fs', H2 p = some (.ins C dx' fs') ∧ H2 a = some (.tup xs) ∧ H2 q = some (.lst []) ∧ Q (.ref q) (upd (dropH H2 it) q (.lst xs))) C8.E0
theorem call_listOwn {n : Nat} (M : ItM X.prog X.w X.K X.mg X.base k C sp) (hr : Room j X.A) (hk : k + 2 ≤ j) (hc : X.calm = true) (hn : X.s_0.heap.objs.size = n := by rfl) : CallR X (.type "list") (rListOwn n C sp) := by
  subst hn
  intro pins s σ H xs us Q I rv h
  obtain ⟨p, dx, fs, rfl, hp, hq⟩ := h
  obtain ⟨u, rfl, ru⟩ := rv.one
  cases ru
  have sb : Sub X k X.A.in1.in1 := Sub.in1 (Sub.in1 (⟨hr.mono hk, rfl⟩ : Sub X (k + 2) X.A))
  refine callType_codes (Q₁ := fun obj s1 => obj = .ref s.heap.objs.size ∧ s1 = { s with heap := s.heap.push { cls := .type "list", data := .seq #[] } }) PySem.F.called_list (PySem.F.typeCall_list_1 _) PySem.F.entry_list_init
    (code_list_new _ ⟨rfl, rfl⟩) ?_
  rintro obj s1 ⟨rfl, rfl⟩
  have hS : (s.heap.push { cls := .type "list", data := .seq #[] }).get? s.heap.objs.size = some { cls := .type "list", data := .seq #[] } := Heap.get?_push_size _ rfl
  refine ⟨⟨_, hS, rfl⟩, PySem.F.args_list_init_2 _ _, ?_⟩
  have fr : H s.heap.objs.size = none := I.hok.fresh (Nat.le_refl _)
  have I1 : Inv X pins σ (upd H s.heap.objs.size (.lst [])) { s with heap := s.heap.push { cls := .type "list", data := .seq #[] } } := I.lnew (its := []) (t' := s.toks) .nil (Nat.zero_le _)
  have hsp := hq _ fr I.sz
  generalize hqq : s.heap.objs.size = q at hS fr I1 hsp ⊢
  show wpAny _ _ (do let old ← Builtin.List.listItems (.ref q); Builtin.List.listUpdate (.ref q) (fun _ => #[]); letGo old.toList.reverse; Builtin.List.listExtendWith (.ref q) (.ref p) .none) _ _ _
  apply wpAny_bind
  unfold Builtin.List.listItems
  apply wpAny_bind
  refine wpAny_seqItems hS rfl (wpAny_pure ?_)
  show wpAny _ _ (updateSeq q (fun _ => #[]) >>= fun _ => letGo (#[] : Array Value).toList.reverse >>= fun _ => Builtin.List.listExtendWith (.ref q) (.ref p) .none) _ _ _
  apply wpAny_bind
  refine wpAny_updateSeq hS rfl ?_
  have I2 := I1.lset (f := fun _ => #[]) (its := []) (its' := []) (ys := []) (t' := s.toks) upd_same hS rfl .nil (Nat.zero_le _)
  rw [upd_upd] at I2
  apply wpAny_bind
  apply wpAny_letGo
  have hqp : q ≠ p := (ne_of_none hp fr).symm
  have hp2 : upd H q (.lst []) p = some (.ins C dx fs) := by rw [upd_ne hqp.symm]; exact hp
  obtain ⟨mA, J, _⟩ := ins_get I2.hok hp2
  obtain ⟨od, J, _⟩ := J.look
  unfold Builtin.List.listExtendWith
  apply wpAny_bind
  apply J.type.here
  have h1 : Builtin.List.listSameRef (.ref q) (.ref p) = false := by simp [Builtin.List.listSameRef, hqp]
  have h2 : (Value.ref C == Value.type "list") = false := rfl
  have h3 : (Value.ref C == Value.type "tuple") = false := rfl
  simp only [h1, h2, h3, Bool.or_false, Bool.false_eq_true, if_false]
  apply wpAny_bind
  refine wpAny_mono (own_iter M sb I2 hp2 hsp (Q := fun v s2 => ∃ it a H2, v = .ref it ∧ Inv X pins σ H2 s2 ∧ H2 it = some (TItO a it) ∧ X.s_0.heap.objs.size ≤ it ∧ ∃ xs dx' fs', H2 p = some (.ins C dx' fs') ∧ H2 a = some (.tup xs) ∧ H2 q = some (.lst []) ∧ Q (.ref q) (upd (dropH H2 it) q (.lst xs))) fun it a H2 s2 I3 hit young hR => ⟨it, a, H2, rfl, I3, hit, young, hR⟩) ?_ fun _ _ z => z
  rintro v s2 ⟨it, a, H2, rfl, I3, hit, young, xs, dx', fs', hp3, hxs, hq3, hQ⟩
  have hi' := hit
  unfold TItO at hi'
  have hqi : q ≠ it := fun z => by rw [z, hit] at hq3; cases hq3
  have hai : a ≠ it := fun z => by rw [z, hit] at hxs; cases hxs
  have hpi : p ≠ it := fun z => by rw [z, hit] at hp3; cases hp3
  have hqa : q ≠ a := fun z => by rw [z, hxs] at hq3; cases hq3
  have st := tit_get I3 hit
  have ff := inv_fp I3 hit young
  have I4 := inv_drop I3 hi'
  have hq4 : dropH H2 it q = some (.lst []) := (dropH_ne hqi).trans hq3
  have ha4 : dropH H2 it a = some (.tup xs) := (dropH_ne hai).trans hxs
  have hp4 : dropH H2 it p = some (.ins C dx' fs') := (dropH_ne hpi).trans hp3
  generalize dropH H2 it = H4 at ff I4 hq4 ha4 hp4 hQ
  obtain ⟨mA4, J4, _⟩ := ins_get I4.hok hp4
  obtain ⟨od4, J4, _⟩ := J4.look
  have hH : upd H4 q (.lst []) = H4 := by
    funext b
    by_cases hb : b = q
    · rw [hb, upd_same, hq4]
    · rw [upd_ne hb]
  obtain ⟨its0, rv0, pl0, hz0⟩ := I4.tuple (SqT.of ha4)
  have hl0 := rv0.length
  have fin : ∀ s3 : Shared, Inv X pins σ H4 s3 → s3.heap.IsTupleIter it a 0 → codeAny (model X.prog X.w) X.A.in1 (.builtin "list.extend.loop" ⟨[.ref q, .ref it, .none], []⟩) (wants (fun r s4 => r = .none ∧ EP X pins σ Q (.ref q) s4) X.xe) s3 := fun s3 I5 st5 => by
    refine own_fill (A1 := X.A.in1) (xs := xs) (H0 := H4) (by exact I5.ok.hd hc) ha4 hz0 hqa hqi ff (fun s4 I6 => ⟨rfl, .ref q, _, I6, rfl, hQ⟩) xs.length 0 s3 (by omega) ?_ st5
    rw [List.take_zero, hH]
    exact I5
  apply wpAny_bind
  refine wpAny_holding ?_
  unfold Builtin.List.listLengthHint
  refine wpAny_bind (wpAny_bind (J4.type.here ((PySem.W.looks_findIn I4.kIn M.nolen).here ?_)))
  refine PySem.W.KFB.if_not rfl (PySem.W.KFB.if_not rfl ?_)
  refine wpAny_bind (wpAny_bind (J4.type.here ((PySem.W.looks_findIn I4.kIn M.nohint).here (wpAny_pure ?_))))
  obtain ⟨z, its, kk, r3, hl3, e3⟩ := I4.lstM hq4
  cases r3
  refine wpAny_ite_split (fun _ => ?_) (fun _ => wpAny_pure ⟨plainId_quiet PySem.F.plain_extend_loop _, fin s2 I4 st⟩)
  apply wpAny_bind
  apply wpAny_rule
  apply wpAny_bind
  show wpAny _ _ (updateSeq q (·.push .none) >>= fun _ => updateSeq q (·.pop)) _ _ _
  apply wpAny_bind
  refine wpAny_updateSeq e3 rfl ?_
  have I5 := I4.lset (f := (·.push Value.none)) (its' := [Value.none]) (ys := [.non]) (t' := s2.toks) hq4 e3 (by simp) (.cons rfl .nil) (by show 1 ≤ _; rw [sizeLine_eq]; decide)
  obtain ⟨z4, its4, k4, r4, hl4, e4⟩ := I5.lstM upd_same
  obtain ⟨u4, rfl, ru4⟩ := r4.one
  refine wpAny_updateSeq e4 rfl ?_ (by show 1 ≤ sizeLine; rw [sizeLine_eq]; decide) (Nat.zero_le _)
  refine wpAny_pure ⟨plainId_quiet PySem.F.plain_extend_loop _, fin _ ?_ ?_⟩
  · have I6 := I5.lset (f := (·.pop)) (its := [u4]) (its' := []) (ys := []) (t' := s2.toks) upd_same e4 (by rfl) .nil (Nat.zero_le _)
    rw [upd_upd, hH] at I6
    exact I6
  · obtain ⟨o, ho, hcl, hd'⟩ := st
    refine ⟨o, ?_, hcl, hd'⟩
    have g1 := (Heap.SameBut.update (h := s2.heap) (a := q) (f := Obj.mapSeq (·.push Value.none))).2 it (fun z => hqi z.symm)
    have g2 := (Heap.SameBut.update (h := s2.heap.update q (Obj.mapSeq (·.push Value.none))) (a := q) (f := Obj.mapSeq (·.pop))).2 it (fun z => hqi z.symm)
    exact g2.trans (g1.trans ho)
end
end Z
namespace Z
open PySem PySem.Spec PyProof.Rows L2 ItX
/-! ## readings of own instances -/
/-- all but lists stay -/
def KpS (H H' : Hp) : Prop := ∀ a o, H a = some o → (∀ xs, o ≠ .lst xs) → H' a = some o
theorem KpS.same {H H' : Hp} (s : Same H H') : KpS H H' := fun a o e _ => s a o e
theorem KpS.sl {l : Addr} {H H' : Hp} (s : SL l H H') : KpS H H' := fun a o e n => by
  obtain ⟨xs, e1⟩ := s.was
  refine s.keep a o (fun z => ?_) e
  rw [z, e1] at e
  exact n xs (Option.some.inj e).symm
theorem KpS.trans {H H1 H2 : Hp} (a : KpS H H1) (b : KpS H1 H2) : KpS H H2 := fun x o e n => b x o (a x o e n) n
theorem KpS.tp {H H' : Hp} (s : KpS H H') : TpS H H' := fun p xs e => s p _ e fun _ z => nomatch z
theorem KpS.ins {H H' : Hp} {p C dx : Addr} {fs : List (Str × V)} (s : KpS H H') (e : H p = some (.ins C dx fs)) : H' p = some (.ins C dx fs) := s p _ e fun _ z => nomatch z
/-- what is asked of the written part for an own class -/
structure ClsF (K : PySem.W.Frag) (mg : Str → Option Value) (C : Addr) (x : Str) : Prop where
  cl : Cls K C
  mgC : mg x = some (.ref C)
  ha : PySem.W.findIn K (.ref C) "__class__" = some (some (.builtin "object.__class__"))
  hn : PySem.W.specialIn K (.builtin "object.__class__") "__get__" = some (some (.builtin "getset_descriptor.__get__"))
  htk : PySem.W.takesIn K (.builtin "object.__class__") = some true
  hm : PySem.W.mroIn K C (.type "object") = some true
section
variable {K : PySem.W.Frag} {mg : Str → Option Value} {H : Hp} {Q : VK} {p C dx : Addr} {fs : List (Str × V)} {f x : Str} {v : V} {ta te : TE} {tas : TA} {σ : L2.St}
theorem rFld (h : ta σ H fun x H1 => ∃ a C dx fs v, x = .ref a ∧ H1 a = some (.ins C dx fs) ∧ Cls K C ∧ NoAttr K C f ∧ fs.lookup f = some v ∧ Q v H1) : tFld K ta f σ H Q := h
theorem fld_end {R : V → Prop} (hp : H p = some (.ins C dx fs)) (U : ClsF K mg C x) (n : NoAttr K C f) (l : fs.lookup f = some v) (h : R v) :
    ∃ a C dx fs v, V.ref p = .ref a ∧ H a = some (.ins C dx fs) ∧ Cls K C ∧ NoAttr K C f ∧ fs.lookup f = some v ∧ R v := ⟨p, C, dx, fs, v, rfl, hp, U.cl, n, l, h⟩
theorem rSFld {tv : TE} {nx : L2.St → Hp → Prop} {rt : VK} {bk ct : L2.St → Hp → Prop} (h : tv σ H fun y H1 => ta σ H1 fun x H2 => ∃ a C dx fs, x = .ref a ∧ H2 a = some (.ins C dx fs) ∧ Cls K C ∧ NoAttr K C f ∧ fs.length < 1000 ∧ nx σ (upd H2 a (.ins C dx (putF f y fs)))) :
    sFld K ta tv f ⟨nx, rt, bk, ct⟩ σ H := h
theorem rMake {sp : Sp} {E : XK} (h : tas σ H fun vs H1 => ∀ x dx, H1 x = none → H1 dx = none → dx ≠ x → sp (.ref x :: (vs ++ [])) (upd (upd H1 dx (.own x)) x (.ins C dx [])) (fun v H2 => v = .non ∧ Q (.ref x) H2) E) : tMake C sp [] E tas σ H Q := h
theorem rMeth {sp : Sp} {E : XK} {m : Str} (h : ta σ H fun x H1 => ∃ a dx fs, x = .ref a ∧ H1 a = some (.ins C dx fs) ∧ fs.lookup m = none ∧ tas σ H1 fun vs H2 => sp (x :: (vs ++ [])) H2 Q E) : tMeth C m sp [] E ta tas σ H Q := h
theorem meth_end {m : Str} {R : Prop} (hp : H p = some (.ins C dx fs)) (l : fs.lookup m = none) (h : R) : ∃ a dx fs, V.ref p = .ref a ∧ H a = some (.ins C dx fs) ∧ fs.lookup m = none ∧ R := ⟨p, dx, fs, rfl, hp, l, h⟩
theorem nil_app {sp : Sp} {vs : List V} {E : XK} (h : sp vs H Q E) : sp (vs ++ []) H Q E := by rw [List.append_nil]; exact h
theorem isi_own {y : Str} {c : Addr} {b : Bool} (hp : H p = some (.ins C dx fs)) (U : ClsF K mg C y) (e : PySem.W.kitOne K (.ref C) (.ref c) = some b) (h : Q (.bl b) H) : rIsiU K [.ref p, .ref c] H Q :=
  .inl ⟨.ref p, .ref c, _, _, b, rfl, .own c, .base (.ins hp U.cl U.ha U.hn U.htk U.hm), e, h⟩
theorem kit_self : PySem.W.kitOne K (.ref C) (.ref C) = some true := by
  show (if (Value.ref C == Value.ref C) = true then some true else _) = some true
  rw [if_pos (beq_iff_eq.mpr rfl)]
/-- a new instance, written by its __init__ -/
theorem same_ins {x dx : Addr} {o1 o2 o3 : HO} (hx : H x = none) (hd : H dx = none) (hdx : dx ≠ x) : Same H (upd (upd (upd H dx o1) x o2) x o3) := fun b o e => by
  rw [upd_ne (ne_of_none e hx), upd_ne (ne_of_none e hx), upd_ne (ne_of_none e hd)]
  exact e
end
theorem pe_fldK {X : Cx} {e : Expr} {ta : TE} {f : Str} {pos : Pos} {K : PySem.W.Frag} (he : PE X e ta) (hb : attributeBase e f X.env (eval e X.env) = eval e X.env) (hK : X.K = K := by rfl) : PE X (.Attribute e f pos) (tFld K ta f) := by subst hK; exact pe_fld he hb
theorem ps_fldK {X : Cx} {o value : Expr} {ta tv : TE} {f : Str} {pos pos' : Pos} {K : PySem.W.Frag} (ha : PE X o ta) (hv : PE X value tv) (hs : swapsWith value (some (.Attribute o f pos')) pos.line X.env = pure false) (hK : X.K = K := by rfl) : PS X (.Assign [.Attribute o f pos'] value pos) (sFld K ta tv f) := by subst hK; exact ps_fld ha hv hs
/-! ### an object made, what is asked in a def's own words -/
def tU (t : TA) : TA := fun σ H QA => ∃ QB : List V → Hp → Prop, (∀ vs H1, QB vs H1 → QA vs H1) ∧ t σ H QB
theorem PA.up {X : Cx} {es : List Expr} {t : TA} (ha : PA X es t) : PA X es (tU t) := ⟨fun pos pins s σ H Q I ⟨QB, hq, h⟩ => thn (ha.run pos pins s σ H QB I h) fun us s1 ⟨vs, H1, I1, r, q⟩ => ⟨vs, H1, I1, r, hq _ _ q⟩⟩
theorem PE.imp {X : Cx} {e : Expr} {T T' : TE} (h : PE X e T) (k : ∀ σ H Q, T' σ H Q → T σ H Q) : PE X e T' := ⟨fun pins s σ H Q I q => h.run pins s σ H Q I (k σ H Q q)⟩
def tMkW (W : List V → Hp → VK → Prop) (t : TA) : TE := fun σ H Q => t σ H fun vs H1 => W vs H1 Q
theorem rMkW {W : List V → Hp → VK → Prop} {t : TA} {σ : L2.St} {H : Hp} {Q : VK} (h : t σ H fun vs H1 => W vs H1 Q) : tMkW W t σ H Q := h
theorem pe_mkI {X : Cx} {k j : Nat} {x : Str} {C : Addr} {sp : Sp} {W : List V → Hp → VK → Prop} {p pos : Pos} {e : Expr} {es : List Expr} {t : TA} (c : C8.Mak X.prog X.w X.K X.mg X.base k x C sp []) (hr : Room j X.A) (hk : k + 1 ≤ j) (hg : Gl X x) (ha : PA X (e :: es) t)
    (hw : ∀ vs H1 Q, W vs H1 Q → ∀ x dx, H1 x = none → H1 dx = none → dx ≠ x → sp (.ref x :: (vs ++ [])) (upd (upd H1 dx (.own x)) x (.ins C dx [])) (fun v H2 => v = .non ∧ Q (.ref x) H2) C8.E0)
    (hdb : (x == ("__debug__" : Str)) = false := by decide) (he : starEach (e :: es) X.env = (false, eval e X.env) :: starEach es X.env := by rfl) (hpl : (backTo pos (starEach es X.env)).any (·.1) = false := by rfl) :
    PE X (.Call (.Name x p) (e :: es) [] pos) (tMkW W t) :=
  PE.imp (C8.pe_mk c hr hk hg (PA.up ha) hdb he hpl) fun σ H Q h => ⟨_, fun vs H1 q => hw vs H1 Q q, h⟩
/-- a new instance -/
def newI (C : Addr) (fs : List (Str × V)) (H : Hp) (Q : VK) : Prop := ∀ (p dx : Addr) (H' : Hp), Frs H p → Same H H' → H' p = some (.ins C dx fs) → Q (.ref p) H'
theorem newI_gen {C : Addr} {fs : List (Str × V)} {H : Hp} {Q : VK} (h : ∀ (p dx : Addr) (H' : Hp), Frs H p → Same H H' → H' p = some (.ins C dx fs) → Q (.ref p) H') : newI C fs H Q := h
/-! ## tuples walked -/
section
variable {g : TG} {tb : TS} {nx : L2.St → Hp → Prop} {rt : VK} {bk ct : L2.St → Hp → Prop} {σ : L2.St} {H : Hp} {te tl : TE} {tt : TT} {K : PySem.W.Frag} {Q : VK} {n i : Nat} {vs : List Nat} {C p a : Addr} {sp : Sp} {dx : Addr} {fs : List (Str × V)}
theorem rForT (h : tl σ H fun x H1 => ∃ a, x = .ref a ∧ (∃ xs, SqT K H1 a xs) ∧ loopJ (Itt K a) g tb nx rt σ H1) : tFor (iTup K tl) g tb ⟨nx, rt, bk, ct⟩ σ H := h
theorem rRt {xs : List V} {R : Addr → Prop} (h1 : H p = some (.tup xs)) (h : R p) : ∃ a, V.ref p = V.ref a ∧ (∃ xs, SqT K H a xs) ∧ R a := ⟨p, rfl, ⟨xs, SqT.of h1⟩, h⟩
theorem rLcT (h : tl σ H fun x H1 => ∃ a, x = .ref a ∧ (∃ xs, SqT K H1 a xs) ∧ compJ (Itt K a) g tt te vs σ H1 Q) : tLc (iTup K tl) g tt te vs σ H Q := h
theorem loopT_by {xs : List V} (Pv : Nat → L2.St → Hp → Prop) (h0 : Pv 0 σ H) (hl : ∀ i σ H, i ≤ xs.length → Pv i σ H → H a = some (.tup xs))
    (hs : ∀ i x σ H, xs[i]? = some x → Pv i σ H → g x σ H fun σ2 H2 => tb ⟨Pv (i + 1), rt, nx, Pv (i + 1)⟩ σ2 H2) (hd : ∀ σ H, Pv xs.length σ H → nx σ H) : loopJ (Itt K a) g tb nx rt σ H :=
  for_tup (K := K) (D := ⟨nx, rt, fun _ _ => False, fun _ _ => False⟩) Pv h0 (fun i σ H hi p => SqT.of (hl i σ H hi p)) hs hd
theorem compT_pure {xs : List V} (ha : H a = some (.tup xs)) (Pa : List V → Hp → Prop) (h0 : ∀ H2, Same H H2 → Pa [] H2)
    (hs : ∀ acc x H2 D, pIn H D xs.length acc H2 → xs[acc.length]? = some x → Pa acc H2 → te ((σ.set i none).set i (some x)) H2 (fun y H3 => pD H D Pa acc.length y H3))
    (hd : ∀ acc H2 D, acc.length = xs.length → Pa acc H2 → Same H H2 → H2 D = some (.lst acc) → Frs H D → Q (.ref D) H2) : compJ (Itt K a) (gName i) tYes te [i] σ H Q := by
  intro D hD
  refine lc_tup (K := K) (a := a) (xs := xs) (Qd := fun H' => Q (.ref D) H') (fun k H' => ∃ acc, acc.length = k ∧ Pa acc H' ∧ Same H H' ∧ H' D = some (.lst acc)) ⟨[], rfl, h0 _ (Same.upd_new (Same.refl H) hD), Same.upd_new (Same.refl H) hD, upd_same⟩ (fun i H' _ ⟨_, _, _, s, _⟩ => SqT.of (s _ _ ha)) ?_ ?_
  · rintro k x H' hx ⟨acc, rfl, pa, s, hDl⟩
    exact ⟨wipe1 σ i _, (hs acc x H' D ⟨hDl, hD, s, (List.getElem?_eq_some_iff.mp hx).1⟩ hx pa)⟩
  · rintro H' ⟨acc, e, pa, s, hDl⟩
    exact hd acc H' D e pa s hDl hD
/-- an own instance is walked: its iterator comes, and is forgotten -/
def ownW (n : Nat) (C : Addr) (sp : Sp) (x : V) (H1 : Hp) (R : Addr → Hp → Prop) : Prop := ∃ p dx fs, x = .ref p ∧ H1 p = some (.ins C dx fs) ∧ sp [.ref p] H1 (fun v H2 => ∃ it a, v = .ref it ∧ n ≤ it ∧ H2 it = some (TItO a it) ∧ R a (dropH H2 it)) C8.E0
theorem rLcO (h : tl σ H fun x H1 => ownW n C sp x H1 fun a H' => compJ (Itt K a) g tt te vs σ H' Q) : tLc (iOwn n K C sp tl) g tt te vs σ H Q := h
theorem rForO (h : tl σ H fun x H1 => ownW n C sp x H1 fun a H' => loopJ (Itt K a) g tb nx rt σ H') : tFor (iOwn n K C sp tl) g tb ⟨nx, rt, bk, ct⟩ σ H := h
end
/-! ## new objects that are known to be young -/
section
variable {X : Cx} {pins : List (Addr × Obj)} {σ : L2.St} {H : Hp} {s : Shared} {n : Nat} {Q : VK} {p : Addr} {xs : List V} {K : PySem.W.Frag} {C : Addr} {sp : Sp}
def newY (n : Nat) (o : HO) (H : Hp) (Q : VK) : Prop := ∀ p, H p = none → n ≤ p → Q (.ref p) (upd H p o)
theorem newY_gen {o : HO} (h : ∀ (p : Addr) (H' : Hp), Frs H p → Same H H' → H' p = some o → n ≤ p → Q (.ref p) H') : newY n o H Q := fun p hp hy =>
  h p _ hp (fun b u e => by rw [upd_ne (ne_of_none e hp)]; exact e) upd_same hy
def tLstY (n : Nat) (t : TA) : TE := fun σ H Q => t σ H fun xs H1 => xs.length ≤ sizeLine ∧ newY n (.lst xs) H1 Q
theorem pe_lstY {es : List Expr} {pos : Pos} {t : TA} (h : PA X es t) (hn : X.s_0.heap.objs.size = n := by rfl) : PE X (.List es pos) (tLstY n t) := by
  subst hn
  refine ⟨fun pins s σ H Q I hq => wpAny_List_spliced (thn (h.run pos pins s σ H _ I hq) ?_)⟩
  rintro us s1 ⟨xs, H1, I1, r, z, q⟩
  refine ⟨by rw [← r.length]; exact z, .ref s1.heap.objs.size, _, I1.laid (o := .lst xs) (t' := s1.toks) (fun b u e => Heap.get?_push_of_some _ e) (Nat.le_refl _) ⟨z, us, 0, r, Heap.get?_push_size _ rfl⟩, rfl, q _ (I1.hok.fresh (Nat.le_refl _)) I1.sz⟩
theorem rLstY {t : TA} (h : t σ H fun xs H1 => xs.length ≤ sizeLine ∧ newY n (.lst xs) H1 Q) : tLstY n t σ H Q := h
/-- list(..) of a list, a tuple, an own instance -/
def rListY (n : Nat) (K : PySem.W.Frag) (C : Addr) (sp : Sp) : List V → Hp → VK → Prop := fun vs H Q => (∃ p ys, vs = [.ref p] ∧ (SqL K H p ys ∨ SqT K H p ys) ∧ newY n (.lst ys) H Q) ∨ rListOwn n C sp vs H Q
theorem call_listN (hn : X.s_0.heap.objs.size = n := by rfl) : CallR X (.type "list") (fun vs H Q => ∃ p ys, vs = [.ref p] ∧ (SqL X.K H p ys ∨ SqT X.K H p ys) ∧ newY n (.lst ys) H Q) := by
  subst hn
  intro pins s σ H xs us Q I r h
  obtain ⟨p, ys, rfl, hq, q⟩ := h
  obtain ⟨u, rfl, rx⟩ := vals1 r
  cases rx
  have go : ∀ (T : String) (o : Obj) (its : List Value) (c : Nat), (T = "list" ∨ T = "tuple") → s.heap.get? p = some o → o.cls = .type T → o.data = .seq its.toArray c → Vals ys its → ys.length ≤ sizeLine → wpAny (model X.prog X.w) X.A (call (.type "list") [.ref p]) (EP X pins σ Q) X.xe s := fun T o its c hT ho hc hd r' hz => by
    have hlen := r'.length
    refine call_list_seq p hT ho hc hd (fun h' c' kp e => ?_) (by simp only [List.size_toArray]; omega)
    exact ⟨.ref s.heap.objs.size, _, I.laid (o := .lst ys) (t' := s.toks) kp (Nat.le_refl _) ⟨hz, its, c', r', e⟩, rfl, q _ (I.hok.fresh (Nat.le_refl _)) I.sz⟩
  rcases hq with hq | hq
  · obtain ⟨its, r', pl, hz⟩ := I.list hq
    obtain ⟨o, ho, hc, c, hd⟩ := pl.isList
    exact go "list" o its c (.inl rfl) ho hc hd r' hz
  · obtain ⟨its, r', ⟨o, ho, hc, c, hd⟩, hz⟩ := I.tuple hq
    exact go "tuple" o its c (.inr rfl) ho hc hd r' hz
theorem call_listY {k j : Nat} (M : ItM X.prog X.w X.K X.mg X.base k C sp) (hr : Room j X.A) (hk : k + 2 ≤ j) (hc : X.calm = true) (hn : X.s_0.heap.objs.size = n := by rfl) (hK : X.K = K := by rfl) : CallR X (.type "list") (rListY n K C sp) := by
  subst hK
  exact CallR.or (call_listN hn) (call_listOwn M hr hk hc hn)
theorem listY_lst (h1 : H p = some (.lst xs)) (h : newY n (.lst xs) H Q) : rListY n K C sp [.ref p] H Q := .inl ⟨p, xs, rfl, .inl (SqL.of h1), h⟩
theorem listY_tup (h1 : H p = some (.tup xs)) (h : newY n (.lst xs) H Q) : rListY n K C sp [.ref p] H Q := .inl ⟨p, xs, rfl, .inr (SqT.of h1), h⟩
theorem iter_tup {R : Addr → Hp → Prop} (h1 : H p = some (.tup xs)) (h : ∀ it, H it = none → (∀ m o, H m = some o → m < it) → Q (.ref it) (upd H it (TItO p it))) : rIterT K [.ref p] H Q := ⟨p, xs, rfl, SqT.of h1, h⟩
end
end Z
namespace Z
open PySem PySem.Spec PyProof.Rows L2 ItX
/-! ## x in o, o an own instance -/
section
variable {X : Cx} {k j n : Nat} {C : Addr} {m key : Str} {sp : Sp} {K : PySem.W.Frag}
def rInOwn (C : Addr) (sp : Sp) : R2 := fun x y H Q => ∃ p dx fs, y = .ref p ∧ H p = some (.ins C dx fs) ∧ sp [.ref p, x] H (fun v H2 => ∃ b, v = .bl b ∧ Q (.bl b) H2) C8.E0
theorem op_inOwn (c : C8.Met X.prog X.w X.K X.mg X.base k C "__contains__" sp []) (hr : Room j X.A) (hk : k ≤ j) : OpR X (compareOp .In) (rInOwn C sp) := by
  intro pins s σ H x y v u Q I rx ry h
  obtain ⟨p, dx, fs, rfl, hp, hsp⟩ := h
  cases ry
  obtain ⟨f, fd, ps, ds, hc, hm, FN, b, d⟩ := c.ex
  cases d
  obtain ⟨mA, J, _⟩ := ins_get I.hok hp
  obtain ⟨od, J, _⟩ := J.look
  obtain ⟨m0, hF⟩ := I.fr
  refine PySem.W.in_K hF I.ok.mod.kin J hm.at_ hm.fn ?_
  have hl := FN.len _ _ _ _ hsp
  have r2 : Vals [V.ref p, x] [Value.ref p, v] := .cons rfl (.cons rx .nil)
  refine wpAny_call (codeAny_mono (FN.run X.A X.stack s H ⟨[.ref p, v], []⟩ [.ref p, v] [.ref p, x] _ C8.E0 (hr.mono hk) I.env0 (by
    have := b s [.ref p, v] I.kIn (by simpa using hl)
    simpa using this) r2 hsp) fun r s' hq' => ?_)
  cases r with
  | error e => exact False.elim hq'
  | ok fl =>
    cases fl with
    | next => exact False.elim hq'
    | brk => exact False.elim hq'
    | cont => exact False.elim hq'
    | ret u =>
      obtain ⟨z, H2, I2, rv, b, ez, hQ⟩ := I.after hq'
      subst ez
      cases rv
      exact wpAny_truthy_bool ⟨.bl b, H2, I2, rfl, hQ⟩
/-! ## o.m(e, .., key = e') -/
/-- a method that takes n things by place and one by its name -/
structure MetK (P : Program) (w : World) (K : PySem.W.Frag) (mg : Str → Option Value) (base : Heap) (k n : Nat) (C : Addr) (m key : Str) (sp : Sp) : Prop where
  ex : ∃ (f : Addr) (fd : FuncData) (ps : List Str), Cls K C ∧ Meth K C m f ∧ FnOk P w K mg base C8.CX0 k f fd ps sp ∧ ∀ (s : Shared) (us : List Value) (w : Value), us.length = n → BindsTo s fd ⟨us, [(key, w)]⟩ (ps.zip (us ++ [w]))
def tMethK (C : Addr) (m : Str) (n : Nat) (sp : Sp) (ta : TE) (t : TA) (tk : TE) : TE := fun σ H Q => ta σ H fun x H1 => ∃ a dx fs, x = .ref a ∧ H1 a = some (.ins C dx fs) ∧ fs.lookup m = none ∧
  t σ H1 fun vs H2 => tk σ H2 fun z H3 => ([z] : List V).length = 1 ∧ vs.length + 1 = n ∧ sp (x :: (vs ++ [z])) H3 Q C8.E0
theorem pe_mtK {pl : Sem Bool} {o e e' : Expr} {es : List Expr} {apos pos kpos : Pos} {ta tk : TE} {t : TA} (c : MetK X.prog X.w X.K X.mg X.base k n C m key sp) (hr : Room j X.A) (hk : k ≤ j) (he : PE X o ta) (ha : PA X (e :: es) t) (hkw : PE X e' tk)
    (hall : (backToKw pos (keywordEach [⟨some key, e', kpos⟩] X.env)).all (·.1.isSome) = true := by rfl) (hks : (backToKw pos (keywordEach [⟨some key, e', kpos⟩] X.env)).filterMap (·.1) = [key] := by rfl)
    (hst : starEach (e :: es) X.env = (false, eval e X.env) :: starEach es X.env := by rfl) (hpl : ((backTo pos (starEach (e :: es) X.env)).any (·.1) || (backToKw pos (keywordEach [⟨some key, e', kpos⟩] X.env)).any (·.1.isNone)) = false := by rfl)
    (ht : eval (.Call (.Attribute o m apos) (e :: es) [⟨some key, e', kpos⟩] pos) X.env = (do
      let ov ← eval o X.env
      standAt apos.atName
      let (f, first) ← holding [ov] (getMethod ov m pl)
      callWith pos f first (backTo pos (starEach (e :: es) X.env)) (backToKw pos (keywordEach [⟨some key, e', kpos⟩] X.env))) := by rfl) :
    PE X (.Call (.Attribute o m apos) (e :: es) [⟨some key, e', kpos⟩] pos) (tMethK C m n sp ta t tk) := by
  obtain ⟨f, fd, ps, hc, hm, FN, hb⟩ := c.ex
  refine ⟨fun pins s σ H Q I h => ?_⟩
  refine PySem.W.methodCall_KW (pl := pl) (thn (he.run pins s σ H _ I h) ?_) ht
  rintro u s1 ⟨x, H1, I1, rx, a, dx, fs, rfl, ea, l, q⟩
  obtain rfl : u = Value.ref a := rx
  refine getmeth_ok I1 ea hc hm l ?_
  refine PySem.W.callWith_KW (first := [.ref a]) (h₀ := X.base) I.ok.mod.kin hm.kp hall (thn (ha.run pos pins s1 σ H1 _ I1 q) ?_) hpl hst
  rintro us s2 ⟨vs, H2, I2, r, q2⟩
  have hkw2 : PK X [⟨some key, e', kpos⟩] (tCons tk tNil) := pk_cons hkw pk_nil
  refine thn (hkw2.run pos pins s2 σ H2 (fun zs H3 => zs.length = 1 ∧ vs.length + 1 = n ∧ sp (V.ref a :: (vs ++ zs)) H3 Q C8.E0) I2 q2) ?_
  rintro ws s3 ⟨zs, H3, I3, rz, l1, l2, hsp⟩
  refine ⟨I3.kIn, ?_⟩
  rw [hks]
  obtain ⟨z, rfl⟩ := List.length_eq_one_iff.mp l1
  obtain ⟨w', rfl, rw1⟩ := rz.one
  have hl2 := r.length
  have r3 : Vals (V.ref a :: (vs ++ [z])) (Value.ref a :: (us ++ [w'])) := .cons rfl (r.append rz)
  have hbb := hb s3 (Value.ref a :: us) w' (by rw [List.length_cons]; omega)
  have run := FN.run X.A X.stack s3 H3 ⟨Value.ref a :: us, [(key, w')]⟩ (Value.ref a :: (us ++ [w'])) (V.ref a :: (vs ++ [z])) Q C8.E0 (hr.mono hk) I3.env0 hbb r3 hsp
  show wpAny (model X.prog X.w) X.A (call (.ref f) (Value.ref a :: us) [(key, w')]) _ _ s3
  refine wpAny_call (codeAny_mono run fun rr s' hq' => ?_)
  cases rr with
  | error e => exact False.elim hq'
  | ok fl =>
    cases fl with
    | next => exact False.elim hq'
    | brk => exact False.elim hq'
    | cont => exact False.elim hq'
    | ret u => exact I3.after hq'
end
section
variable {C p dx : Addr} {fs : List (Str × V)} {H : Hp} {Q : VK} {sp : Sp} {x y : V} {m : Str} {n : Nat} {ta tk : TE} {t : TA} {σ : L2.St} {K : PySem.W.Frag}
theorem rMethK (h : ta σ H fun x H1 => ∃ a dx fs, x = .ref a ∧ H1 a = some (.ins C dx fs) ∧ fs.lookup m = none ∧ t σ H1 fun vs H2 => tk σ H2 fun z H3 => ([z] : List V).length = 1 ∧ vs.length + 1 = n ∧ sp (x :: (vs ++ [z])) H3 Q C8.E0) : tMethK C m n sp ta t tk σ H Q := h
theorem in_own (hp : H p = some (.ins C dx fs)) (h : sp [.ref p, x] H (fun v H2 => ∃ b, v = .bl b ∧ Q (.bl b) H2) C8.E0) : rInOwn C sp x (.ref p) H Q := ⟨p, dx, fs, rfl, hp, h⟩
end
/-! ## a while whose test compares two names -/
theorem mono_lt {i j : Nat} : ∀ (σ : L2.St) (H : Hp) (Q Q' : Bool → Hp → Prop), (∀ b H1, Q b H1 → Q' b H1) → tTest (tOp rLtU (tVar i) (tVar j)) σ H Q → tTest (tOp rLtU (tVar i) (tVar j)) σ H Q' := by
  rintro σ H Q Q' h ⟨v, hv, w, hw, q⟩
  refine ⟨v, hv, w, hw, ?_⟩
  rcases q with ⟨a, b, e1, e2, k, ek, q⟩ | ⟨a, b, e1, e2, k, ek, q⟩
  · exact .inl ⟨a, b, e1, e2, k, ek, h _ _ q⟩
  · exact .inr ⟨a, b, e1, e2, k, ek, h _ _ q⟩
theorem whileLt {i j : Nat} {tb : TS} {nx : L2.St → Hp → Prop} {rt : VK} {bk ct : L2.St → Hp → Prop} {σ : L2.St} {H : Hp} (Pv : L2.St → Hp → Prop) (μ : L2.St → Hp → Nat) (h0 : Pv σ H)
    (hs : ∀ σ H, Pv σ H → tTest (tOp rLtU (tVar i) (tVar j)) σ H fun b H1 => if b = true then tb ⟨fun σ' H' => Pv σ' H' ∧ μ σ' H' < μ σ H, rt, nx, fun σ' H' => Pv σ' H' ∧ μ σ' H' < μ σ H⟩ σ H1 else nx σ H1) :
    tWhile (tTest (tOp rLtU (tVar i) (tVar j))) tb ⟨nx, rt, bk, ct⟩ σ H := while_by (D := ⟨nx, rt, bk, ct⟩) Pv μ h0 hs mono_lt
end Z
namespace Z
open PySem PySem.Spec PyProof.Rows L2 ItX
/-! ## a + b, -a of own instances -/
structure AddM (P : Program) (w : World) (K : PySem.W.Frag) (mg : Str → Option Value) (base : Heap) (k : Nat) (C : Addr) (sp : Sp) : Prop where
  met : C8.Met P w K mg base k C "__add__" sp []
  first : PySem.W.selfFirst K C = true
section
variable {X : Cx} {k j n : Nat} {C : Addr} {sp : Sp} {K : PySem.W.Frag}
def rAddOwn (C : Addr) (sp : Sp) : R2 := fun x y H Q => ∃ p dx fs q dy gs, x = .ref p ∧ y = .ref q ∧ H p = some (.ins C dx fs) ∧ H q = some (.ins C dy gs) ∧ sp [.ref p, .ref q] H (fun v H2 => ∃ z, v = .ref z ∧ Q (.ref z) H2) C8.E0
theorem op_addOwn (c : AddM X.prog X.w X.K X.mg X.base k C sp) (hr : Room j X.A) (hk : k ≤ j) : OpR X (binaryOp .Add) (rAddOwn C sp) := by
  intro pins s σ H x y v u Q I rx ry h
  obtain ⟨p, dx, fs, q, dy, gs, rfl, rfl, hp, hq, hsp⟩ := h
  cases rx
  cases ry
  obtain ⟨f, fd, ps, ds, hc, hm, FN, b, d⟩ := c.met.ex
  cases d
  obtain ⟨mA, J, _⟩ := ins_get I.hok hp
  obtain ⟨od, J, _⟩ := J.look
  obtain ⟨mB, J2, _⟩ := ins_get I.hok hq
  obtain ⟨od2, J2, _⟩ := J2.look
  obtain ⟨m0, hF⟩ := I.fr
  refine PySem.W.binop_K hF I.ok.mod.kin J J2.type c.first hm.at_ hm.fn ?_
  have hl := FN.len _ _ _ _ hsp
  have r2 : Vals [V.ref p, V.ref q] [Value.ref p, Value.ref q] := .cons rfl (.cons rfl .nil)
  refine wpAny_call (codeAny_mono (FN.run X.A X.stack s H ⟨[.ref p, .ref q], []⟩ [.ref p, .ref q] [.ref p, .ref q] _ C8.E0 (hr.mono hk) I.env0 (by
    have := b s [.ref p, .ref q] I.kIn (by simpa using hl)
    simpa using this) r2 hsp) fun r s' hq' => ?_)
  cases r with
  | error e => exact False.elim hq'
  | ok fl =>
    cases fl with
    | next => exact False.elim hq'
    | brk => exact False.elim hq'
    | cont => exact False.elim hq'
    | ret u =>
      obtain ⟨z, H2, I2, rv, b, ez, hQ⟩ := I.after hq'
      subst ez
      cases rv
      exact ⟨.ref b, H2, I2, rfl, hQ⟩
def rNegOwn (C : Addr) (sp : Sp) : V → Hp → VK → Prop := fun x H Q => ∃ p dx fs, x = .ref p ∧ H p = some (.ins C dx fs) ∧ sp [.ref p] H Q C8.E0
theorem un_negOwn (c : C8.Met X.prog X.w X.K X.mg X.base k C "__neg__" sp []) (hr : Room j X.A) (hk : k ≤ j) : UnR X (unaryOp .USub) (rNegOwn C sp) := by
  intro pins s σ H x v Q I rx h
  obtain ⟨p, dx, fs, rfl, hp, hsp⟩ := h
  cases rx
  obtain ⟨f, fd, ps, ds, hc, hm, FN, b, d⟩ := c.ex
  cases d
  obtain ⟨mA, J, _⟩ := ins_get I.hok hp
  obtain ⟨od, J, _⟩ := J.look
  obtain ⟨m0, hF⟩ := I.fr
  refine PySem.W.ksp_neg hF I.ok.mod.kin J hm.at_ hm.fn ?_
  have hl := FN.len _ _ _ _ hsp
  have r2 : Vals [V.ref p] [Value.ref p] := .cons rfl .nil
  refine wpAny_call (codeAny_mono (FN.run X.A X.stack s H ⟨[.ref p], []⟩ [.ref p] [.ref p] _ C8.E0 (hr.mono hk) I.env0 (by
    have := b s [.ref p] I.kIn (by simpa using hl)
    simpa using this) r2 hsp) fun r s' hq' => ?_)
  cases r with
  | error e => exact False.elim hq'
  | ok fl =>
    cases fl with
    | next => exact False.elim hq'
    | brk => exact False.elim hq'
    | cont => exact False.elim hq'
    | ret u => exact I.after hq'
end
section
variable {C p q dx dy : Addr} {fs gs : List (Str × V)} {H : Hp} {Q : VK} {sp : Sp}
theorem add_own (hp : H p = some (.ins C dx fs)) (hq : H q = some (.ins C dy gs)) (h : sp [.ref p, .ref q] H (fun v H2 => ∃ z, v = .ref z ∧ Q (.ref z) H2) C8.E0) : rAddOwn C sp (.ref p) (.ref q) H Q := ⟨p, dx, fs, q, dy, gs, rfl, rfl, hp, hq, h⟩
theorem neg_own (hp : H p = some (.ins C dx fs)) (h : sp [.ref p] H Q C8.E0) : rNegOwn C sp (.ref p) H Q := ⟨p, dx, fs, rfl, hp, h⟩
end
/-! ## a while: the test is walked with its two ends at once -/
theorem whileG {c : TT} {tb : TS} {nx : L2.St → Hp → Prop} {rt : VK} {bk ct : L2.St → Hp → Prop} {σ : L2.St} {H : Hp} (Pv : L2.St → Hp → Prop) (μ : L2.St → Hp → Nat) (h0 : Pv σ H)
    (hs : ∀ σ H, Pv σ H → c σ H fun b H1 => if b = true then ∃ N : L2.St → Hp → Prop, (∀ σ' H', N σ' H' → ∃ m', m' < μ σ H ∧ m' = μ σ' H' ∧ Pv σ' H') ∧ tb ⟨N, rt, nx, N⟩ σ H1 else nx σ H1) : tWhile c tb ⟨nx, rt, bk, ct⟩ σ H := by
  refine ⟨fun m σ H => m = μ σ H ∧ Pv σ H, ⟨_, rfl, h0⟩, ?_⟩
  rintro m σ H ⟨rfl, p⟩
  exact hs σ H p
theorem wYes {Pv : L2.St → Hp → Prop} {μ : L2.St → Hp → Nat} {m : Nat} {tb : TS} {rt : VK} {nx : L2.St → Hp → Prop} {σ : L2.St} {H : Hp} (h : tb ⟨fun σ' H' => Pv σ' H' ∧ μ σ' H' < m, rt, nx, fun σ' H' => Pv σ' H' ∧ μ σ' H' < m⟩ σ H) :
    ∃ N : L2.St → Hp → Prop, (∀ σ' H', N σ' H' → ∃ m', m' < m ∧ m' = μ σ' H' ∧ Pv σ' H') ∧ tb ⟨N, rt, nx, N⟩ σ H := ⟨_, fun _ _ q => ⟨_, q.2, rfl, q.1⟩, h⟩
end Z
namespace Z
open PySem PySem.Spec PyProof.Rows L2 ItX
/-! ## C.m(e, ..), m a staticmethod -/
structure Stat (P : Program) (w : World) (K : PySem.W.Frag) (mg : Str → Option Value) (base : Heap) (k : Nat) (x m : Str) (sp : Sp) : Prop where
  ex : ∃ (C p g : Addr) (mc : Value) (fd : FuncData) (ps : List Str), mg x = some (.ref C) ∧ ClX.CRead K C mc ∧ PySem.W.findCls K (.ref C) mc m = some (.get (.builtin "staticmethod.__get__") (.ref p) .none (.ref C)) ∧
    (∃ rest, PySem.W.recIn K p "staticmethod" = some (.ref g :: rest)) ∧ PySem.W.keepIn K (.ref g) = true ∧ FnOk P w K mg base C8.CX0 k g fd ps sp ∧ Binds K fd ps []
section
variable {X : Cx} {k j : Nat} {x m : Str} {sp : Sp} {p0 pos apos : Pos} {e o : Expr} {es : List Expr} {t : TA} {ta : TE} {C : Addr}
theorem pe_st {pl : Sem Bool} (c : Stat X.prog X.w X.K X.mg X.base k x m sp) (hr : Room j X.A) (hk : k ≤ j) (hg : Gl X x) (ha : PA X (e :: es) t) (hd : (x == ("__debug__" : Str)) = false := by decide)
    (hst : starEach (e :: es) X.env = (false, eval e X.env) :: starEach es X.env := by rfl) (hpl : (backTo pos (starEach es X.env)).any (·.1) = false := by rfl)
    (ht : eval (.Call (.Attribute (.Name x p0) m apos) (e :: es) [] pos) X.env = (do
      let ov ← eval (.Name x p0) X.env
      standAt apos.atName
      let (f, first) ← holding [ov] (getMethod ov m pl)
      callWith pos f first (backTo pos (starEach (e :: es) X.env)) (backToKw pos (keywordEach [] X.env))) := by rfl) :
    PE X (.Call (.Attribute (.Name x p0) m apos) (e :: es) [] pos) (tCall sp [] C8.E0 t) := by
  obtain ⟨C, p, g, mc, fd, ps, hm, r, at_, ⟨rest, hp⟩, kp, F, b⟩ := c.ex
  refine ⟨fun pins s σ H Q I h => ?_⟩
  refine PySem.W.methodCall_KW (pl := pl) (thn ((pe_cls (p := p0) hg hm hd).run pins s σ H (fun y H1 => y = .ref C ∧ t σ H1 fun vs H2 => sp (vs ++ []) H2 Q C8.E0) I ⟨rfl, h⟩) fun u s1 ⟨y, H1, I1, rx, ex, q⟩ => ?_) ht
  subst ex
  obtain rfl : u = Value.ref C := rx
  refine PySem.W.method_cls I1.kIn r.ga ?_
  refine PySem.W.cls_bind I1.kIn r.rd at_ ?_
  refine wpAny_call (PySem.W.sm_get (s := { s1 with toks := s1.toks + 1 }) I1.kIn hp (PySem.W.handed_on rfl ?_))
  have I2 : Inv X pins σ H1 { s1 with toks := s1.toks + 1 } := I1.tok _
  refine PySem.W.callWith_K (first := []) (h₀ := X.base) I2.ok.mod.kin kp (thn (ha.run pos pins _ σ H1 _ I2 q) fun us s3 ⟨vs, H2, I3, rv, q2⟩ => ⟨I3.kIn, ?_⟩) hst hpl
  exact run_fn F (hr.mono hk) b .nil pass0 I3 rv q2
end
/-! ## a method that may raise -/
structure MetX (P : Program) (w : World) (K : PySem.W.Frag) (mg : Str → Option Value) (base : Heap) (k : Nat) (C : Addr) (m : Str) (sp : Sp) : Prop where
  ex : ∃ (f : Addr) (fd : FuncData) (ps : List Str), Cls K C ∧ Meth K C m f ∧ FnOk P w K mg base (L2.CX P w) k f fd ps sp ∧ Binds K fd ps []
theorem metX {P : Program} {w : World} {K : PySem.W.Frag} {mg : Str → Option Value} {base : Heap} {m qual : Str} {C : Addr} {st : Stmt} {f : Addr} {fd : FuncData} {N ps : List Str} {k : Nat} {sp : Sp} (c : Cls K C) (me : Meth K C m f) (F : C8.Fun K m qual st f fd) (b : Binds K fd ps []) (S : FnScope N ps (C8.fnScope st))
    (len : ∀ vs H Q E, sp vs H Q E → vs.length = ps.length)
    (hbody : ∀ (cdv : Value) (A : Around) (outer : List Env) (s : Shared) (H : Hp) (vs : List V) (Q : VK) (E : XK), Room k (A.deeper (envOfC qual (C8.fnScope st) s.heap.objs.size f cdv)) → sp vs H Q E →
      ∃ t, PSs (cxOf (L2.CX P w) P w K mg base N qual (C8.fnScope st) f cdv A outer s H E) (C8.fnBody st) t ∧ t { nx := fun _ H' => Q .non H', rt := Q } (start N vs) H) : MetX P w K mg base (k + 1) C m sp := by
  refine ⟨f, fd, ps, c, me, ?_, b⟩
  obtain ⟨oc, od, dV, kV, doc, pm, an, cdv, ct, osl, rfl, lk, hcd⟩ := F.ex
  exact fn_of lk hcd S len fun A outer s H vs Q E hr hsp => hbody cdv A outer s H vs Q E hr hsp
def tMethT (C : Addr) (m : Str) (sp : Sp) (E : L2.St → XK) (ta : TE) (t : TA) : TE := fun σ H Q => ta σ H fun x H1 => ∃ a dx fs, x = .ref a ∧ H1 a = some (.ins C dx fs) ∧ fs.lookup m = none ∧ t σ H1 fun vs H2 => sp (x :: vs) H2 Q (E σ)
section
variable {X : Cx} {k j : Nat} {x m : Str} {sp : Sp} {pos apos : Pos} {e o : Expr} {es : List Expr} {t : TA} {ta : TE} {C : Addr} {W : WX}
/-- called where no exception leaves -/
theorem pe_mtn {pl : Sem Bool} (c : MetX X.prog X.w X.K X.mg X.base k C m sp) (hr : Room j X.A) (hk : k ≤ j) (he : PE X o ta) (ha : PA X (e :: es) t)
    (hst : starEach (e :: es) X.env = (false, eval e X.env) :: starEach es X.env := by rfl) (hpl : (backTo pos (starEach es X.env)).any (·.1) = false := by rfl)
    (ht : eval (.Call (.Attribute o m apos) (e :: es) [] pos) X.env = (do
      let ov ← eval o X.env
      standAt apos.atName
      let (f, first) ← holding [ov] (getMethod ov m pl)
      callWith pos f first (backTo pos (starEach (e :: es) X.env)) (backToKw pos (keywordEach [] X.env))) := by rfl) :
    PE X (.Call (.Attribute o m apos) (e :: es) [] pos) (tMeth C m sp [] L2.E0 ta t) := by
  obtain ⟨f, fd, ps, hc, hm, F, b⟩ := c.ex
  exact pe_meth (pl := pl) he hc hm F (hr.mono hk) b .nil passL ha hst hpl ht
/-- called in the body of a try -/
theorem pe_mtt {pl : Sem Bool} (c : MetX X.prog X.w X.K X.mg X.base k C m sp) (tk : Takes X W) (hr : Room j X.A) (hk : k ≤ j) (he : PE X o ta) (ha : PA X (e :: es) t)
    (hst : starEach (e :: es) X.env = (false, eval e X.env) :: starEach es X.env := by rfl) (hpl : (backTo pos (starEach es X.env)).any (·.1) = false := by rfl)
    (ht : eval (.Call (.Attribute o m apos) (e :: es) [] pos) X.env = (do
      let ov ← eval o X.env
      standAt apos.atName
      let (f, first) ← holding [ov] (getMethod ov m pl)
      callWith pos f first (backTo pos (starEach (e :: es) X.env)) (backToKw pos (keywordEach [] X.env))) := by rfl) :
    PE X (.Call (.Attribute o m apos) (e :: es) [] pos) (tMethT C m sp (WE W) ta t) := by
  obtain ⟨f, fd, ps, hc, hm, F, b⟩ := c.ex
  refine ⟨fun pins s σ H Q I h => ?_⟩
  refine PySem.W.methodCall_KW (pl := pl) (thn (he.run pins s σ H _ I h) fun u s1 ⟨x, H1, I1, rx, a, dx, fs, ex, ea, l, q⟩ => ?_) ht
  subst ex
  obtain rfl : u = Value.ref a := rx
  refine getmeth_ok I1 ea hc hm l ?_
  refine PySem.W.callWith_K (first := [.ref a]) (h₀ := X.base) I.ok.mod.kin hm.kp (thn (ha.run pos pins s1 σ H1 _ I1 q) fun us s2 ⟨vs, H2, I2, r, q2⟩ => ⟨I2.kIn, ?_⟩) hst hpl
  exact run_fnS (us := .ref a :: us) (vs := .ref a :: vs) F (hr.mono hk) b (passAt tk σ) I2 (.cons rfl r) q2
end
section
variable {σ : L2.St} {H : Hp} {Q : VK} {ta : TE} {t : TA} {C p q dx : Addr} {m : Str} {sp : Sp} {fs : List (Str × V)} {E : L2.St → XK} {xs : List V} {K : PySem.W.Frag}
theorem rMethT (h : ta σ H fun x H1 => ∃ a dx fs, x = .ref a ∧ H1 a = some (.ins C dx fs) ∧ fs.lookup m = none ∧ t σ H1 fun vs H2 => sp (x :: vs) H2 Q (E σ)) : tMethT C m sp E ta t σ H Q := h
end
/-! ## two tuples of the same things -/
def noFB : V → Bool
  | .byt _ => false
  | .flt _ => false
  | _ => true
def rNeT (K : PySem.W.Frag) : R2 := fun x y H Q => rNeU K x y H Q ∨ ∃ p q xs, x = .ref p ∧ y = .ref q ∧ H p = some (.tup xs) ∧ H q = some (.tup xs) ∧ xs.all noFB = true ∧ Q (.bl false) H
theorem same_eqAt {A : Around} {s : Shared} : ∀ {x : V} {u v : Value}, RelV x u → RelV x v → noFB x = true → SeqAt.EqAt A s u v true
  | .non, _, _, h1, h2, _ => by cases h1; cases h2; exact .same _
  | .bl _, _, _, h1, h2, _ => by cases h1; cases h2; exact .same _
  | .int i, _, _, h1, h2, _ => by
    obtain ⟨t, rfl⟩ := h1
    obtain ⟨t', rfl⟩ := h2
    have := SeqAt.EqAt.int_int (A := A) (s := s) i t i t'
    rwa [beq_self_eq_true] at this
  | .str i, _, _, h1, h2, _ => by
    obtain ⟨t, rfl⟩ := h1
    obtain ⟨t', rfl⟩ := h2
    have := SeqAt.EqAt.str_str (A := A) (s := s) i t i t'
    rwa [beq_self_eq_true] at this
  | .ref _, _, _, h1, h2, _ => by cases h1; cases h2; exact .same _
  | .ty _, _, _, h1, h2, _ => by cases h1; cases h2; exact .same _
  | .byt _, _, _, _, _, h => nomatch h
  | .flt _, _, _, _, _, h => nomatch h
theorem op_neT {X : Cx} {K : PySem.W.Frag} (hu : X.A.units + 64 < cLine) (hK : X.K = K := by rfl) : OpR X (compareOp .NotEq) (rNeT K) := by
  intro pins s σ H x y v u Q I rx ry h
  rcases h with h | ⟨p, q, xs, rfl, rfl, hp, hq, hn, k⟩
  · exact op_neK K hu hK pins s σ H x y v u Q I rx ry h
  cases rx
  cases ry
  obtain ⟨is1, r1, l1, z1⟩ := I.tuple (SqT.of hp)
  obtain ⟨is2, r2, l2, z2⟩ := I.tuple (SqT.of hq)
  have e1 := r1.length
  have e2 := r2.length
  refine SeqAt.RcNeAt.tuples (e := fun _ => true) l1 l2 (by omega) (fun j h1 h2 => ?_) X.prog X.w _ _ ?_
  · have j1 : j < is1.length := by simpa using h1
    have j2 : j < is2.length := by simpa using h2
    have j0 : j < xs.length := by omega
    obtain ⟨u1, hu1, k1⟩ := r1.get (List.getElem?_eq_getElem j0)
    obtain ⟨u2, hu2, k2⟩ := r2.get (List.getElem?_eq_getElem j0)
    rw [List.getElem?_eq_getElem j1] at hu1
    rw [List.getElem?_eq_getElem j2] at hu2
    have g1 : is1.toArray[j] = u1 := by rw [List.getElem_toArray]; exact Option.some.inj hu1
    have g2 : is2.toArray[j] = u2 := by rw [List.getElem_toArray]; exact Option.some.inj hu2
    rw [g1, g2]
    exact same_eqAt k1 k2 (List.all_eq_true.mp hn _ (List.getElem_mem j0))
  · have e : (!((List.range (min is1.toArray.size is2.toArray.size)).all (fun _ => true) && is1.toArray.size == is2.toArray.size)) = false := by
      have : is1.length = is2.length := by omega
      simp [this]
    rw [e]
    exact ⟨.bl false, H, I, rfl, k⟩
theorem ne_same {K : PySem.W.Frag} {p q : Addr} {xs : List V} {H : Hp} {Q : VK} (hp : H p = some (.tup xs)) (hq : H q = some (.tup xs)) (hn : xs.all noFB = true) (h : Q (.bl false) H) : rNeT K (.ref p) (.ref q) H Q := .inr ⟨p, q, xs, rfl, rfl, hp, hq, hn, h⟩
theorem ne_t {K : PySem.W.Frag} {x y : V} {H : Hp} {Q : VK} (h : rNeU K x y H Q) : rNeT K x y H Q := .inl h
/-! ## sorted(..) of whole numbers -/
theorem call_sortI {X : Cx} {K : PySem.W.Frag} (hK : X.K = K := by rfl) : CallR X (.builtin "sorted") (rSortedI K) := by subst hK; exact cr_sortedI
theorem sort_lst {K : PySem.W.Frag} {p : Addr} {ns : List Int} {H : Hp} {Q : VK} (hp : H p = some (.lst (ns.map V.int))) (h : ∀ ns' : List Int, ns'.Perm ns → ns'.Pairwise (· ≤ ·) → newO (.lst (ns'.map V.int)) H Q) : rSortedI K [.ref p] H Q :=
  ⟨p, ns, rfl, SqL.of hp, fun ns' q h1 h2 hq => h ns' h1 h2 q hq⟩
/-! ## a comprehension over a range with a step -/
section
variable {g : TG} {te : TE} {tt : TT} {vs : List Nat} {σ : L2.St} {H : Hp} {Q : VK} {tas : TA} {n i : Nat} {lo c : Int}
theorem rLcR3 (h : tas σ H fun as H1 => ∃ (i j c : Int) (n : Nat), as = [.int i, .int j, .int c] ∧ RgC i j c n ∧ compJ (Itc i c n) g tt te vs σ H1 Q) : tLc (iRng3 tas) g tt te vs σ H Q := h
theorem rg16 {m : Nat} {R : Int → Int → Nat → Prop} (b : m < 100000000) (h : R 0 16 ((m + 15) / 16)) : ∃ (i' j' c : Int) (n : Nat), [V.int 0, V.int (m : Int), V.int 16] = [.int i', .int j', .int c] ∧ RgC i' j' c n ∧ R i' c n := by
  have e : Builtin.Range.rangeSize 0 (m : Int) 16 = (((m + 15) / 16 : Nat) : Int) := by
    unfold Builtin.Range.rangeSize
    rw [if_pos (by decide)]
    split <;> omega
  refine ⟨0, m, 16, _, rfl, ⟨by decide, by decide, ?_, e⟩, h⟩
  unfold Builtin.Range.small
  rw [e, if_pos (by decide)]
  have f : ∀ z : Int, -1000000000 ≤ z → z ≤ 1000000000 → Builtin.Range.rangeFitsLong z = true := fun z h1 h2 => by
    unfold Builtin.Range.rangeFitsLong
    rw [Bool.and_eq_true]
    exact ⟨decide_eq_true (by omega), decide_eq_true (by omega)⟩
  rw [f 0 (by omega) (by omega), f (m : Int) (by omega) (by omega), f 16 (by omega) (by omega), f _ (by omega) (by omega), f ((m : Int) + (16 - 1)) (by omega) (by omega)]
  simp
theorem lc_rangeC {D : Addr} {H1 : Hp} {Qd : Hp → Prop} (Pv : Nat → Hp → Prop) (h0 : Pv 0 (upd H1 D (.lst [])))
    (hs : ∀ i H, i < n → Pv i H → g (.int (lo + (i : Nat) * c)) (wipe σ vs) H fun σ2 H2 => wipe σ2 vs = wipe σ vs ∧ tt σ2 H2 fun b H3 =>
      if b = true then te σ2 H3 fun y H4 => ∃ acc, H4 D = some (.lst acc) ∧ acc.length < sizeLine ∧ Pv (i + 1) (upd H4 D (.lst (acc ++ [y]))) else Pv (i + 1) H3) (hd : ∀ H, Pv n H → Qd H) :
    ∃ W : Nat → Nat → Hp → Prop, (∃ m, W 0 m (upd H1 D (.lst []))) ∧ ∀ i m H, W i m H →
      ((Itc lo c n).stop i H ∧ Qd H) ∨ ((Itc lo c n).go i H ∧ ∃ Nx : Hp → Prop, (∀ H', Nx H' → ∃ m', m' < m ∧ W (i + 1) m' H') ∧ ∀ x H', (Itc lo c n).yld i H x H' → g x (wipe σ vs) H' fun σ2 H2 => wipe σ2 vs = wipe σ vs ∧ tt σ2 H2 fun b H3 =>
        if b = true then te σ2 H3 fun y H4 => ∃ acc, H4 D = some (.lst acc) ∧ acc.length < sizeLine ∧ Nx (upd H4 D (.lst (acc ++ [y]))) else Nx H3) := by
  refine ⟨fun i m H => m = n - i ∧ i ≤ n ∧ Pv i H, ⟨n, by simp, Nat.zero_le _, h0⟩, ?_⟩
  rintro i m H ⟨rfl, hi, p⟩
  by_cases hlt : i < n
  · refine .inr ⟨hlt, Pv (i + 1), fun H' p' => ⟨n - (i + 1), by omega, rfl, hlt, p'⟩, fun x H' y => ?_⟩
    obtain ⟨e, y⟩ := y
    subst e y
    exact hs i _ hlt p
  · have e : i = n := by omega
    subst e
    exact .inl ⟨Nat.le_refl _, hd H p⟩
theorem compC_pure (Pa : List V → Hp → Prop) (h0 : ∀ H2, Same H H2 → Pa [] H2)
    (hs : ∀ acc H2 D, pIn H D n acc H2 → Pa acc H2 → te ((σ.set i none).set i (some (.int (lo + (acc.length : Nat) * c)))) H2 (fun y H3 => pD H D Pa acc.length y H3))
    (hd : ∀ acc H2 D, acc.length = n → Pa acc H2 → Same H H2 → H2 D = some (.lst acc) → Frs H D → Q (.ref D) H2) : compJ (Itc lo c n) (gName i) tYes te [i] σ H Q := by
  intro D hD
  refine lc_rangeC (Qd := fun H' => Q (.ref D) H') (fun k H' => ∃ acc, acc.length = k ∧ Pa acc H' ∧ Same H H' ∧ H' D = some (.lst acc)) ⟨[], rfl, h0 _ (Same.upd_new (Same.refl H) hD), Same.upd_new (Same.refl H) hD, upd_same⟩ ?_ ?_
  · rintro k H' hk ⟨acc, rfl, pa, s, hDl⟩
    exact ⟨wipe1 σ i _, (hs acc H' D ⟨hDl, hD, s, hk⟩ pa)⟩
  · rintro H' ⟨acc, e, pa, s, hDl⟩
    exact hd acc H' D e pa s hDl hD
end
/-- a def of which nothing is promised -/
theorem cal_none {P : Program} {w : World} {K : PySem.W.Frag} {mg : Str → Option Value} {base : Heap} {x : Str} {st : Stmt} {f : Addr} {fd : FuncData} {ps : List Str} {k : Nat} {sp : Sp} (F : C8.Def K mg x st f fd) (b : Binds K fd ps []) (d : Vals [] []) (no : ∀ vs H Q E, sp vs H Q E → False) : C8.Cal P w K mg base k x sp [] :=
  ⟨f, fd, ps, [], ⟨fun vs H Q E h => (no vs H Q E h).elim, fun _ _ _ H _ _ vs Q E _ _ _ _ h => (no vs H Q E h).elim⟩, F.mgf, F.kp, b, d⟩
/-- a whole number of the module -/
theorem pe_gi {X : Cx} {x : Str} {i : Int} {p : Pos} (hg : Gl X x) (hm : ∃ t, X.mg x = some (.int i t)) (hd : (x == ("__debug__" : Str)) = false := by decide) : PE X (.Name x p) (tC (.int i)) :=
  let ⟨t, e⟩ := hm
  pe_glob hg e ⟨t, rfl⟩ hd
end Z
namespace Z
open PySem PySem.Spec PyProof.Rows L2 ItX
/-! ## a class made with keywords -/
structure MakK (P : Program) (w : World) (K : PySem.W.Frag) (mg : Str → Option Value) (base : Heap) (k : Nat) (x : Str) (C : Addr) (n : Nat) (ks : List Str) (sp : Sp) (gV : List V → List V → List V) : Prop where
  ex : ∃ (f : Addr) (fd : FuncData) (ps : List Str) (g : List Value → List Value → List Value), Mk K C f ∧ FnOk P w K mg base C8.CX0 k f fd ps sp ∧ mg x = some (.ref C) ∧ KBn K fd ps (n + 1) ks g gV
/-- the values by place, by name, and the defaults behind them -/
def gKW (ms : List V) : List V → List V → List V := fun vs zs => vs ++ (zs ++ ms)
/-- the same with what is asked of the values in a def's own words -/
def tMkWK (W : List V → List V → Hp → VK → Prop) (t tk : TA) : TE := fun σ H Q => t σ H fun vs H1 => tk σ H1 fun zs H2 => W vs zs H2 Q
theorem PK.up {X : Cx} {kws : List Keyword} {t : TA} (ha : PK X kws t) : PK X kws (tU t) := ⟨fun pos pins s σ H Q I ⟨QB, hq, h⟩ => thn (ha.run pos pins s σ H QB I h) fun us s1 ⟨vs, H1, I1, r, q⟩ => ⟨vs, H1, I1, r, hq _ _ q⟩⟩
theorem pe_mkIK {X : Cx} {k j n : Nat} {x : Str} {C : Addr} {ks : List Str} {sp : Sp} {gV : List V → List V → List V} {W : List V → List V → Hp → VK → Prop} {p pos : Pos} {e : Expr} {es : List Expr} {kws : List Keyword} {t tk : TA}
    (c : MakK X.prog X.w X.K X.mg X.base k x C n ks sp gV) (hr : Room j X.A) (hk : k + 1 ≤ j) (hg : Gl X x) (ha : PA X (e :: es) t) (hkw : PK X kws tk)
    (hw : ∀ vs zs H1 Q, W vs zs H1 Q → vs.length = n ∧ zs.length = ks.length ∧ ∀ x dx, H1 x = none → H1 dx = none → dx ≠ x → sp (gV (.ref x :: vs) zs) (upd (upd H1 dx (.own x)) x (.ins C dx [])) (fun v H3 => v = .non ∧ Q (.ref x) H3) C8.E0)
    (hall : (backToKw pos (keywordEach kws X.env)).all (·.1.isSome) = true := by rfl) (hks : (backToKw pos (keywordEach kws X.env)).filterMap (·.1) = ks := by rfl) (hdb : (x == ("__debug__" : Str)) = false := by decide)
    (he : starEach (e :: es) X.env = (false, eval e X.env) :: starEach es X.env := by rfl) (hpl : ((backTo pos (starEach (e :: es) X.env)).any (·.1) || (backToKw pos (keywordEach kws X.env)).any (·.1.isNone)) = false := by rfl) :
    PE X (.Call (.Name x p) (e :: es) kws pos) (tMkWK W t tk) := by
  obtain ⟨f, fd, ps, g, M, F, hm, hb⟩ := c.ex
  refine PE.imp (pe_makeK M F (hr.mono hk) hg hm hb pass0 (PA.up ha) (PK.up hkw) hall hks hdb he hpl) fun σ H Q h => ?_
  exact ⟨fun vs H1 => tk σ H1 fun zs H2 => W vs zs H2 Q, fun vs H1 q => ⟨fun zs H2 => W vs zs H2 Q, fun zs H2 w => hw vs zs H2 Q w, q⟩, h⟩
theorem rMkWK {W : List V → List V → Hp → VK → Prop} {t tk : TA} {σ : L2.St} {H : Hp} {Q : VK} (h : t σ H fun vs H1 => tk σ H1 fun zs H2 => W vs zs H2 Q) : tMkWK W t tk σ H Q := h
/-! ## tuples, read or in the text -/
theorem sqt_kp {K : PySem.W.Frag} {H H' : Hp} {a : Addr} {xs : List V} (s : KpS H H') (h : SqT K H a xs) : SqT K H' a xs := by
  rcases h with (h | ⟨o, h⟩) | h
  · exact .inl (.inl (s _ _ h fun _ z => nomatch z))
  · exact .inl (.inr ⟨o, s _ _ h fun _ z => nomatch z⟩)
  · exact .inr h
theorem sqt_up {K : PySem.W.Frag} {H : Hp} {a x C dx : Addr} {fs gs : List (Str × V)} {xs : List V} (h : SqT K H a xs) (hx : H x = some (.ins C dx fs)) : SqT K (upd H x (.ins C dx gs)) a xs := by
  rcases h with (h | ⟨o, h⟩) | h
  · exact .inl (.inl (by rw [upd_ne (ne_of h hx (fun q => nomatch q))]; exact h))
  · exact .inl (.inr ⟨o, by rw [upd_ne (ne_of h hx (fun q => nomatch q))]; exact h⟩)
  · exact .inr h
theorem tuple_sqt {K : PySem.W.Frag} {p : Addr} {xs : List V} {H : Hp} {Q : VK} (h1 : SqT K H p xs) (h : Q (.ref p) H) : rTupleOf K [.ref p] H Q := ⟨p, xs, rfl, .inr ⟨h1, h⟩⟩
theorem len_sqt {K : PySem.W.Frag} {p : Addr} {xs : List V} {H : Hp} {Q : VK} (h1 : SqT K H p xs) (h : Q (.int xs.length) H) : rLenU K [.ref p] H Q := .inl ⟨p, xs, rfl, .inr h1, h⟩
theorem ix_sqt {K : PySem.W.Frag} {p : Addr} {xs : List V} {i : Int} {v : V} {H : Hp} {Q : VK} (h1 : SqT K H p xs) (h2 : atI xs i = some v) (h : Q v H) : rIx K (.ref p) (.int i) H Q := .inr (.inl ⟨p, xs, i, v, rfl, rfl, h1, h2, h⟩)
theorem tru_sqt {K : PySem.W.Frag} {p : Addr} {xs : List V} {H : Hp} {R : Bool → Prop} (h1 : SqT K H p xs) (h : R (!xs.isEmpty)) : ∃ k, TruV K (.ref p) H k ∧ R k := ⟨_, .inr (.inl ⟨xs, h1, rfl⟩), h⟩
/-! ## a loop over a text -/
section
variable {g : TG} {tb : TS} {nx : L2.St → Hp → Prop} {rt : VK} {bk ct : L2.St → Hp → Prop} {σ : L2.St} {H : Hp} {tl : TE} {Q : VK}
theorem rForS (h : tl σ H fun x H1 => ∃ z, x = .str z ∧ loopJ (Its z) g tb nx rt σ H1) : tFor (iStr tl) g tb ⟨nx, rt, bk, ct⟩ σ H := h
theorem loopS_by {z : Str} (Pv : Nat → L2.St → Hp → Prop) (h0 : Pv 0 σ H)
    (hs : ∀ i c σ H, z.cps[i]? = some c → Pv i σ H → g (.str ⟨#[c]⟩) σ H fun σ2 H2 => tb ⟨Pv (i + 1), rt, nx, Pv (i + 1)⟩ σ2 H2) (hd : ∀ σ H, Pv z.cps.size σ H → nx σ H) : loopJ (Its z) g tb nx rt σ H :=
  for_it walk_str (D := ⟨nx, rt, fun _ _ => False, fun _ _ => False⟩) Pv h0 (fun _ _ _ _ _ => trivial) (fun i x σ H H' _ p ⟨e, c, hc, ex⟩ => by subst e ex; exact hs i c σ _ hc p) hd
theorem rIts {z : Str} {R : Str → Prop} (h : R z) : ∃ y, V.str z = V.str y ∧ R y := ⟨z, rfl, h⟩
/-! ## list(range(n)) -/
theorem rLstRg {te : L2.St → Hp → (Int → Int → Hp → Prop) → Prop} (h : te σ H fun a b H1 => RgOk a b ∧ newO (.lst (rgV a b)) H1 Q) : tLstRg te σ H Q := h
end
/-! ## fields, by their place -/
theorem lkn {k a : Str} {v : V} {l : List (Str × V)} {r : Option V} (h : (k == a) = false) (q : List.lookup k l = r) : List.lookup k ((a, v) :: l) = r := by
  rw [← q]
  show (match (k == a) with | true => some v | false => List.lookup k l) = _
  rw [h]
theorem lke {k : Str} {v : V} {l : List (Str × V)} : List.lookup k ((k, v) :: l) = some v := by
  show (match (k == k) with | true => some v | false => List.lookup k l) = _
  rw [beq_self_eq_true]
theorem putF_new {f : Str} {v : V} : ∀ {l : List (Str × V)}, (l.all fun e => !(decide (e.1 = f))) = true → putF f v l = l ++ [(f, v)]
  | [], _ => rfl
  | e :: l, h => by
    simp only [List.all_cons, Bool.and_eq_true, Bool.not_eq_true', decide_eq_false_iff_not] at h
    show (if e.1 = f then _ else e :: putF f v l) = _
    rw [if_neg h.1, putF_new (by simpa using h.2)]
    rfl
/-! ## a comprehension over a list, its element drawn -/
section
variable {i : Nat} {te : TE} {σ : L2.St} {H : Hp} {Q : VK} {r : Addr} {K : PySem.W.Frag} {n : Nat}
def cDH (r : Addr) (H : Hp) (D : Addr) (Pa : List V → Hp → Prop) (k : Nat) (y : V) (H4 : Hp) : Prop :=
  ∃ acc, H4 D = some (.lst acc) ∧ acc.length < sizeLine ∧ ∃ acc', acc'.length = k + 1 ∧ Pa acc' (upd H4 D (.lst (acc ++ [y]))) ∧ SL r H (upd H4 D (.lst (acc ++ [y]))) ∧ Reel (upd H4 D (.lst (acc ++ [y]))) r ∧ upd H4 D (.lst (acc ++ [y])) D = some (.lst acc')
theorem cDH_of {D : Addr} {acc : List V} {H2 H4 : Hp} {Pa : List V → Hp → Prop} {y : V} (c : cIn r H D n acc H2) (hn : n < 16777216) (s : SL r H2 H4) (hr : Reel H4 r) (pa : ∀ H5, SL D H4 H5 → Pa (acc ++ [y]) H5) : cDH r H D Pa acc.length y H4 := by
  have hrD : r ≠ D := by
    obtain ⟨_, e⟩ := c.since.was
    exact c.fresh.ne e
  have l := c.lt
  have e4 := s.keep D _ hrD.symm c.at_D
  exact ⟨acc, e4, sz_lt (by omega), acc ++ [y], by simp, pa _ ⟨⟨_, e4⟩, ⟨_, upd_same⟩, fun a u n e => by rw [upd_ne n]; exact e⟩, (c.since.trans s).upd_new c.fresh, hr.upd_ne hrD, upd_same⟩
theorem compL_draw {a : Addr} {xs : List V} (ha : H a = some (.lst xs)) (hn : a ≠ r) (hR : Reel H r) (Pa : List V → Hp → Prop) (h0 : ∀ H2, Pa [] H2)
    (hs : ∀ acc x H2 D, cIn r H D xs.length acc H2 → xs[acc.length]? = some x → Pa acc H2 → te ((σ.set i none).set i (some x)) H2 (fun y H3 => cDH r H D Pa acc.length y H3))
    (hd : ∀ acc H2 D, acc.length = xs.length → Pa acc H2 → SL r H H2 → Reel H2 r → H2 D = some (.lst acc) → Frs H D → Q (.ref D) H2) : compJ (Itl K a) (gName i) tYes te [i] σ H Q := by
  intro D hD
  have hrD : r ≠ D := hR.ne hD
  refine lc_list (K := K) (a := a) (xs := xs) (Qd := fun H' => Q (.ref D) H') (fun k H' => ∃ acc, acc.length = k ∧ Pa acc H' ∧ SL r H H' ∧ Reel H' r ∧ H' D = some (.lst acc)) ⟨[], rfl, h0 _, hR.refl.upd_new hD, hR.upd_ne hrD, upd_same⟩ (fun i H' _ ⟨_, _, _, s, _⟩ => SqL.of (s.keep a _ hn ha)) ?_ ?_
  · rintro k x H' hx ⟨acc, rfl, pa, s, hr, hDl⟩
    exact ⟨wipe1 σ i _, (hs acc x H' D ⟨hDl, hD, s, hr, (List.getElem?_eq_some_iff.mp hx).1⟩ hx pa)⟩
  · rintro H' ⟨acc, e, pa, s, hr, hDl⟩
    exact hd acc H' D e pa s hr hDl hD
/-- a list, many times over -/
theorem mul_rep {l : Addr} {xs : List V} {k : Int} (h1 : H l = some (.lst xs)) (hk : -(2 ^ 63) ≤ k ∧ k < 2 ^ 63) (hl : xs.length * k.toNat ≤ sizeLine) (h : newO (.lst (List.replicate k.toNat xs).flatten) H Q) : rMulU (.ref l) (.int k) H Q := .inr ⟨l, k, xs, rfl, rfl, h1, hk.1, hk.2, hl, h⟩
theorem reverse_lst {p : Addr} {xs : List V} (h1 : H p = some (.lst xs)) (h : putO p xs.reverse H (Q .non)) : rReverse (.ref p) [] H Q := ⟨p, xs, rfl, rfl, h1, h⟩
theorem extend_lst {p q : Addr} {xs ys : List V} (h1 : H p = some (.lst xs)) (h2 : H q = some (.lst ys)) (hl : xs.length + ys.length ≤ sizeLine) (h : putO p (xs ++ ys) H (Q .non)) : rExtend (.ref p) [.ref q] H Q := ⟨p, q, xs, ys, rfl, rfl, h1, h2, hl, h⟩
end
/-! ## a while with a measure -/
theorem whileM {c : TT} {tb : TS} {nx : L2.St → Hp → Prop} {rt : VK} {bk ct : L2.St → Hp → Prop} {σ : L2.St} {H : Hp} (W : Nat → L2.St → Hp → Prop) {m : Nat} (h0 : W m σ H)
    (hs : ∀ m σ H, W m σ H → c σ H fun b H1 => if b = true then ∃ N : L2.St → Hp → Prop, (∀ σ' H', N σ' H' → ∃ m', m' < m ∧ W m' σ' H') ∧ tb ⟨N, rt, nx, N⟩ σ H1 else nx σ H1) : tWhile c tb ⟨nx, rt, bk, ct⟩ σ H := ⟨W, ⟨m, h0⟩, hs⟩
theorem wGo {W : Nat → L2.St → Hp → Prop} {m : Nat} {tb : TS} {rt : VK} {nx : L2.St → Hp → Prop} {σ : L2.St} {H : Hp} (h : tb ⟨fun σ' H' => ∃ m', m' < m ∧ W m' σ' H', rt, nx, fun σ' H' => ∃ m', m' < m ∧ W m' σ' H'⟩ σ H) :
    ∃ N : L2.St → Hp → Prop, (∀ σ' H', N σ' H' → ∃ m', m' < m ∧ W m' σ' H') ∧ tb ⟨N, rt, nx, N⟩ σ H := ⟨_, fun _ _ q => q, h⟩
/-- a while whose ends are joined -/
theorem whileC {c : TT} {tb : TS} {nx : L2.St → Hp → Prop} {rt : VK} {bk ct : L2.St → Hp → Prop} {σ : L2.St} {H : Hp} (W : Nat → L2.St → Hp → Prop) (Mid : L2.St → Hp → Prop) {m : Nat} (h0 : W m σ H)
    (hs : ∀ nx' : L2.St → Hp → Prop, (∀ σ H, Mid σ H → nx' σ H) → ∀ m σ H, W m σ H → c σ H fun b H1 => if b = true then ∃ N : L2.St → Hp → Prop, (∀ σ' H', N σ' H' → ∃ m', m' < m ∧ W m' σ' H') ∧ tb ⟨N, rt, nx', N⟩ σ H1 else nx' σ H1)
    (h2 : ∀ σ H, Mid σ H → nx σ H) : tWhile c tb ⟨nx, rt, bk, ct⟩ σ H := whileM W h0 (hs nx h2)
/-- an if whose tests have many ends -/
theorem rIfC {c : TT} {A B : TS} {nx : L2.St → Hp → Prop} {rt : VK} {bk ct : L2.St → Hp → Prop} {σ : L2.St} {H : Hp} (MA MB : Hp → Prop)
    (hs : ∀ TA TB : Hp → Prop, (∀ H, MA H → TA H) → (∀ H, MB H → TB H) → c σ H fun b H1 => if b = true then TA H1 else TB H1) (hA : ∀ H, MA H → A ⟨nx, rt, bk, ct⟩ σ H) (hB : ∀ H, MB H → B ⟨nx, rt, bk, ct⟩ σ H) : tIfS c A B ⟨nx, rt, bk, ct⟩ σ H := hs _ _ hA hB
/-! ## places further on -/
theorem at3 {α : Type} {a0 a1 a2 x : α} {xs : List α} : atI (a0 :: a1 :: a2 :: x :: xs) 3 = some x := at_of (j := 3) rfl rfl
theorem at4 {α : Type} {a0 a1 a2 a3 x : α} {xs : List α} : atI (a0 :: a1 :: a2 :: a3 :: x :: xs) 4 = some x := at_of (j := 4) rfl rfl
theorem at5 {α : Type} {a0 a1 a2 a3 a4 x : α} {xs : List α} : atI (a0 :: a1 :: a2 :: a3 :: a4 :: x :: xs) 5 = some x := at_of (j := 5) rfl rfl
theorem at6 {α : Type} {a0 a1 a2 a3 a4 a5 x : α} {xs : List α} : atI (a0 :: a1 :: a2 :: a3 :: a4 :: a5 :: x :: xs) 6 = some x := at_of (j := 6) rfl rfl
theorem at7 {α : Type} {a0 a1 a2 a3 a4 a5 a6 x : α} {xs : List α} : atI (a0 :: a1 :: a2 :: a3 :: a4 :: a5 :: a6 :: x :: xs) 7 = some x := at_of (j := 7) rfl rfl
theorem at8 {α : Type} {a0 a1 a2 a3 a4 a5 a6 a7 x : α} {xs : List α} : atI (a0 :: a1 :: a2 :: a3 :: a4 :: a5 :: a6 :: a7 :: x :: xs) 8 = some x := at_of (j := 8) rfl rfl
/-! ## dicts by whole numbers -/
theorem hu1 {k : Nat} {A : Around} (r : Room k A) : A.units + 1 < cLine := by have := r.un; omega
section
variable {td ty tv : TE} {σ : L2.St} {H : Hp} {Q : VK} {nx : L2.St → Hp → Prop} {rt : VK} {bk ct : L2.St → Hp → Prop} {a : Addr} {kvs : List (L2.Key × V)} {i : Int} {v : V}
theorem rDGet (h : td σ H fun x H1 => ty σ H1 fun y H2 => ∃ a v, x = .ref a ∧ DGet H2 a y (some v) ∧ Q v H2) : tDGet td ty σ H Q := h
theorem rDPut (h : tv σ H fun v H1 => td σ H1 fun x H2 => ty σ H2 fun y H3 => ∃ a H4, x = .ref a ∧ DPut H3 a y v H4 ∧ nx σ H4) : sDPut td ty tv ⟨nx, rt, bk, ct⟩ σ H := h
theorem rDNew (h : ∀ (p : Addr) (H' : Hp), Frs H p → Same H H' → H' p = some (.dK []) → Q (.ref p) H') : tDNewK σ H Q := fun p hp => h p _ hp (fun b u e => by rw [upd_ne (ne_of_none e hp)]; exact e) upd_same
theorem dget_k {R : V → Prop} (h1 : H a = some (.dK kvs)) (h2 : valV kvs (.inl i) = some v) (h : R v) : ∃ b w, V.ref a = .ref b ∧ DGet H b (.int i) (some w) ∧ R w := by
  refine ⟨a, v, rfl, ?_, h⟩
  rw [← h2]
  exact DGet.k (k := .inl i) h1
theorem dput_k {R : Hp → Prop} (h1 : H a = some (.dK kvs)) (hl : kvs.length < sizeLine) (h : R (upd H a (.dK (putK kvs (.inl i) v)))) : ∃ b H4, V.ref a = .ref b ∧ DPut H b (.int i) v H4 ∧ R H4 := ⟨a, _, rfl, DPut.k (k := .inl i) h1 hl, h⟩
end
end Z
namespace Z
open PySem PySem.Spec L2
/-! ## trees as rows -/
structure Dt where
  k : Str
  s : Str
  st : Int
  ld : Int
  wd : Int
  lk : Int
  al : Int
  pp : Int
deriving DecidableEq
structure Rw where
  lv : Int
  d : Dt
deriving DecidableEq
/-- a row of trees: the first one, its children, the trees behind it -/
inductive Fo where
  | nil
  | cons (d : Dt) (k r : Fo)
def rowsF : Int → Fo → List Rw
  | _, .nil => []
  | L, .cons d k r => ⟨L, d⟩ :: (rowsF (L + 1) k ++ rowsF L r)
def Fo.cnt : Fo → Nat
  | .nil => 0
  | .cons _ k r => 1 + k.cnt + r.cnt
def Fo.len : Fo → Nat
  | .nil => 0
  | .cons _ _ r => r.len + 1
def Fo.dep : Fo → Nat
  | .nil => 0
  | .cons _ k r => max (1 + k.dep) r.dep
theorem rowsF_len : ∀ (L : Int) (f : Fo), (rowsF L f).length = f.cnt
  | _, .nil => rfl
  | L, .cons d k r => by
    show (rowsF (L + 1) k ++ rowsF L r).length + 1 = 1 + k.cnt + r.cnt
    rw [List.length_append, rowsF_len, rowsF_len]
    omega
theorem rowsF_low : ∀ (L : Int) (f : Fo), ∀ x ∈ rowsF L f, L ≤ x.lv
  | _, .nil, x, h => nomatch h
  | L, .cons d k r, x, h => by
    rcases List.mem_cons.mp h with rfl | h
    · exact Int.le_refl _
    · rcases List.mem_append.mp h with h | h
      · have := rowsF_low (L + 1) k x h; omega
      · exact rowsF_low L r x h
/-- levels that go on from p: none below L, none by more than one higher than the one before -/
def Stp (L : Int) : Int → List Rw → Prop
  | _, [] => True
  | p, x :: xs => L ≤ x.lv ∧ x.lv ≤ p + 1 ∧ Stp L x.lv xs
def lastL (p : Int) : List Rw → Int
  | [] => p
  | x :: xs => lastL x.lv xs
theorem lastL_app : ∀ (p : Int) (xs ys : List Rw), lastL p (xs ++ ys) = lastL (lastL p xs) ys
  | _, [], _ => rfl
  | _, x :: xs, ys => lastL_app x.lv xs ys
theorem stp_app {L : Int} : ∀ {xs ys : List Rw} {p : Int}, Stp L p (xs ++ ys) ↔ Stp L p xs ∧ Stp L (lastL p xs) ys
  | [], ys, p => ⟨fun h => ⟨trivial, h⟩, fun h => h.2⟩
  | x :: xs, ys, p => by
    show (L ≤ x.lv ∧ x.lv ≤ p + 1 ∧ Stp L x.lv (xs ++ ys)) ↔ (L ≤ x.lv ∧ x.lv ≤ p + 1 ∧ Stp L x.lv xs) ∧ Stp L (lastL x.lv xs) ys
    rw [stp_app]
    exact ⟨fun ⟨a, b, c, d⟩ => ⟨⟨a, b, c⟩, d⟩, fun ⟨⟨a, b, c⟩, d⟩ => ⟨a, b, c, d⟩⟩
theorem Stp.more {L : Int} : ∀ {xs : List Rw} {p q : Int}, p ≤ q → Stp L p xs → Stp L q xs
  | [], _, _, _, _ => trivial
  | x :: xs, p, q, h, k => ⟨k.1, by have := k.2.1; omega, k.2.2⟩
theorem Stp.up {L M : Int} : ∀ {xs : List Rw} {p : Int}, (∀ x ∈ xs, M ≤ x.lv) → Stp L p xs → Stp M p xs
  | [], _, _, _ => trivial
  | x :: xs, _, h, k => ⟨h x (List.mem_cons_self ..), k.2.1, Stp.up (fun y hy => h y (List.mem_cons_of_mem _ hy)) k.2.2⟩
theorem Stp.low {L : Int} : ∀ {xs : List Rw} {p : Int}, Stp L p xs → ∀ x ∈ xs, L ≤ x.lv
  | [], _, _, x, h => nomatch h
  | y :: xs, _, k, x, h => by
    rcases List.mem_cons.mp h with rfl | h
    · exact k.1
    · exact Stp.low k.2.2 x h
theorem last_ge {L : Int} : ∀ {xs : List Rw} {p : Int}, L ≤ p → (∀ x ∈ xs, L ≤ x.lv) → L ≤ lastL p xs
  | [], _, h, _ => h
  | x :: xs, _, _, h => last_ge (xs := xs) (p := x.lv) (h x (List.mem_cons_self ..)) fun y hy => h y (List.mem_cons_of_mem _ hy)
theorem tw_split {α : Type} (p : α → Bool) : ∀ l : List α, ∃ A B, l = A ++ B ∧ (∀ x ∈ A, p x = true) ∧ ∀ y, B.head? = some y → p y = false
  | [] => ⟨[], [], rfl, (fun _ h => nomatch h), (fun _ h => nomatch h)⟩
  | x :: l => by
    cases c : p x with
    | false => exact ⟨[], x :: l, rfl, fun _ h => (nomatch h), fun y h => by cases h; exact c⟩
    | true =>
      obtain ⟨A, B, e, h1, h2⟩ := tw_split p l
      refine ⟨x :: A, B, by rw [e]; rfl, fun y hy => ?_, h2⟩
      rcases List.mem_cons.mp hy with rfl | hy
      · exact c
      · exact h1 y hy
/-- such levels are those of a row of trees -/
theorem stp_rows : ∀ (n : Nat) {L : Int} {xs : List Rw}, xs.length ≤ n → Stp L (L - 1) xs → ∃ f, xs = rowsF L f
  | _, _, [], _, _ => ⟨.nil, rfl⟩
  | 0, _, _ :: _, h, _ => absurd h (by simp)
  | n + 1, L, x :: xs, hl, h => by
    have e : x.lv = L := by have := h.1; have := h.2.1; omega
    have hs := h.2.2
    obtain ⟨A, B, e0, h1, h2⟩ := tw_split (fun y : Rw => decide (L < y.lv)) xs
    rw [e0] at hs
    obtain ⟨hA, hB⟩ := stp_app.mp hs
    have hAl : ∀ y ∈ A, L + 1 ≤ y.lv := fun y hy => by
      have := of_decide_eq_true (h1 y hy)
      omega
    have l0 : A.length + B.length = xs.length := by rw [e0, List.length_append]
    have hl' : xs.length + 1 ≤ n + 1 := hl
    obtain ⟨k, hk⟩ := stp_rows n (L := L + 1) (xs := A) (by omega) (by
      rw [show L + 1 - 1 = L by omega]
      rw [e] at hA
      exact Stp.up hAl hA)
    have hB' : Stp L (L - 1) B := by
      cases B with
      | nil => exact trivial
      | cons y ys =>
        have hy := of_decide_eq_false (h2 y rfl)
        exact ⟨hB.1, by have := hB.1; omega, hB.2.2⟩
    obtain ⟨r, hr⟩ := stp_rows n (L := L) (xs := B) (by omega) hB'
    refine ⟨.cons x.d k r, ?_⟩
    show x :: xs = ⟨L, x.d⟩ :: (rowsF (L + 1) k ++ rowsF L r)
    rw [← hk, ← hr, ← e0, ← e]
theorem rows_stp : ∀ {L : Int} {f : Fo}, Stp L (L - 1) (rowsF L f)
  | _, .nil => trivial
  | L, .cons d k r => by
    refine ⟨Int.le_refl _, by show L ≤ L - 1 + 1; omega, ?_⟩
    show Stp L L (rowsF (L + 1) k ++ rowsF L r)
    have h1 := rows_stp (L := L + 1) (f := k)
    rw [show L + 1 - 1 = L by omega] at h1
    refine stp_app.mpr ⟨h1.up fun x hx => by have := rowsF_low _ _ x hx; omega, (rows_stp (L := L) (f := r)).more ?_⟩
    have := last_ge (L := L) (p := L) (Int.le_refl _) (xs := rowsF (L + 1) k) fun x hx => by have := rowsF_low _ _ x hx; omega
    omega
/-- a whole tree -/
def Tre (rows : List Rw) : Prop := ∃ d k, rows = ⟨0, d⟩ :: rowsF 1 k
theorem tre_of {x : Rw} {xs : List Rw} (h0 : x.lv = 0) (h : Stp 1 0 xs) : Tre (x :: xs) := by
  obtain ⟨f, hf⟩ := stp_rows xs.length (L := 1) (Nat.le_refl _) h
  exact ⟨x.d, f, by rw [← hf, ← h0]⟩
theorem Tre.stp {rows : List Rw} (h : Tre rows) : ∃ x xs, rows = x :: xs ∧ x.lv = 0 ∧ Stp 1 0 xs := by
  obtain ⟨d, k, rfl⟩ := h
  exact ⟨_, _, rfl, rfl, rows_stp⟩
theorem Tre.pos {rows : List Rw} (h : Tre rows) : 0 < rows.length := by
  obtain ⟨d, k, rfl⟩ := h
  exact Nat.succ_pos _
/-! ### the roots of what lies behind a row -/
abbrev Rt := Int × Dt × Fo
def toFo : List Rt → Fo
  | [] => .nil
  | e :: t => .cons e.2.1 e.2.2 (toFo t)
def rootsF (L : Int) : Fo → List Rt
  | .nil => []
  | .cons d k r => (L, d, k) :: rootsF L r
theorem toFo_roots (L : Int) : ∀ f : Fo, toFo (rootsF L f) = f
  | .nil => rfl
  | .cons d k r => by show Fo.cons d k (toFo (rootsF L r)) = _; rw [toFo_roots]
def stk : List Rw → List Rt
  | [] => []
  | x :: xs => (x.lv, x.d, toFo ((stk xs).takeWhile fun e => decide (e.1 = x.lv + 1))) :: (stk xs).dropWhile fun e => decide (e.1 = x.lv + 1)
abbrev HdLe (L : Int) (s : List Rt) : Prop := ∀ e, s.head? = some e → e.1 ≤ L
theorem roots_hd {L : Int} : ∀ {f : Fo} {s : List Rt}, HdLe L s → HdLe L (rootsF L f ++ s)
  | .nil, _, h => h
  | .cons d k r, _, _ => fun e he => by cases he; exact Int.le_refl _
theorem take_roots {L : Int} : ∀ {f : Fo} {s : List Rt}, (∀ e, s.head? = some e → e.1 ≠ L) → ((rootsF L f ++ s).takeWhile fun e => decide (e.1 = L)) = rootsF L f ∧ ((rootsF L f ++ s).dropWhile fun e => decide (e.1 = L)) = s
  | .nil, s, h => by
    show (s.takeWhile fun e => decide (e.1 = L)) = [] ∧ (s.dropWhile fun e => decide (e.1 = L)) = s
    cases s with
    | nil => exact ⟨rfl, rfl⟩
    | cons e t =>
      have := h e rfl
      rw [List.takeWhile_cons_of_neg (by simpa using this), List.dropWhile_cons_of_neg (by simpa using this)]
      exact ⟨rfl, rfl⟩
  | .cons d k r, s, h => by
    obtain ⟨h1, h2⟩ := take_roots (f := r) h
    show (((L, d, k) :: (rootsF L r ++ s)).takeWhile fun e => decide (e.1 = L)) = (L, d, k) :: rootsF L r ∧ (((L, d, k) :: (rootsF L r ++ s)).dropWhile fun e => decide (e.1 = L)) = s
    rw [List.takeWhile_cons_of_pos (by simp), List.dropWhile_cons_of_pos (by simp), h1, h2]
    exact ⟨rfl, rfl⟩
theorem stk_rows : ∀ {f : Fo} {L : Int} {tail : List Rw}, HdLe L (stk tail) → stk (rowsF L f ++ tail) = rootsF L f ++ stk tail
  | .nil, _, _, _ => rfl
  | .cons d k r, L, tail, h => by
    have h1 := stk_rows (f := r) h
    have hh : HdLe L (stk (rowsF L r ++ tail)) := by rw [h1]; exact roots_hd h
    have h2 := stk_rows (f := k) (L := L + 1) (tail := rowsF L r ++ tail) (fun e he => by have := hh e he; omega)
    show stk (⟨L, d⟩ :: ((rowsF (L + 1) k ++ rowsF L r) ++ tail)) = _
    rw [List.append_assoc]
    show (L, d, toFo ((stk (rowsF (L + 1) k ++ (rowsF L r ++ tail))).takeWhile fun e => decide (e.1 = L + 1))) :: (stk (rowsF (L + 1) k ++ (rowsF L r ++ tail))).dropWhile (fun e => decide (e.1 = L + 1)) = _
    obtain ⟨t1, t2⟩ := take_roots (L := L + 1) (f := k) (s := stk (rowsF L r ++ tail)) fun e he => by have := hh e he; omega
    rw [h2, t1, t2, toFo_roots, h1]
    rfl
theorem stk_tree (d : Dt) (k : Fo) : stk (⟨0, d⟩ :: rowsF 1 k) = [(0, d, k)] := by
  have h := stk_rows (f := .cons d k .nil) (L := 0) (tail := []) (fun e he => nomatch he)
  simpa [rowsF, rootsF, stk] using h
/-! ### a part of the rows -/
def endN (rows : List Rw) (a : Nat) : Nat := a + 1 + ((rows.drop (a + 1)).takeWhile fun y => decide (((rows[a]?).map (·.lv)).getD 0 < y.lv)).length
/-- what begins at a row -/
theorem part_at : ∀ {f : Fo} {L : Int} {tail : List Rw} {a : Nat}, (∀ y, tail.head? = some y → y.lv ≤ L) → HdLe L (stk tail) → a < (rowsF L f).length →
    ∃ (l : Int) (d : Dt) (k : Fo) (t : List Rw), L ≤ l ∧ (rowsF L f ++ tail).drop a = ⟨l, d⟩ :: (rowsF (l + 1) k ++ t) ∧ (∀ y, t.head? = some y → y.lv ≤ l) ∧ HdLe l (stk t)
  | .nil, _, _, _, _, _, h => absurd h (Nat.not_lt_zero _)
  | .cons d k r, L, tail, 0, h, hh, _ => by
    refine ⟨L, d, k, rowsF L r ++ tail, Int.le_refl _, ?_, ?_, ?_⟩
    · show ⟨L, d⟩ :: ((rowsF (L + 1) k ++ rowsF L r) ++ tail) = _
      rw [List.append_assoc]
    · cases r with
      | nil => exact h
      | cons d' k' r' => intro y hy; cases hy; exact Int.le_refl _
    · rw [stk_rows hh]
      exact roots_hd hh
  | .cons d k r, L, tail, a + 1, h, hh, hl => by
    have e : (rowsF L (.cons d k r) ++ tail).drop (a + 1) = (rowsF (L + 1) k ++ (rowsF L r ++ tail)).drop a := by
      show ((rowsF (L + 1) k ++ rowsF L r) ++ tail).drop a = _
      rw [List.append_assoc]
    rw [e]
    have hh2 : HdLe L (stk (rowsF L r ++ tail)) := by rw [stk_rows hh]; exact roots_hd hh
    have h2 : ∀ y, (rowsF L r ++ tail).head? = some y → y.lv ≤ L := by
      cases r with
      | nil => exact h
      | cons d' k' r' => intro y hy; cases hy; exact Int.le_refl _
    by_cases c : a < (rowsF (L + 1) k).length
    · obtain ⟨l, d', k', t, q1, q2, q3, q4⟩ := part_at (f := k) (L := L + 1) (tail := rowsF L r ++ tail) (a := a) (fun y hy => by have := h2 y hy; omega) (fun e he => by have := hh2 e he; omega) c
      exact ⟨l, d', k', t, by omega, q2, q3, q4⟩
    · have hl' : a + 1 < (rowsF (L + 1) k ++ rowsF L r).length + 1 := hl
      rw [List.length_append] at hl'
      rw [List.drop_append, List.drop_eq_nil_of_le (by omega), List.nil_append]
      exact part_at (f := r) (L := L) (tail := tail) (a := a - (rowsF (L + 1) k).length) h hh (by omega)
theorem takeWhile_all {α : Type} {p : α → Bool} : ∀ {l t : List α}, (∀ x ∈ l, p x = true) → (∀ y, t.head? = some y → p y = false) → (l ++ t).takeWhile p = l
  | [], t, _, h => by
    cases t with
    | nil => rfl
    | cons y t => show (y :: t).takeWhile p = []; rw [List.takeWhile_cons_of_neg (by rw [h y rfl]; simp)]
  | x :: l, t, h1, h2 => by
    show (x :: (l ++ t)).takeWhile p = x :: l
    rw [List.takeWhile_cons_of_pos (h1 x (List.mem_cons_self ..)), takeWhile_all (fun y hy => h1 y (List.mem_cons_of_mem _ hy)) h2]
/-- the part of a tree that begins at a row -/
theorem Tre.part {rows : List Rw} (h : Tre rows) {a : Nat} (ha : a < rows.length) : ∃ (l : Int) (d : Dt) (k : Fo) (t : List Rw), 0 ≤ l ∧ rows[a]? = some ⟨l, d⟩ ∧ rows.drop a = ⟨l, d⟩ :: (rowsF (l + 1) k ++ t) ∧ (∀ y, t.head? = some y → y.lv ≤ l) ∧
    stk (rows.drop a) = (l, d, k) :: stk t ∧ endN rows a = a + 1 + k.cnt ∧ (rows.take (endN rows a)).drop a = ⟨l, d⟩ :: rowsF (l + 1) k := by
  obtain ⟨d0, k0, e⟩ := h
  have e2 : rows = rowsF 0 (.cons d0 k0 .nil) ++ [] := by rw [e]; simp [rowsF]
  obtain ⟨l, d, k, t, q1, q2, q3, q4⟩ := part_at (f := .cons d0 k0 .nil) (L := 0) (tail := []) (a := a) (fun y hy => nomatch hy) (fun e he => nomatch he) (by rw [List.append_nil] at e2; rw [← e2]; exact ha)
  rw [← e2] at q2
  have hat : rows[a]? = some ⟨l, d⟩ := by
    have := congrArg List.head? q2
    rw [List.head?_drop] at this
    exact this
  have hdr : rows.drop (a + 1) = rowsF (l + 1) k ++ t := by
    have := congrArg List.tail q2
    rw [List.tail_drop] at this
    exact this
  have hend : endN rows a = a + 1 + k.cnt := by
    unfold endN
    rw [hat, hdr, takeWhile_all (l := rowsF (l + 1) k) (t := t)]
    · rw [rowsF_len]
    · intro x hx
      have := rowsF_low _ _ x hx
      show decide (l < x.lv) = true
      exact decide_eq_true (by omega)
    · intro y hy
      have := q3 y hy
      show decide (l < y.lv) = false
      exact decide_eq_false (by omega)
  refine ⟨l, d, k, t, q1, hat, q2, q3, ?_, hend, ?_⟩
  · have := stk_rows (f := .cons d k .nil) (L := l) (tail := t) q4
    rw [q2]
    simpa [rowsF, rootsF] using this
  · rw [List.drop_take, q2, hend, show a + 1 + k.cnt - a = (⟨l, d⟩ :: rowsF (l + 1) k : List Rw).length by rw [List.length_cons, rowsF_len]; omega]
    show (((⟨l, d⟩ :: rowsF (l + 1) k : List Rw)) ++ t).take _ = _
    rw [List.take_left' rfl]
end Z
namespace Z
open PySem PySem.Spec L2
/-! ## levels, and rows that are changed -/
def stI : Int → List Int → Prop
  | _, [] => True
  | p, x :: xs => 1 ≤ x ∧ x ≤ p + 1 ∧ stI x xs
def laI : Int → List Int → Int
  | p, [] => p
  | _, x :: xs => laI x xs
theorem laI_snoc : ∀ (p : Int) (t : List Int) (x : Int), laI p (t ++ [x]) = x
  | _, [], _ => rfl
  | _, y :: t, x => laI_snoc y t x
theorem stI_snoc {x : Int} : ∀ {t : List Int} {p : Int}, stI p t → 1 ≤ x → x ≤ laI p t + 1 → stI p (t ++ [x])
  | [], _, _, h1, h2 => ⟨h1, h2, trivial⟩
  | y :: t, _, h, h1, h2 => ⟨h.1, h.2.1, stI_snoc h.2.2 h1 h2⟩
theorem stI_last : ∀ {t : List Int} {p : Int}, 0 ≤ p → stI p t → 0 ≤ laI p t
  | [], _, h, _ => h
  | y :: t, _, _, h => stI_last (t := t) (by have := h.1; omega) h.2.2
theorem laI_at : ∀ (t : List Int) (p : Int), (p :: t)[t.length]? = some (laI p t)
  | [], _ => rfl
  | y :: t, p => by
    show (y :: t)[t.length]? = _
    exact laI_at t y
theorem stI_ones : ∀ (n : Nat) (p : Int), 0 ≤ p → stI p (List.replicate n 1)
  | 0, _, _ => trivial
  | n + 1, p, h => ⟨Int.le_refl _, (by omega), stI_ones n 1 (by omega)⟩
/-- levels of a whole tree -/
def LvOk (ls : List Int) : Prop := ∃ t, ls = 0 :: t ∧ stI 0 t
theorem LvOk.snoc {ls : List Int} {x : Int} (h : LvOk ls) (h1 : 1 ≤ x) (h2 : ∃ y, ls[ls.length - 1]? = some y ∧ x ≤ y + 1) : LvOk (ls ++ [x]) := by
  obtain ⟨t, rfl, ht⟩ := h
  obtain ⟨y, e, h2⟩ := h2
  have e2 := laI_at t 0
  rw [show (0 :: t).length - 1 = t.length by simp] at e
  rw [e] at e2
  cases e2
  exact ⟨t ++ [x], rfl, stI_snoc ht h1 h2⟩
theorem LvOk.last {ls : List Int} (h : LvOk ls) : ∃ y, ls[ls.length - 1]? = some y ∧ 0 ≤ y := by
  obtain ⟨t, rfl, ht⟩ := h
  exact ⟨_, by rw [show (0 :: t).length - 1 = t.length by simp]; exact laI_at t 0, stI_last (Int.le_refl _) ht⟩
theorem LvOk.pos {ls : List Int} (h : LvOk ls) : 0 < ls.length := by
  obtain ⟨t, rfl, _⟩ := h
  exact Nat.succ_pos _
theorem stp_of : ∀ {ls : List Int} {rows : List Rw} {p : Int}, rows.map (·.lv) = ls → stI p ls → Stp 1 p rows
  | [], rows, p, e, _ => by
    cases rows with
    | nil => trivial
    | cons x xs => cases e
  | l :: ls, rows, p, e, h => by
    cases rows with
    | nil => cases e
    | cons x xs =>
      injection e with e1 e2
      subst e1
      exact ⟨h.1, h.2.1, stp_of e2 h.2.2⟩
theorem LvOk.tre {ls : List Int} {rows : List Rw} (h : LvOk ls) (e : rows.map (·.lv) = ls) : Tre rows := by
  obtain ⟨t, rfl, ht⟩ := h
  cases rows with
  | nil => cases e
  | cons x xs =>
    injection e with e1 e2
    exact tre_of e1 (stp_of e2 ht)
/-! ### what a row may hold -/
def Nam (s : Str) : Prop := s.length ≤ 100 ∧ Ok s
def lim (a n : Int) : Prop := a ≤ n ∧ n ≤ 999999999
structure DtOk (d : Dt) : Prop where
  k : Nam d.k
  s : Nam d.s
  st : lim (-1) d.st
  ld : lim 0 d.ld
  wd : lim 0 d.wd
  lk : lim 0 d.lk
  al : lim (-1) d.al
  pp : lim 0 d.pp
structure Grow (n : Nat) (rows : List Rw) : Prop where
  tre : Tre rows
  len : rows.length ≤ n
  ok : ∀ x ∈ rows, DtOk x.d
/-! ### a part taken out, another put in -/
theorem Stp.hd {L : Int} : ∀ {t : List Rw} {p q : Int}, Stp L p t → (∀ y, t.head? = some y → y.lv ≤ q + 1) → Stp L q t
  | [], _, _, _, _ => trivial
  | y :: t, _, _, h, k => ⟨h.1, k y rfl, h.2.2⟩
/-- the rows, a part in them -/
structure Prt (rows : List Rw) (a : Nat) (A t : List Rw) (l : Int) (d : Dt) (k : Fo) : Prop where
  e : rows = A ++ ⟨l, d⟩ :: (rowsF (l + 1) k ++ t)
  la : A.length = a
  ht : ∀ y, t.head? = some y → y.lv ≤ l
  l0 : 0 ≤ l
theorem Prt.at {rows A t : List Rw} {a : Nat} {l : Int} {d : Dt} {k : Fo} (h : Prt rows a A t l d k) : rows[a]? = some ⟨l, d⟩ := by
  rw [h.e, ← h.la, List.getElem?_append_right (Nat.le_refl _), Nat.sub_self]
  rfl
theorem Prt.drop {rows A t : List Rw} {a : Nat} {l : Int} {d : Dt} {k : Fo} (h : Prt rows a A t l d k) : rows.drop a = ⟨l, d⟩ :: (rowsF (l + 1) k ++ t) := by
  rw [h.e, ← h.la, List.drop_left' rfl]
theorem Prt.take {rows A t : List Rw} {a : Nat} {l : Int} {d : Dt} {k : Fo} (h : Prt rows a A t l d k) : rows.take a = A := by
  rw [h.e, ← h.la, List.take_left' rfl]
theorem Prt.drop1 {rows A t : List Rw} {a : Nat} {l : Int} {d : Dt} {k : Fo} (h : Prt rows a A t l d k) : rows.drop (a + 1) = rowsF (l + 1) k ++ t := by
  have := congrArg List.tail h.drop
  rw [List.tail_drop] at this
  exact this
theorem Prt.take1 {rows A t : List Rw} {a : Nat} {l : Int} {d : Dt} {k : Fo} (h : Prt rows a A t l d k) : rows.take (a + 1) = A ++ [⟨l, d⟩] := by
  rw [h.e, List.take_append, List.take_of_length_le (by have := h.la; omega), show a + 1 - A.length = 1 by have := h.la; omega]
  rfl
theorem Prt.endN {rows A t : List Rw} {a : Nat} {l : Int} {d : Dt} {k : Fo} (h : Prt rows a A t l d k) : endN rows a = a + 1 + k.cnt := by
  unfold Z.endN
  rw [h.at, h.drop1, takeWhile_all (l := rowsF (l + 1) k) (t := t)]
  · rw [rowsF_len]
  · intro x hx
    have := rowsF_low _ _ x hx
    exact decide_eq_true (by show l < x.lv; omega)
  · intro y hy
    have := h.ht y hy
    exact decide_eq_false (by show ¬ l < y.lv; omega)
theorem Prt.dropE {rows A t : List Rw} {a : Nat} {l : Int} {d : Dt} {k : Fo} (h : Prt rows a A t l d k) : rows.drop (a + 1 + k.cnt) = t := by
  rw [← List.drop_drop, h.drop1, List.drop_left' (rowsF_len _ _)]
theorem Prt.takeE {rows A t : List Rw} {a : Nat} {l : Int} {d : Dt} {k : Fo} (h : Prt rows a A t l d k) : rows.take (a + 1 + k.cnt) = A ++ ⟨l, d⟩ :: rowsF (l + 1) k := by
  rw [h.e, show A ++ (⟨l, d⟩ : Rw) :: (rowsF (l + 1) k ++ t) = (A ++ ⟨l, d⟩ :: rowsF (l + 1) k) ++ t by simp, List.take_left']
  rw [List.length_append, List.length_cons, rowsF_len]
  have := h.la
  omega
theorem Prt.len {rows A t : List Rw} {a : Nat} {l : Int} {d : Dt} {k : Fo} (h : Prt rows a A t l d k) : rows.length = a + 1 + k.cnt + t.length := by
  rw [h.e, List.length_append, List.length_cons, List.length_append, rowsF_len]
  have := h.la
  omega
theorem Tre.prt {rows : List Rw} (h : Tre rows) {a : Nat} (ha : a < rows.length) : ∃ A t l d k, Prt rows a A t l d k := by
  obtain ⟨l, d, k, t, h0, h1, h2, h3, _⟩ := h.part ha
  exact ⟨rows.take a, t, l, d, k, ⟨by rw [← h2, List.take_append_drop], by rw [List.length_take]; omega, h3, h0⟩⟩
/-- the first child's part -/
theorem Prt.kid {rows A t : List Rw} {a : Nat} {l : Int} {d d1 : Dt} {k1 r1 : Fo} (h : Prt rows a A t l d (.cons d1 k1 r1)) : Prt rows (a + 1) (A ++ [⟨l, d⟩]) (rowsF (l + 1) r1 ++ t) (l + 1) d1 k1 := by
  refine ⟨by rw [h.e]; simp [rowsF], by rw [List.length_append, h.la]; rfl, ?_, by have := h.l0; omega⟩
  cases r1 with
  | nil => intro y hy; have := h.ht y hy; omega
  | cons d' k' r' => intro y hy; cases hy; exact Int.le_refl _
theorem swapIn {A t : List Rw} {l : Int} {d d' : Dt} {k k' : Fo} (ht : ∀ y, t.head? = some y → y.lv ≤ l) (h : Tre (A ++ ⟨l, d⟩ :: (rowsF (l + 1) k ++ t))) : Tre (A ++ ⟨l, d'⟩ :: (rowsF (l + 1) k' ++ t)) := by
  obtain ⟨x, xs, e, h0, hs⟩ := h.stp
  have key : ∀ {p q : Int}, l - 1 ≤ q → Stp 1 p (rowsF (l + 1) k ++ t) → 1 ≤ l + 1 → Stp 1 l (rowsF (l + 1) k' ++ t) := fun {p q} _ hp hl => by
    have hk := rows_stp (L := l + 1) (f := k')
    rw [show l + 1 - 1 = l by omega] at hk
    refine stp_app.mpr ⟨hk.up fun x hx => by have := rowsF_low _ _ x hx; omega, (stp_app.mp hp).2.hd fun y hy => ?_⟩
    have := last_ge (L := l) (p := l) (Int.le_refl _) (xs := rowsF (l + 1) k') fun x hx => by have := rowsF_low _ _ x hx; omega
    have := ht y hy
    omega
  cases A with
  | nil =>
    cases e
    have h0 : l = 0 := h0
    subst h0
    exact tre_of rfl (key (q := 0) (by omega) hs (by omega))
  | cons y A =>
    cases e
    obtain ⟨h1, h2⟩ := stp_app.mp hs
    refine tre_of h0 (stp_app.mpr ⟨h1, h2.1, h2.2.1, key (q := l) (by omega) h2.2.2 (by have h3 : 1 ≤ l := h2.1; omega)⟩)
def Fo.app : Fo → Fo → Fo
  | .nil, g => g
  | .cons d k r, g => .cons d k (r.app g)
theorem rowsF_app (L : Int) : ∀ f g : Fo, rowsF L (f.app g) = rowsF L f ++ rowsF L g
  | .nil, _ => rfl
  | .cons d k r, g => by
    show (⟨L, d⟩ : Rw) :: (rowsF (L + 1) k ++ rowsF L (r.app g)) = ⟨L, d⟩ :: (rowsF (L + 1) k ++ rowsF L r) ++ rowsF L g
    rw [rowsF_app L r g]
    simp
section
variable {rows A t : List Rw} {a : Nat} {l : Int} {d d1 d' : Dt} {k k1 r1 : Fo}
theorem Prt.tre (h : Prt rows a A t l d k) (hT : Tre rows) (d' : Dt) (k' : Fo) : Tre (A ++ ⟨l, d'⟩ :: (rowsF (l + 1) k' ++ t)) := swapIn h.ht (by rw [← h.e]; exact hT)
/-- a row changed -/
theorem Prt.c1 (h : Prt rows a A t l d k) (hT : Tre rows) : Tre (rows.take a ++ [⟨l, d'⟩] ++ rows.drop (a + 1)) := by
  rw [h.take, h.drop1, List.append_assoc]
  exact h.tre hT d' k
/-- a leaf behind the last child -/
theorem Prt.c2 (h : Prt rows a A t l d k) (hT : Tre rows) : Tre (rows.take (a + 1 + k.cnt) ++ [⟨l + 1, d'⟩] ++ rows.drop (a + 1 + k.cnt)) := by
  have := h.tre hT d (k.app (.cons d' .nil .nil))
  rw [rowsF_app] at this
  rw [h.takeE, h.dropE]
  simpa [rowsF] using this
/-- a leaf ahead of the first child -/
theorem Prt.c3 (h : Prt rows a A t l d k) (hT : Tre rows) : Tre (rows.take (a + 1) ++ [⟨l + 1, d'⟩] ++ rows.drop (a + 1)) := by
  have := h.tre hT d (.cons d' .nil k)
  rw [h.take1, h.drop1]
  simpa [rowsF] using this
/-- without the first child -/
theorem Prt.c4 (h : Prt rows a A t l d (.cons d1 k1 r1)) (hT : Tre rows) : Tre (rows.take (a + 1) ++ rows.drop (a + 1 + 1 + k1.cnt)) := by
  have := h.tre hT d r1
  rw [h.take1, h.kid.dropE]
  simpa using this
/-- without children -/
theorem Prt.c5 (h : Prt rows a A t l d k) (hT : Tre rows) : Tre (rows.take (a + 1) ++ rows.drop (a + 1 + k.cnt)) := by
  have := h.tre hT d .nil
  rw [h.take1, h.dropE]
  simpa [rowsF] using this
/-- the first child behind the others -/
theorem Prt.c6 (h : Prt rows a A t l d (.cons d1 k1 r1)) (hT : Tre rows) : Tre (rows.take (a + 1) ++ (rows.take (a + 1 + (Fo.cons d1 k1 r1).cnt)).drop (a + 1 + 1 + k1.cnt) ++ (rows.take (a + 1 + 1 + k1.cnt)).drop (a + 1) ++ rows.drop (a + 1 + (Fo.cons d1 k1 r1).cnt)) := by
  have := h.tre hT d (r1.app (.cons d1 k1 .nil))
  rw [rowsF_app] at this
  have e1 : (rows.take (a + 1 + (Fo.cons d1 k1 r1).cnt)).drop (a + 1 + 1 + k1.cnt) = rowsF (l + 1) r1 := by
    rw [h.takeE, show a + 1 + 1 + k1.cnt = (A ++ (⟨l, d⟩ : Rw) :: ⟨l + 1, d1⟩ :: rowsF (l + 1 + 1) k1).length by rw [List.length_append, List.length_cons, List.length_cons, rowsF_len, h.la]; omega]
    rw [show A ++ (⟨l, d⟩ : Rw) :: rowsF (l + 1) (.cons d1 k1 r1) = (A ++ (⟨l, d⟩ : Rw) :: ⟨l + 1, d1⟩ :: rowsF (l + 1 + 1) k1) ++ rowsF (l + 1) r1 by simp [rowsF], List.drop_left' rfl]
  have e2 : (rows.take (a + 1 + 1 + k1.cnt)).drop (a + 1) = ⟨l + 1, d1⟩ :: rowsF (l + 1 + 1) k1 := by
    rw [h.kid.takeE, List.drop_left' (by rw [List.length_append, h.la]; rfl)]
  rw [h.take1, e1, e2, h.dropE]
  simpa [rowsF] using this
end
/-! ### the loop that looks for the end -/
theorem endN_in {rows : List Rw} {a : Nat} : endN rows a ≤ max (a + 1) rows.length := by
  unfold endN
  have h1 : ((rows.drop (a + 1)).takeWhile fun y => decide (((rows[a]?).map (·.lv)).getD 0 < y.lv)).length ≤ (rows.drop (a + 1)).length := (List.takeWhile_sublist _).length_le
  rw [List.length_drop] at h1
  omega
theorem endN_go {rows : List Rw} {a j : Nat} {x y : Rw} (hx : rows[a]? = some x) (hj : a < j) (hle : j ≤ endN rows a) (hy : rows[j]? = some y) (h : x.lv < y.lv) : j + 1 ≤ endN rows a := by
  rcases Nat.lt_or_ge j (endN rows a) with c | c
  · omega
  · exfalso
    have e : endN rows a = j := by omega
    unfold endN at e
    rw [hx] at e
    generalize hp : (fun z : Rw => decide (((some x).map (·.lv)).getD 0 < z.lv)) = p at e
    obtain ⟨A, B, e0, h1, h2⟩ := tw_split p (rows.drop (a + 1))
    rw [e0, takeWhile_all h1 h2] at e
    have hb : B.head? = some y := by
      have : (rows.drop (a + 1))[A.length]? = some y := by
        rw [List.getElem?_drop, show a + 1 + A.length = j by omega]
        exact hy
      rw [e0, List.getElem?_append_right (Nat.le_refl _), Nat.sub_self] at this
      rw [List.head?_eq_getElem?]
      exact this
    have := h2 y hb
    rw [← hp] at this
    exact of_decide_eq_false this h
theorem endN_stop {rows : List Rw} {a j : Nat} {x y : Rw} (hx : rows[a]? = some x) (hj : a < j) (hle : j ≤ endN rows a) (hy : rows[j]? = some y) (h : ¬ x.lv < y.lv) : j = endN rows a := by
  rcases Nat.lt_or_ge j (endN rows a) with c | c
  · exfalso
    unfold endN at c
    rw [hx] at c
    generalize hp : (fun z : Rw => decide (((some x).map (·.lv)).getD 0 < z.lv)) = p at c
    obtain ⟨A, B, e0, h1, h2⟩ := tw_split p (rows.drop (a + 1))
    rw [e0, takeWhile_all h1 h2] at c
    have hm : (rows.drop (a + 1))[j - (a + 1)]? = some y := by
      rw [List.getElem?_drop, show a + 1 + (j - (a + 1)) = j by omega]
      exact hy
    rw [e0, List.getElem?_append_left (by omega)] at hm
    have := h1 y (List.mem_of_getElem? hm)
    rw [← hp] at this
    exact h (of_decide_eq_true this)
  · omega
end Z
namespace Z
open PySem PySem.Spec L2 ItX
local macro_rules | `(tactic| walk_at "ne") => `(tactic| first
  | with_reducible assumption
  | with_reducible exact Ne.symm (by assumption)
  | exact Frs.ne (by with_reducible assumption) (by walk_at "hp")
  | exact Frs.ne' (by with_reducible assumption) (by walk_at "hp"))
local macro_rules | `(tactic| walk_at "hp") => `(tactic| first
  | with_reducible assumption
  | (with_reducible refine Same.at (by assumption) ?_; walk_at "hp")
  | (with_reducible refine SL.tup (by assumption) ?_; walk_at "hp")
  | (with_reducible refine SL.at (by assumption) (by walk_at "ne") ?_; walk_at "hp"))
local macro_rules | `(tactic| walk_at "sz") => `(tactic| first
  | with_reducible assumption
  | exact Nat.le_of_ble_eq_true rfl
  | (refine sz_le ?_; omega)
  | (refine sz_lt ?_; omega)
  | decide +kernel)
local macro_rules | `(tactic| walk_at "at") => `(tactic| first
  | with_reducible assumption
  | with_reducible exact at0
  | with_reducible exact at1
  | with_reducible exact at2
  | with_reducible exact ixN0)
local macro_rules | `(tactic| walk_at "nn") => `(tactic| first
  | omega
  | decide
  | exact ⟨by decide, by decide⟩
  | exact ⟨by omega, by omega⟩
  | exact ⟨by omega, by omega, by omega, by omega⟩)
local macro_rules | `(tactic| walk_at "rdv") => `(tactic| first
  | (with_reducible refine add_int ?_)
  | (with_reducible refine sub_int ?_)
  | (with_reducible refine neg_int ?_)
  | ((with_reducible refine ix_tpl (xs := ?xs) (v := ?v) ?h1 ?h2 ?_); (case h1 => walk_at "hp"); (case h2 => walk_at "at"))
  | ((with_reducible refine ix_lst (xs := ?xs) (v := ?v) ?h1 ?h2 ?_); (case h1 => walk_at "hp"); (case h2 => walk_at "at"))
  | (with_reducible refine eq_int ?_)
  | (with_reducible refine ne_int ?_)
  | (with_reducible refine lt_int ?_)
  | (with_reducible refine le_int ?_)
  | (with_reducible refine gt_int ?_)
  | (with_reducible refine ge_int ?_)
  | (with_reducible refine eq_str ?_)
  | (with_reducible refine ne_str ?_)
  | (with_reducible refine eq_bl ?_)
  | (with_reducible refine ne_bl ?_)
  | ((with_reducible refine mod_int ?hc ?_); (case hc => walk_at "nn"))
  | ((with_reducible refine div_int ?hc ?_); (case hc => walk_at "nn"))
  | ((with_reducible refine mul_intR ?hc ?_); (case hc => exact ⟨by decide, by decide⟩))
  | ((with_reducible refine mul_intR ?hc ?_); (case hc => exact ⟨by omega, by omega⟩))
  | ((with_reducible refine mul_intL ?hc ?_); (case hc => exact ⟨by omega, by omega⟩))
  | ((with_reducible refine pow_int ?hc ?_); (case hc => exact ⟨by decide, by decide, by decide⟩))
  | ((with_reducible refine add_str ?hc ?_); (case hc => walk_at "sz"))
  | ((with_reducible refine add_lst (xs := ?xs) (ys := ?ys) ?h1 ?h2 ?hc ?_); (case h1 => walk_at "hp"); (case h2 => walk_at "hp"); (case hc => walk_at "sz"))
  | ((with_reducible refine sl_strU ?hc ?_); (case hc => walk_at "sz"))
  | ((with_reducible refine sl_lst (xs := ?xs) ?h1 ?_); (case h1 => walk_at "hp"))
  | (with_reducible refine is_bl ?_)
  | (with_reducible refine isnt_bl ?_)
  | (with_reducible refine is_non ?_)
  | (with_reducible refine isnt_non ?_))
local macro_rules | `(tactic| walk_at "rdc") => `(tactic| first
  | ((with_reducible refine len_lst (xs := ?xs) ?h1 ?_); (case h1 => walk_at "hp"))
  | ((with_reducible refine len_tup (xs := ?xs) ?h1 ?_); (case h1 => walk_at "hp"))
  | ((with_reducible refine len_str ?hc ?_); (case hc => walk_at "sz"))
  | (with_reducible refine int_int ?_)
  | (with_reducible refine max_int ?_)
  | (with_reducible refine min_int ?_)
  | (with_reducible refine abs_int ?_)
  | (with_reducible refine isi_ii ?_)
  | (with_reducible refine isi_ib ?_)
  | (with_reducible refine isi_ss ?_)
  | (with_reducible refine isi_bb ?_)
  | ((with_reducible refine isi_tt (xs := ?xs) ?h1 ?_); (case h1 => walk_at "hp"))
  | ((with_reducible refine isi_ll (xs := ?xs) ?h1 ?_); (case h1 => walk_at "hp"))
  | ((with_reducible refine list_lst (xs := ?xs) ?h1 ?_); (case h1 => walk_at "hp"))
  | ((with_reducible refine list_tup (xs := ?xs) ?h1 ?_); (case h1 => walk_at "hp"))
  | ((with_reducible refine tuple_lst (xs := ?xs) ?h1 ?_); (case h1 => walk_at "hp"))
  | ((with_reducible refine tuple_tup (xs := ?xs) ?h1 ?_); (case h1 => walk_at "hp"))
  | ((with_reducible refine append_lst (xs := ?xs) ?h1 ?hc ?_); (case h1 => walk_at "hp"); (case hc => walk_at "sz"))
  | ((with_reducible refine clear_lst (xs := ?xs) ?h1 ?_); (case h1 => walk_at "hp"))
  | ((with_reducible refine set_lst (xs := ?xs) (k := ?k) ?h1 ?h2 ?_); (case h1 => walk_at "hp"); (case h2 => walk_at "at")))
local macro_rules | `(tactic| walk_at "rd1") => `(tactic| first
  | ((with_reducible refine rVar (v := ?v) ?h ?_); (case h => exact rfl))
  | (with_reducible refine rC ?_)
  | (with_reducible refine rCons ?_)
  | (with_reducible refine rNil ?_)
  | (with_reducible refine rOp ?_)
  | (with_reducible refine rSeq ?_)
  | (with_reducible refine rAsgN ?_)
  | (with_reducible refine rAsgT ?_)
  | (with_reducible refine rAsgS ?_)
  | (with_reducible refine rTest ?_)
  | (with_reducible refine rBl ?_)
  | (with_reducible refine rBl' ?_)
  | (with_reducible refine rInt ?_)
  | (with_reducible refine rInt' ?_)
  | (with_reducible refine rCall ?_)
  | (with_reducible refine rCB ?_)
  | (with_reducible refine rRet ?_)
  | (with_reducible refine rDrop ?_)
  | (with_reducible refine rIfS ?_)
  | (with_reducible refine rTup ?_)
  | (with_reducible refine rLst ?_)
  | (with_reducible refine ⟨Nat.le_of_ble_eq_true rfl, ?_⟩)
  | (with_reducible refine rSl ?_)
  | (with_reducible refine rPart ?_)
  | (with_reducible refine rNoPart ?_)
  | (with_reducible refine rBM ?_)
  | (with_reducible refine rBM0 ?_)
  | ((with_reducible refine tyL (xs := ?xs) ?h1 ?_); (case h1 => walk_at "hp"))
  | (with_reducible refine rM1 ?_)
  | (with_reducible refine rM0 ?_)
  | (with_reducible refine rStr ?_)
  | (with_reducible refine rTru ?_)
  | (with_reducible refine tru_bl ?_)
  | (with_reducible refine tru_int ?_)
  | ((with_reducible refine tru_lst (xs := ?xs) ?h1 ?_); (case h1 => walk_at "hp"))
  | ((with_reducible refine tru_tup (xs := ?xs) ?h1 ?_); (case h1 => walk_at "hp"))
  | ((with_reducible refine tru_str ?hc ?_); (case hc => walk_at "sz"))
  | (with_reducible refine rAnd ?_)
  | (with_reducible refine rOr ?_)
  | (with_reducible refine rNot ?_)
  | (with_reducible refine rAndV ?_)
  | (with_reducible refine rOrV ?_)
  | (with_reducible refine rNotV ?_)
  | (with_reducible refine rIfE ?_)
  | (with_reducible refine rChain ?_)
  | (with_reducible refine rChain3 ?_)
  | (with_reducible refine ifT ?_)
  | (with_reducible refine ifF ?_)
  | (with_reducible refine ifNF ?_)
  | (with_reducible refine ifNT ?_)
  | (with_reducible refine rNext ?_)
  | (with_reducible refine rBrk ?_)
  | (with_reducible refine rCnt ?_)
  | (with_reducible refine rRetN ?_)
  | (with_reducible refine rForR1 ?_)
  | (with_reducible refine rForR2 ?_)
  | (with_reducible refine rForL ?_)
  | ((with_reducible refine rRg1 ?hb ?_); (case hb => walk_at "nn"))
  | ((with_reducible refine rRg2 ?hb ?_); (case hb => walk_at "nn"))
  | ((with_reducible refine rRf (xs := ?xs) ?h1 ?_); (case h1 => walk_at "hp"))
  | (with_reducible refine rLcR1 ?_)
  | (with_reducible refine rLcR2 ?_)
  | (with_reducible refine rLcL ?_)
  | (with_reducible refine gN ?_)
  | (with_reducible refine gNl ?_)
  | (with_reducible refine gC ?_)
  | ((with_reducible refine gT (xs := ?xs) ?h1 ?h2 ?_); (case h1 => walk_at "hp"); (case h2 => exact rfl))
  | (with_reducible refine rUn ?_)
  | walk_at "rdv"
  | walk_at "rdc")
local macro_rules | `(tactic| walk_at "rd") => `(tactic| repeat walk_at "rd1")

local macro_rules | `(tactic| walk_at "rd1") => `(tactic| first
  | (with_reducible refine rCallS ?_)
  | (with_reducible refine rRaise ?_)
  | (with_reducible refine rXf ?_)
  | (with_reducible refine rXi ?_)
  | (with_reducible refine rOst ?_)
  | (with_reducible refine rRevL ?_)
  | ((with_reducible refine revL_end (xs := ?xs) ?h1 ?_); (case h1 => walk_at "hp")))

local macro_rules | `(tactic| walk_at "rd1") => `(tactic| first
  | (with_reducible refine rForR3 ?_)
  | ((with_reducible refine rRgD ?hb ?_); (case hb => walk_at "nn"))
  | (with_reducible refine gS ?_))

local macro_rules | `(tactic| walk_at "rd1") => `(tactic| first
  | (with_reducible refine rFld ?_)
  | (with_reducible refine rSFld ?_)
  | (with_reducible refine rMake ?_)
  | (with_reducible refine rMeth ?_)
  | (with_reducible refine rForT ?_)
  | (with_reducible refine rLcT ?_)
  | (with_reducible refine rLcO ?_)
  | (with_reducible refine rForO ?_)
  | (with_reducible refine rLstY ?_)
  | ((with_reducible refine rRt (xs := ?xs) ?h1 ?_); (case h1 => walk_at "hp"))
  | ((with_reducible refine listY_lst (xs := ?xs) ?h1 ?_); (case h1 => walk_at "hp"))
  | ((with_reducible refine listY_tup (xs := ?xs) ?h1 ?_); (case h1 => walk_at "hp")))

structure F_Node (K : PySem.W.Frag) (mg : Str → Option Value) (C : Addr) : Prop where
  u : ClsF K mg C "Node"
  n_kind : NoAttr K C "kind"
  n_symbol : NoAttr K C "symbol"
  n_state : NoAttr K C "state"
  n_lead : NoAttr K C "lead"
  n_width : NoAttr K C "width"
  n_look : NoAttr K C "look"
  n_alternative : NoAttr K C "alternative"
  n_nodes : NoAttr K C "nodes"
  n_popped : NoAttr K C "popped"
/-! ## nodes as objects -/
def nodF (d : Dt) (ns : V) : List (Str × V) := [("kind", .str d.k), ("symbol", .str d.s), ("state", .int d.st), ("lead", .int d.ld), ("width", .int d.wd), ("look", .int d.lk), ("alternative", .int d.al), ("nodes", ns), ("popped", .int d.pp)]
section
variable {d : Dt} {ns : V}
theorem nodF_kind : (nodF d ns).lookup ("kind" : Str) = some (.str d.k) := lke
theorem nodF_symbol : (nodF d ns).lookup ("symbol" : Str) = some (.str d.s) := (lkn (by decide +kernel) lke)
theorem nodF_state : (nodF d ns).lookup ("state" : Str) = some (.int d.st) := (lkn (by decide +kernel) (lkn (by decide +kernel) lke))
theorem nodF_lead : (nodF d ns).lookup ("lead" : Str) = some (.int d.ld) := (lkn (by decide +kernel) (lkn (by decide +kernel) (lkn (by decide +kernel) lke)))
theorem nodF_width : (nodF d ns).lookup ("width" : Str) = some (.int d.wd) := (lkn (by decide +kernel) (lkn (by decide +kernel) (lkn (by decide +kernel) (lkn (by decide +kernel) lke))))
theorem nodF_look : (nodF d ns).lookup ("look" : Str) = some (.int d.lk) := (lkn (by decide +kernel) (lkn (by decide +kernel) (lkn (by decide +kernel) (lkn (by decide +kernel) (lkn (by decide +kernel) lke)))))
theorem nodF_alternative : (nodF d ns).lookup ("alternative" : Str) = some (.int d.al) := (lkn (by decide +kernel) (lkn (by decide +kernel) (lkn (by decide +kernel) (lkn (by decide +kernel) (lkn (by decide +kernel) (lkn (by decide +kernel) lke))))))
theorem nodF_nodes : (nodF d ns).lookup ("nodes" : Str) = some (ns) := (lkn (by decide +kernel) (lkn (by decide +kernel) (lkn (by decide +kernel) (lkn (by decide +kernel) (lkn (by decide +kernel) (lkn (by decide +kernel) (lkn (by decide +kernel) lke)))))))
theorem nodF_popped : (nodF d ns).lookup ("popped" : Str) = some (.int d.pp) := (lkn (by decide +kernel) (lkn (by decide +kernel) (lkn (by decide +kernel) (lkn (by decide +kernel) (lkn (by decide +kernel) (lkn (by decide +kernel) (lkn (by decide +kernel) (lkn (by decide +kernel) lke))))))))
theorem putN {f : Str} {v : V} {l : List (Str × V)} (ks : List Str) (e : l.map Prod.fst = ks) (h : (ks.all fun k => !decide (k = f)) = true) : putF f v l = l ++ [(f, v)] := by
  refine putF_new ?_
  rw [← e, List.all_map] at h
  exact h
end
theorem SL.ins {l p C dx : Addr} {H H' : Hp} {fs : List (Str × V)} (s : SL l H H') (h : H p = some (.ins C dx fs)) : H' p = some (.ins C dx fs) := (KpS.sl s).ins h
section
variable {K : PySem.W.Frag} {mg : Str → Option Value} {C p dx : Addr} {H : Hp} {d : Dt} {ns : V} {R : V → Prop}
theorem fN_kind (u : F_Node K mg C) (hp : H p = some (.ins C dx (nodF d ns))) (k : R (.str d.k)) : ∃ a C dx fs v, V.ref p = .ref a ∧ H a = some (.ins C dx fs) ∧ Cls K C ∧ NoAttr K C "kind" ∧ fs.lookup ("kind" : Str) = some v ∧ R v := fld_end hp u.u u.n_kind nodF_kind k
theorem fN_symbol (u : F_Node K mg C) (hp : H p = some (.ins C dx (nodF d ns))) (k : R (.str d.s)) : ∃ a C dx fs v, V.ref p = .ref a ∧ H a = some (.ins C dx fs) ∧ Cls K C ∧ NoAttr K C "symbol" ∧ fs.lookup ("symbol" : Str) = some v ∧ R v := fld_end hp u.u u.n_symbol nodF_symbol k
theorem fN_state (u : F_Node K mg C) (hp : H p = some (.ins C dx (nodF d ns))) (k : R (.int d.st)) : ∃ a C dx fs v, V.ref p = .ref a ∧ H a = some (.ins C dx fs) ∧ Cls K C ∧ NoAttr K C "state" ∧ fs.lookup ("state" : Str) = some v ∧ R v := fld_end hp u.u u.n_state nodF_state k
theorem fN_lead (u : F_Node K mg C) (hp : H p = some (.ins C dx (nodF d ns))) (k : R (.int d.ld)) : ∃ a C dx fs v, V.ref p = .ref a ∧ H a = some (.ins C dx fs) ∧ Cls K C ∧ NoAttr K C "lead" ∧ fs.lookup ("lead" : Str) = some v ∧ R v := fld_end hp u.u u.n_lead nodF_lead k
theorem fN_width (u : F_Node K mg C) (hp : H p = some (.ins C dx (nodF d ns))) (k : R (.int d.wd)) : ∃ a C dx fs v, V.ref p = .ref a ∧ H a = some (.ins C dx fs) ∧ Cls K C ∧ NoAttr K C "width" ∧ fs.lookup ("width" : Str) = some v ∧ R v := fld_end hp u.u u.n_width nodF_width k
theorem fN_look (u : F_Node K mg C) (hp : H p = some (.ins C dx (nodF d ns))) (k : R (.int d.lk)) : ∃ a C dx fs v, V.ref p = .ref a ∧ H a = some (.ins C dx fs) ∧ Cls K C ∧ NoAttr K C "look" ∧ fs.lookup ("look" : Str) = some v ∧ R v := fld_end hp u.u u.n_look nodF_look k
theorem fN_alternative (u : F_Node K mg C) (hp : H p = some (.ins C dx (nodF d ns))) (k : R (.int d.al)) : ∃ a C dx fs v, V.ref p = .ref a ∧ H a = some (.ins C dx fs) ∧ Cls K C ∧ NoAttr K C "alternative" ∧ fs.lookup ("alternative" : Str) = some v ∧ R v := fld_end hp u.u u.n_alternative nodF_alternative k
theorem fN_nodes (u : F_Node K mg C) (hp : H p = some (.ins C dx (nodF d ns))) (k : R (ns)) : ∃ a C dx fs v, V.ref p = .ref a ∧ H a = some (.ins C dx fs) ∧ Cls K C ∧ NoAttr K C "nodes" ∧ fs.lookup ("nodes" : Str) = some v ∧ R v := fld_end hp u.u u.n_nodes nodF_nodes k
theorem fN_popped (u : F_Node K mg C) (hp : H p = some (.ins C dx (nodF d ns))) (k : R (.int d.pp)) : ∃ a C dx fs v, V.ref p = .ref a ∧ H a = some (.ins C dx fs) ∧ Cls K C ∧ NoAttr K C "popped" ∧ fs.lookup ("popped" : Str) = some v ∧ R v := fld_end hp u.u u.n_popped nodF_popped k
end
/-- a row of nodes -/
def NodesAt (K : PySem.W.Frag) (C : Addr) (H : Hp) : List V → Fo → Prop
  | vs, .nil => vs = []
  | vs, .cons d k r => ∃ (p dx q : Addr) (us t : List V), vs = .ref p :: t ∧ H p = some (.ins C dx (nodF d (.ref q))) ∧ SqT K H q us ∧ NodesAt K C H us k ∧ NodesAt K C H t r
def NodeAt (K : PySem.W.Frag) (C : Addr) (H : Hp) (v : V) (d : Dt) (k : Fo) : Prop := ∃ (p dx q : Addr) (us : List V), v = .ref p ∧ H p = some (.ins C dx (nodF d (.ref q))) ∧ SqT K H q us ∧ NodesAt K C H us k
section
variable {K : PySem.W.Frag} {C : Addr} {H H' : Hp}
theorem NodesAt.kp (s : KpS H H') : ∀ {f : Fo} {vs : List V}, NodesAt K C H vs f → NodesAt K C H' vs f
  | .nil, _, h => h
  | .cons _ _ _, _, h => let ⟨p, dx, q, us, t, e, h1, h2, h3, h4⟩ := h; ⟨p, dx, q, us, t, e, s.ins h1, sqt_kp s h2, NodesAt.kp s h3, NodesAt.kp s h4⟩
theorem NodeAt.kp (s : KpS H H') {v : V} {d : Dt} {k : Fo} (h : NodeAt K C H v d k) : NodeAt K C H' v d k := let ⟨p, dx, q, us, e, h1, h2, h3⟩ := h; ⟨p, dx, q, us, e, s.ins h1, sqt_kp s h2, NodesAt.kp s h3⟩
theorem NodesAt.len : ∀ {f : Fo} {vs : List V}, NodesAt K C H vs f → vs.length = f.len
  | .nil, _, h => by rw [show _ = [] from h]; rfl
  | .cons _ _ _, _, h => by
    obtain ⟨p, dx, q, us, t, rfl, h1, h2, h3, h4⟩ := h
    rw [List.length_cons, NodesAt.len h4]
    rfl
theorem NodesAt.cons {v : V} {t : List V} {d : Dt} {k r : Fo} (h : NodeAt K C H v d k) (ht : NodesAt K C H t r) : NodesAt K C H (v :: t) (.cons d k r) := by
  obtain ⟨p, dx, q, us, rfl, h1, h2, h3⟩ := h
  exact ⟨p, dx, q, us, t, rfl, h1, h2, h3, ht⟩
end
/-! ## rows as tuples -/
def rwV (r : Rw) : List V := [.int r.lv, .str r.d.k, .str r.d.s, .int r.d.st, .int r.d.ld, .int r.d.wd, .int r.d.lk, .int r.d.al, .int r.d.pp]
def RowAt (H : Hp) (v : V) (r : Rw) : Prop := ∃ p, v = .ref p ∧ H p = some (.tup (rwV r))
abbrev Rows (H : Hp) : List V → List Rw → Prop := Paired (RowAt H)
theorem RowAt.ts {H H' : Hp} {v : V} {r : Rw} (s : TpS H H') (h : RowAt H v r) : RowAt H' v r := let ⟨p, e, q⟩ := h; ⟨p, e, s _ _ q⟩
theorem Rows.ts {H H' : Hp} {vs : List V} {rs : List Rw} (s : TpS H H') (h : Rows H vs rs) : Rows H' vs rs := Paired.imp (fun _ _ r => r.ts s) h
/-- a list of rows -/
def RowsIn (H : Hp) (p : Addr) (rows : List Rw) : Prop := ∃ vs, H p = some (.lst vs) ∧ Rows H vs rows
/-! ## promises -/
def sp_Node_init (K : PySem.W.Frag) (C : Addr) : Sp := fun vs H Q _ => ∃ (x dx : Addr) (d : Dt) (q : Addr) (us : List V), vs = [.ref x, .str d.k, .str d.s, .int d.st, .int d.ld, .int d.wd, .int d.lk, .int d.al, .ref q, .int d.pp] ∧ H x = some (.ins C dx []) ∧ SqT K H q us ∧ Q .non (upd H x (.ins C dx (nodF d (.ref q))))
def W_Node4 (C aNil : Addr) : List V → List V → Hp → VK → Prop := fun vs zs H Q => ∃ d : Dt, vs = [.str d.k, .str d.s] ∧ zs = [.int d.st, .int d.ld, .int d.wd, .int d.lk] ∧ d.al = -1 ∧ d.pp = 0 ∧ newI C (nodF d (.ref aNil)) H Q
def W_Node6 (K : PySem.W.Frag) (C : Addr) : List V → List V → Hp → VK → Prop := fun vs zs H Q => ∃ (d : Dt) (q : Addr) (us : List V), vs = [.str d.k, .str d.s] ∧ zs = [.int d.st, .int d.ld, .int d.wd, .int d.lk, .int d.al, .ref q] ∧ d.pp = 0 ∧ SqT K H q us ∧ newI C (nodF d (.ref q)) H Q
def W_Node7 (K : PySem.W.Frag) (C : Addr) : List V → List V → Hp → VK → Prop := fun vs zs H Q => ∃ (d : Dt) (q : Addr) (us : List V), vs = [.str d.k, .str d.s] ∧ zs = [.int d.st, .int d.ld, .int d.wd, .int d.lk, .int d.al, .ref q, .int d.pp] ∧ SqT K H q us ∧ newI C (nodF d (.ref q)) H Q
theorem sqt_new {K : PySem.W.Frag} {H : Hp} {x dx : Addr} {o1 o2 : HO} {q : Addr} {us : List V} (hx : H x = none) (hd : H dx = none) (h : SqT K H q us) : SqT K (upd (upd H dx o1) x o2) q us := by
  refine sqt_kp (fun a o e _ => ?_) h
  rw [upd_ne (ne_of_none e hx), upd_ne (ne_of_none e hd)]
  exact e
theorem mk_Node4 {K : PySem.W.Frag} {C aNil : Addr} (nil : ∀ H, SqT K H aNil []) : ∀ vs zs H1 Q, W_Node4 C aNil vs zs H1 Q → vs.length = 2 ∧ zs.length = 4 ∧ ∀ x dx, H1 x = none → H1 dx = none → dx ≠ x →
    sp_Node_init K C (gKW [.int (-1), .ref aNil, .int (0)] (.ref x :: vs) zs) (upd (upd H1 dx (.own x)) x (.ins C dx [])) (fun v H3 => v = .non ∧ Q (.ref x) H3) C8.E0 := by
  rintro vs zs H1 Q ⟨d, rfl, rfl, ha, hp, h⟩
  refine ⟨rfl, rfl, fun x dx hx hd hdx => ⟨x, dx, d, aNil, [], ?_, upd_same, nil _, rfl, h x dx _ hx (same_ins hx hd hdx) upd_same⟩⟩
  rw [ha, hp]
  rfl
theorem mk_Node6 {K : PySem.W.Frag} {C : Addr} : ∀ vs zs H1 Q, W_Node6 K C vs zs H1 Q → vs.length = 2 ∧ zs.length = 6 ∧ ∀ x dx, H1 x = none → H1 dx = none → dx ≠ x →
    sp_Node_init K C (gKW [.int (0)] (.ref x :: vs) zs) (upd (upd H1 dx (.own x)) x (.ins C dx [])) (fun v H3 => v = .non ∧ Q (.ref x) H3) C8.E0 := by
  rintro vs zs H1 Q ⟨d, q, us, rfl, rfl, hp, hq, h⟩
  refine ⟨rfl, rfl, fun x dx hx hd hdx => ⟨x, dx, d, q, us, ?_, upd_same, sqt_new hx hd hq, rfl, h x dx _ hx (same_ins hx hd hdx) upd_same⟩⟩
  rw [hp]
  rfl
theorem mk_Node7 {K : PySem.W.Frag} {C : Addr} : ∀ vs zs H1 Q, W_Node7 K C vs zs H1 Q → vs.length = 2 ∧ zs.length = 7 ∧ ∀ x dx, H1 x = none → H1 dx = none → dx ≠ x →
    sp_Node_init K C (gKW [] (.ref x :: vs) zs) (upd (upd H1 dx (.own x)) x (.ins C dx [])) (fun v H3 => v = .non ∧ Q (.ref x) H3) C8.E0 := by
  rintro vs zs H1 Q ⟨d, q, us, rfl, rfl, hq, h⟩
  exact ⟨rfl, rfl, fun x dx hx hd hdx => ⟨x, dx, d, q, us, rfl, upd_same, sqt_new hx hd hq, rfl, h x dx _ hx (same_ins hx hd hdx) upd_same⟩⟩
section
variable {P : Program} {w : World} {K : PySem.W.Frag} {mg : Str → Option Value} {base : Heap} {aNode aNil : Addr}
theorem fni_Node {f : Addr} {fd : FuncData} (T : Txt mg) (FU : C8.Fun K "__init__" "Node.__init__" s_Node___init__ f fd) (u_Node : F_Node K mg aNode) : FnOk P w K mg base C8.CX0 1 f fd ["self", "kind", "symbol", "state", "lead", "width", "look", "alternative", "nodes", "popped"] (sp_Node_init K aNode) := by
  refine C8.fn0 FU sc_Node___init__ (fun vs H Q E h => ?_) (fun cdv A outer s H vs Q E hr h => ?_)
  · obtain ⟨x, dx, d, q, us, rfl, _⟩ := h; rfl
  · obtain ⟨x, dx, d, q, us, rfl, hx, hq, k⟩ := h
    refine ⟨_, (pss_cons (ps_fldK (K := K) (pv 0) (pv 1) rfl)
  (pss_cons (ps_fldK (K := K) (pv 0) (pv 2) rfl)
  (pss_cons (ps_fldK (K := K) (pv 0) (pv 3) rfl)
  (pss_cons (ps_fldK (K := K) (pv 0) (pv 4) rfl)
  (pss_cons (ps_fldK (K := K) (pv 0) (pv 5) rfl)
  (pss_cons (ps_fldK (K := K) (pv 0) (pv 6) rfl)
  (pss_cons (ps_fldK (K := K) (pv 0) (pv 7) rfl)
  (pss_cons (ps_fldK (K := K) (pv 0) (pe_callTy (call_tupleK K) (by rfl) T.n_tuple (by decide +kernel) (pa_cons (pv 8) pa_nil)) rfl)
  (pss_one (ps_fldK (K := K) (pv 0) (pv 9) rfl)))))))))), ?_⟩
    show (_ : TS) _ [some (.ref x), some (.str d.k), some (.str d.s), some (.int d.st), some (.int d.ld), some (.int d.wd), some (.int d.lk), some (.int d.al), some (.ref q), some (.int d.pp)] H
    walk_at "rd"
    refine ⟨x, aNode, dx, _, rfl, hx, u_Node.u.cl, u_Node.n_kind, by show 0 < 1000; omega, ?_⟩
    rw [putN [] rfl (by decide +kernel)]
    walk_at "rd"
    refine ⟨x, aNode, dx, _, rfl, upd_same, u_Node.u.cl, u_Node.n_symbol, by show 1 < 1000; omega, ?_⟩
    rw [putN ["kind"] rfl (by decide +kernel), upd_upd]
    walk_at "rd"
    refine ⟨x, aNode, dx, _, rfl, upd_same, u_Node.u.cl, u_Node.n_state, by show 2 < 1000; omega, ?_⟩
    rw [putN ["kind", "symbol"] rfl (by decide +kernel), upd_upd]
    walk_at "rd"
    refine ⟨x, aNode, dx, _, rfl, upd_same, u_Node.u.cl, u_Node.n_lead, by show 3 < 1000; omega, ?_⟩
    rw [putN ["kind", "symbol", "state"] rfl (by decide +kernel), upd_upd]
    walk_at "rd"
    refine ⟨x, aNode, dx, _, rfl, upd_same, u_Node.u.cl, u_Node.n_width, by show 4 < 1000; omega, ?_⟩
    rw [putN ["kind", "symbol", "state", "lead"] rfl (by decide +kernel), upd_upd]
    walk_at "rd"
    refine ⟨x, aNode, dx, _, rfl, upd_same, u_Node.u.cl, u_Node.n_look, by show 5 < 1000; omega, ?_⟩
    rw [putN ["kind", "symbol", "state", "lead", "width"] rfl (by decide +kernel), upd_upd]
    walk_at "rd"
    refine ⟨x, aNode, dx, _, rfl, upd_same, u_Node.u.cl, u_Node.n_alternative, by show 6 < 1000; omega, ?_⟩
    rw [putN ["kind", "symbol", "state", "lead", "width", "look"] rfl (by decide +kernel), upd_upd]
    walk_at "rd"
    refine tuple_sqt (sqt_up hq hx) ?_
    walk_at "rd"
    refine ⟨x, aNode, dx, _, rfl, upd_same, u_Node.u.cl, u_Node.n_nodes, by show 7 < 1000; omega, ?_⟩
    rw [putN ["kind", "symbol", "state", "lead", "width", "look", "alternative"] rfl (by decide +kernel), upd_upd]
    walk_at "rd"
    refine ⟨x, aNode, dx, _, rfl, upd_same, u_Node.u.cl, u_Node.n_popped, by show 8 < 1000; omega, ?_⟩
    rw [putN ["kind", "symbol", "state", "lead", "width", "look", "alternative", "nodes"] rfl (by decide +kernel), upd_upd]
    exact k
end
end Z
namespace Z
open PySem PySem.Spec L2 ItX
local macro_rules | `(tactic| walk_at "ne") => `(tactic| first
  | with_reducible assumption
  | with_reducible exact Ne.symm (by assumption)
  | exact Frs.ne (by with_reducible assumption) (by walk_at "hp")
  | exact Frs.ne' (by with_reducible assumption) (by walk_at "hp"))
local macro_rules | `(tactic| walk_at "hp") => `(tactic| first
  | with_reducible assumption
  | (with_reducible refine Same.at (by assumption) ?_; walk_at "hp")
  | (with_reducible refine SL.tup (by assumption) ?_; walk_at "hp")
  | (with_reducible refine SL.at (by assumption) (by walk_at "ne") ?_; walk_at "hp"))
local macro_rules | `(tactic| walk_at "sz") => `(tactic| first
  | with_reducible assumption
  | exact Nat.le_of_ble_eq_true rfl
  | (refine sz_le ?_; omega)
  | (refine sz_lt ?_; omega)
  | decide +kernel)
local macro_rules | `(tactic| walk_at "at") => `(tactic| first
  | with_reducible assumption
  | with_reducible exact at0
  | with_reducible exact at1
  | with_reducible exact at2
  | with_reducible exact ixN0)
local macro_rules | `(tactic| walk_at "nn") => `(tactic| first
  | omega
  | decide
  | exact ⟨by decide, by decide⟩
  | exact ⟨by omega, by omega⟩
  | exact ⟨by omega, by omega, by omega, by omega⟩)
local macro_rules | `(tactic| walk_at "rdv") => `(tactic| first
  | (with_reducible refine add_int ?_)
  | (with_reducible refine sub_int ?_)
  | (with_reducible refine neg_int ?_)
  | ((with_reducible refine ix_tpl (xs := ?xs) (v := ?v) ?h1 ?h2 ?_); (case h1 => walk_at "hp"); (case h2 => walk_at "at"))
  | ((with_reducible refine ix_lst (xs := ?xs) (v := ?v) ?h1 ?h2 ?_); (case h1 => walk_at "hp"); (case h2 => walk_at "at"))
  | (with_reducible refine eq_int ?_)
  | (with_reducible refine ne_int ?_)
  | (with_reducible refine lt_int ?_)
  | (with_reducible refine le_int ?_)
  | (with_reducible refine gt_int ?_)
  | (with_reducible refine ge_int ?_)
  | (with_reducible refine eq_str ?_)
  | (with_reducible refine ne_str ?_)
  | (with_reducible refine eq_bl ?_)
  | (with_reducible refine ne_bl ?_)
  | ((with_reducible refine mod_int ?hc ?_); (case hc => walk_at "nn"))
  | ((with_reducible refine div_int ?hc ?_); (case hc => walk_at "nn"))
  | ((with_reducible refine mul_intR ?hc ?_); (case hc => exact ⟨by decide, by decide⟩))
  | ((with_reducible refine mul_intR ?hc ?_); (case hc => exact ⟨by omega, by omega⟩))
  | ((with_reducible refine mul_intL ?hc ?_); (case hc => exact ⟨by omega, by omega⟩))
  | ((with_reducible refine pow_int ?hc ?_); (case hc => exact ⟨by decide, by decide, by decide⟩))
  | ((with_reducible refine add_str ?hc ?_); (case hc => walk_at "sz"))
  | ((with_reducible refine add_lst (xs := ?xs) (ys := ?ys) ?h1 ?h2 ?hc ?_); (case h1 => walk_at "hp"); (case h2 => walk_at "hp"); (case hc => walk_at "sz"))
  | ((with_reducible refine sl_strU ?hc ?_); (case hc => walk_at "sz"))
  | ((with_reducible refine sl_lst (xs := ?xs) ?h1 ?_); (case h1 => walk_at "hp"))
  | (with_reducible refine is_bl ?_)
  | (with_reducible refine isnt_bl ?_)
  | (with_reducible refine is_non ?_)
  | (with_reducible refine isnt_non ?_))
local macro_rules | `(tactic| walk_at "rdc") => `(tactic| first
  | ((with_reducible refine len_lst (xs := ?xs) ?h1 ?_); (case h1 => walk_at "hp"))
  | ((with_reducible refine len_tup (xs := ?xs) ?h1 ?_); (case h1 => walk_at "hp"))
  | ((with_reducible refine len_str ?hc ?_); (case hc => walk_at "sz"))
  | (with_reducible refine int_int ?_)
  | (with_reducible refine max_int ?_)
  | (with_reducible refine min_int ?_)
  | (with_reducible refine abs_int ?_)
  | (with_reducible refine isi_ii ?_)
  | (with_reducible refine isi_ib ?_)
  | (with_reducible refine isi_ss ?_)
  | (with_reducible refine isi_bb ?_)
  | ((with_reducible refine isi_tt (xs := ?xs) ?h1 ?_); (case h1 => walk_at "hp"))
  | ((with_reducible refine isi_ll (xs := ?xs) ?h1 ?_); (case h1 => walk_at "hp"))
  | ((with_reducible refine list_lst (xs := ?xs) ?h1 ?_); (case h1 => walk_at "hp"))
  | ((with_reducible refine list_tup (xs := ?xs) ?h1 ?_); (case h1 => walk_at "hp"))
  | ((with_reducible refine tuple_lst (xs := ?xs) ?h1 ?_); (case h1 => walk_at "hp"))
  | ((with_reducible refine tuple_tup (xs := ?xs) ?h1 ?_); (case h1 => walk_at "hp"))
  | ((with_reducible refine append_lst (xs := ?xs) ?h1 ?hc ?_); (case h1 => walk_at "hp"); (case hc => walk_at "sz"))
  | ((with_reducible refine clear_lst (xs := ?xs) ?h1 ?_); (case h1 => walk_at "hp"))
  | ((with_reducible refine set_lst (xs := ?xs) (k := ?k) ?h1 ?h2 ?_); (case h1 => walk_at "hp"); (case h2 => walk_at "at")))
local macro_rules | `(tactic| walk_at "rd1") => `(tactic| first
  | ((with_reducible refine rVar (v := ?v) ?h ?_); (case h => exact rfl))
  | (with_reducible refine rC ?_)
  | (with_reducible refine rCons ?_)
  | (with_reducible refine rNil ?_)
  | (with_reducible refine rOp ?_)
  | (with_reducible refine rSeq ?_)
  | (with_reducible refine rAsgN ?_)
  | (with_reducible refine rAsgT ?_)
  | (with_reducible refine rAsgS ?_)
  | (with_reducible refine rTest ?_)
  | (with_reducible refine rBl ?_)
  | (with_reducible refine rBl' ?_)
  | (with_reducible refine rInt ?_)
  | (with_reducible refine rInt' ?_)
  | (with_reducible refine rCall ?_)
  | (with_reducible refine rCB ?_)
  | (with_reducible refine rRet ?_)
  | (with_reducible refine rDrop ?_)
  | (with_reducible refine rIfS ?_)
  | (with_reducible refine rTup ?_)
  | (with_reducible refine rLst ?_)
  | (with_reducible refine ⟨Nat.le_of_ble_eq_true rfl, ?_⟩)
  | (with_reducible refine rSl ?_)
  | (with_reducible refine rPart ?_)
  | (with_reducible refine rNoPart ?_)
  | (with_reducible refine rBM ?_)
  | (with_reducible refine rBM0 ?_)
  | ((with_reducible refine tyL (xs := ?xs) ?h1 ?_); (case h1 => walk_at "hp"))
  | (with_reducible refine rM1 ?_)
  | (with_reducible refine rM0 ?_)
  | (with_reducible refine rStr ?_)
  | (with_reducible refine rTru ?_)
  | (with_reducible refine tru_bl ?_)
  | (with_reducible refine tru_int ?_)
  | ((with_reducible refine tru_lst (xs := ?xs) ?h1 ?_); (case h1 => walk_at "hp"))
  | ((with_reducible refine tru_tup (xs := ?xs) ?h1 ?_); (case h1 => walk_at "hp"))
  | ((with_reducible refine tru_str ?hc ?_); (case hc => walk_at "sz"))
  | (with_reducible refine rAnd ?_)
  | (with_reducible refine rOr ?_)
  | (with_reducible refine rNot ?_)
  | (with_reducible refine rAndV ?_)
  | (with_reducible refine rOrV ?_)
  | (with_reducible refine rNotV ?_)
  | (with_reducible refine rIfE ?_)
  | (with_reducible refine rChain ?_)
  | (with_reducible refine rChain3 ?_)
  | (with_reducible refine ifT ?_)
  | (with_reducible refine ifF ?_)
  | (with_reducible refine ifNF ?_)
  | (with_reducible refine ifNT ?_)
  | (with_reducible refine rNext ?_)
  | (with_reducible refine rBrk ?_)
  | (with_reducible refine rCnt ?_)
  | (with_reducible refine rRetN ?_)
  | (with_reducible refine rForR1 ?_)
  | (with_reducible refine rForR2 ?_)
  | (with_reducible refine rForL ?_)
  | ((with_reducible refine rRg1 ?hb ?_); (case hb => walk_at "nn"))
  | ((with_reducible refine rRg2 ?hb ?_); (case hb => walk_at "nn"))
  | ((with_reducible refine rRf (xs := ?xs) ?h1 ?_); (case h1 => walk_at "hp"))
  | (with_reducible refine rLcR1 ?_)
  | (with_reducible refine rLcR2 ?_)
  | (with_reducible refine rLcL ?_)
  | (with_reducible refine gN ?_)
  | (with_reducible refine gNl ?_)
  | (with_reducible refine gC ?_)
  | ((with_reducible refine gT (xs := ?xs) ?h1 ?h2 ?_); (case h1 => walk_at "hp"); (case h2 => exact rfl))
  | (with_reducible refine rUn ?_)
  | walk_at "rdv"
  | walk_at "rdc")
local macro_rules | `(tactic| walk_at "rd") => `(tactic| repeat walk_at "rd1")

local macro_rules | `(tactic| walk_at "rd1") => `(tactic| first
  | (with_reducible refine rCallS ?_)
  | (with_reducible refine rRaise ?_)
  | (with_reducible refine rXf ?_)
  | (with_reducible refine rXi ?_)
  | (with_reducible refine rOst ?_)
  | (with_reducible refine rRevL ?_)
  | ((with_reducible refine revL_end (xs := ?xs) ?h1 ?_); (case h1 => walk_at "hp")))

local macro_rules | `(tactic| walk_at "rd1") => `(tactic| first
  | (with_reducible refine rForR3 ?_)
  | ((with_reducible refine rRgD ?hb ?_); (case hb => walk_at "nn"))
  | (with_reducible refine gS ?_))

local macro_rules | `(tactic| walk_at "rd1") => `(tactic| first
  | (with_reducible refine rFld ?_)
  | (with_reducible refine rSFld ?_)
  | (with_reducible refine rMake ?_)
  | (with_reducible refine rMeth ?_)
  | (with_reducible refine rForT ?_)
  | (with_reducible refine rLcT ?_)
  | (with_reducible refine rLcO ?_)
  | (with_reducible refine rForO ?_)
  | (with_reducible refine rLstY ?_)
  | ((with_reducible refine rRt (xs := ?xs) ?h1 ?_); (case h1 => walk_at "hp"))
  | ((with_reducible refine listY_lst (xs := ?xs) ?h1 ?_); (case h1 => walk_at "hp"))
  | ((with_reducible refine listY_tup (xs := ?xs) ?h1 ?_); (case h1 => walk_at "hp")))

local macro_rules | `(tactic| walk_at "hp") => `(tactic| first
  | (with_reducible refine SL.ins (by assumption) ?_; walk_at "hp"))
local macro_rules | `(tactic| walk_at "at") => `(tactic| first
  | with_reducible exact at3
  | with_reducible exact at4
  | with_reducible exact at5
  | with_reducible exact at6
  | with_reducible exact at7
  | with_reducible exact at8)
local macro_rules | `(tactic| walk_at "rd1") => `(tactic| first
  | (with_reducible refine rMkWK ?_)
  | (with_reducible refine rForS ?_)
  | (with_reducible refine rDGet ?_)
  | (with_reducible refine rDPut ?_)
  | (with_reducible refine rIts ?_)
  | (with_reducible refine rLstRg ?_)
  | ((with_reducible refine reverse_lst (xs := ?xs) ?h1 ?_); (case h1 => walk_at "hp"))
  | ((with_reducible refine extend_lst (xs := ?xs) (ys := ?ys) ?h1 ?h2 ?hc ?_); (case h1 => walk_at "hp"); (case h2 => walk_at "hp"); (case hc => walk_at "sz"))
  | ((with_reducible refine fN_kind (mg := ?mg) (C := ?C) (dx := ?dx) (d := ?d) (ns := ?ns) ?hu ?hp ?_); (case hu => with_reducible assumption); (case hp => walk_at "hp"))
  | ((with_reducible refine fN_symbol (mg := ?mg) (C := ?C) (dx := ?dx) (d := ?d) (ns := ?ns) ?hu ?hp ?_); (case hu => with_reducible assumption); (case hp => walk_at "hp"))
  | ((with_reducible refine fN_state (mg := ?mg) (C := ?C) (dx := ?dx) (d := ?d) (ns := ?ns) ?hu ?hp ?_); (case hu => with_reducible assumption); (case hp => walk_at "hp"))
  | ((with_reducible refine fN_lead (mg := ?mg) (C := ?C) (dx := ?dx) (d := ?d) (ns := ?ns) ?hu ?hp ?_); (case hu => with_reducible assumption); (case hp => walk_at "hp"))
  | ((with_reducible refine fN_width (mg := ?mg) (C := ?C) (dx := ?dx) (d := ?d) (ns := ?ns) ?hu ?hp ?_); (case hu => with_reducible assumption); (case hp => walk_at "hp"))
  | ((with_reducible refine fN_look (mg := ?mg) (C := ?C) (dx := ?dx) (d := ?d) (ns := ?ns) ?hu ?hp ?_); (case hu => with_reducible assumption); (case hp => walk_at "hp"))
  | ((with_reducible refine fN_alternative (mg := ?mg) (C := ?C) (dx := ?dx) (d := ?d) (ns := ?ns) ?hu ?hp ?_); (case hu => with_reducible assumption); (case hp => walk_at "hp"))
  | ((with_reducible refine fN_nodes (mg := ?mg) (C := ?C) (dx := ?dx) (d := ?d) (ns := ?ns) ?hu ?hp ?_); (case hu => with_reducible assumption); (case hp => walk_at "hp"))
  | ((with_reducible refine fN_popped (mg := ?mg) (C := ?C) (dx := ?dx) (d := ?d) (ns := ?ns) ?hu ?hp ?_); (case hu => with_reducible assumption); (case hp => walk_at "hp")))

/-! ## names, levels, rows -/
def sp_law_quoted : Sp := fun vs H Q _ => ∃ z : Str, vs = [.str z] ∧ z.length ≤ 1000 ∧ Ok z ∧ ∀ y : Str, y.length ≤ 2 * z.length + 2 → Ok y → Q (.str y) H
theorem use_quoted {z : Str} {H : Hp} {Q : VK} {E : XK} (hl : z.length ≤ 1000) (ho : Ok z) (h : ∀ y : Str, y.length ≤ 2 * z.length + 2 → Ok y → Q (.str y) H) : sp_law_quoted [.str z] H Q E := ⟨z, rfl, hl, ho, h⟩
/-- what draws a name -/
def NamDraw : Sp := fun vs H Q _ => ∃ r : Addr, vs = [.ref r] ∧ Reel H r ∧ ∀ (y : Str) (H' : Hp), Nam y → SL r H H' → Reel H' r → Q (.str y) H'
def sp_law_literal : Sp := NamDraw
def sp_law_name : Sp := NamDraw
def sp_law_sort : Sp := NamDraw
theorem use_nam {r : Addr} {H : Hp} {Q : VK} {E : XK} (hR : Reel H r) (h : ∀ (y : Str) (H' : Hp), Nam y → SL r H H' → Reel H' r → Q (.str y) H') : NamDraw [.ref r] H Q E := ⟨r, rfl, hR, h⟩
theorem use_literal {r : Addr} {H : Hp} {Q : VK} {E : XK} (hR : Reel H r) (h : ∀ (y : Str) (H' : Hp), Nam y → SL r H H' → Reel H' r → Q (.str y) H') : sp_law_literal [.ref r] H Q E := use_nam hR h
theorem use_name {r : Addr} {H : Hp} {Q : VK} {E : XK} (hR : Reel H r) (h : ∀ (y : Str) (H' : Hp), Nam y → SL r H H' → Reel H' r → Q (.str y) H') : sp_law_name [.ref r] H Q E := use_nam hR h
theorem use_sort {r : Addr} {H : Hp} {Q : VK} {E : XK} (hR : Reel H r) (h : ∀ (y : Str) (H' : Hp), Nam y → SL r H H' → Reel H' r → Q (.str y) H') : sp_law_sort [.ref r] H Q E := use_nam hR h
def sp_law_comb : Sp := fun vs H Q _ => ∃ (r : Addr) (n : Int), vs = [.ref r, .int n] ∧ Reel H r ∧ 1 ≤ n ∧ n ≤ 2000 ∧ ∀ (p : Addr) (ls : List Int) (H' : Hp), SL r H H' → Reel H' r → Frs H p → H' p = some (.lst (ls.map V.int)) → LvOk ls → ls.length ≤ 2 * n.toNat + 1 → Q (.ref p) H'
theorem use_comb {r : Addr} {n : Int} {H : Hp} {Q : VK} {E : XK} (hR : Reel H r) (h1 : 1 ≤ n ∧ n ≤ 2000) (h : ∀ (p : Addr) (ls : List Int) (H' : Hp), SL r H H' → Reel H' r → Frs H p → H' p = some (.lst (ls.map V.int)) → LvOk ls → ls.length ≤ 2 * n.toNat + 1 → Q (.ref p) H') : sp_law_comb [.ref r, .int n] H Q E := ⟨r, n, rfl, hR, h1.1, h1.2, h⟩
def sp_law_levels : Sp := fun vs H Q _ => ∃ (r : Addr), vs = [.ref r] ∧ Reel H r ∧ ∀ (p : Addr) (ls : List Int) (H' : Hp), SL r H H' → Reel H' r → Frs H p → H' p = some (.lst (ls.map V.int)) → LvOk ls → ls.length ≤ 40 → Q (.ref p) H'
theorem use_levels {r : Addr} {H : Hp} {Q : VK} {E : XK} (hR : Reel H r) (h : ∀ (p : Addr) (ls : List Int) (H' : Hp), SL r H H' → Reel H' r → Frs H p → H' p = some (.lst (ls.map V.int)) → LvOk ls → ls.length ≤ 40 → Q (.ref p) H') : sp_law_levels [.ref r] H Q E := ⟨r, rfl, hR, h⟩
def sp_law_count : Sp := fun vs H Q _ => ∃ (r : Addr) (l : Int), vs = [.ref r, .int l] ∧ Reel H r ∧ -1 ≤ l ∧ l ≤ 0 ∧ ∀ (n : Int) (H' : Hp), lim l n → SL r H H' → Reel H' r → Q (.int n) H'
theorem use_count {r : Addr} {l : Int} {H : Hp} {Q : VK} {E : XK} (hR : Reel H r) (hl : -1 ≤ l ∧ l ≤ 0) (h : ∀ (n : Int) (H' : Hp), lim l n → SL r H H' → Reel H' r → Q (.int n) H') : sp_law_count [.ref r, .int l] H Q E := ⟨r, l, rfl, hR, hl.1, hl.2, h⟩
def RowDraw : Sp := fun vs H Q _ => ∃ (r : Addr) (l : Int), vs = [.ref r, .int l] ∧ Reel H r ∧ ∀ (v : V) (d : Dt) (H' : Hp), DtOk d → SL r H H' → Reel H' r → RowAt H' v ⟨l, d⟩ → Q v H'
def sp_law_row : Sp := RowDraw
def sp_law_small_row : Sp := RowDraw
theorem use_rowd {r : Addr} {l : Int} {H : Hp} {Q : VK} {E : XK} (hR : Reel H r) (h : ∀ (v : V) (d : Dt) (H' : Hp), DtOk d → SL r H H' → Reel H' r → RowAt H' v ⟨l, d⟩ → Q v H') : RowDraw [.ref r, .int l] H Q E := ⟨r, l, rfl, hR, h⟩
theorem use_row1 {r : Addr} {l : Int} {H : Hp} {Q : VK} {E : XK} (hR : Reel H r) (h : ∀ (v : V) (d : Dt) (H' : Hp), DtOk d → SL r H H' → Reel H' r → RowAt H' v ⟨l, d⟩ → Q v H') : sp_law_row [.ref r, .int l] H Q E := use_rowd hR h
theorem use_row2 {r : Addr} {l : Int} {H : Hp} {Q : VK} {E : XK} (hR : Reel H r) (h : ∀ (v : V) (d : Dt) (H' : Hp), DtOk d → SL r H H' → Reel H' r → RowAt H' v ⟨l, d⟩ → Q v H') : sp_law_small_row [.ref r, .int l] H Q E := use_rowd hR h
/-! ### a row of whole numbers that is drawn -/
def Nums : List Int → List V → Prop
  | ls, vs => ∃ ns : List Int, vs = ns.map V.int ∧ ns.length ≤ ls.length ∧ ∀ (i : Nat) n l, ns[i]? = some n → ls[i]? = some l → lim l n
theorem Nums.nil (ls : List Int) : Nums ls [] := ⟨[], rfl, Nat.zero_le _, fun i n l h => by simp at h⟩
theorem Nums.snoc {ls : List Int} {vs : List V} {n l : Int} (h : Nums ls vs) (hl : ls[vs.length]? = some l) (hn : lim l n) : Nums ls (vs ++ [.int n]) := by
  obtain ⟨ns, rfl, h1, h2⟩ := h
  rw [List.length_map] at hl
  have := (List.getElem?_eq_some_iff.mp hl).1
  refine ⟨ns ++ [n], by rw [List.map_append]; rfl, by rw [List.length_append]; show ns.length + 1 ≤ _; omega, fun i m k hm hk => ?_⟩
  rcases Nat.lt_trichotomy i ns.length with c | c | c
  · rw [List.getElem?_append_left c] at hm
    exact h2 i m k hm hk
  · subst c
    rw [List.getElem?_append_right (Nat.le_refl _), Nat.sub_self] at hm
    cases hm
    rw [hl] at hk
    cases hk
    exact hn
  · rw [List.getElem?_append_right (by omega), List.getElem?_eq_none (by show 1 ≤ _; omega)] at hm
    cases hm
theorem Nums.six {vs : List V} (h : Nums [-1, 0, 0, 0, -1, 0] vs) (hl : vs.length = 6) : ∃ a b c d e f : Int, vs = [.int a, .int b, .int c, .int d, .int e, .int f] ∧ lim (-1) a ∧ lim 0 b ∧ lim 0 c ∧ lim 0 d ∧ lim (-1) e ∧ lim 0 f := by
  obtain ⟨ns, rfl, _, h2⟩ := h
  rw [List.length_map] at hl
  match ns, hl, h2 with
  | [a, b, c, d, e, f], _, h2 => exact ⟨a, b, c, d, e, f, rfl, h2 0 a _ rfl rfl, h2 1 b _ rfl rfl, h2 2 c _ rfl rfl, h2 3 d _ rfl rfl, h2 4 e _ rfl rfl, h2 5 f _ rfl rfl⟩
theorem snocI {ls : List Int} {x : Int} : ls.map V.int ++ [V.int x] = (ls ++ [x]).map V.int := by rw [List.map_append]; rfl
theorem ok_of {z : Str} (h : ((TL.tl z).all fun c => decide (c < 1114112)) = true) : Ok z := fun c hc => of_decide_eq_true (List.all_eq_true.mp h c hc)
theorem ok_sign {z : Str} {c : Nat} (h : Ok z) (hc : c ∈ TL.tl z) : Ok ⟨#[c]⟩ := fun x hx => by
  have : x = c := by simpa [TL.tl] using hx
  rw [this]
  exact h c hc
theorem ok_in {z x : Str} (h : Ok z) (hx : ∀ c ∈ TL.tl x, c ∈ TL.tl z) : Ok x := fun c hc => h c (hx c hc)
section
variable {P : Program} {w : World} {K : PySem.W.Frag} {mg : Str → Option Value} {base : Heap} {aNode aNil : Addr}
theorem cal_law_quoted {f : Addr} {fd : FuncData} (T : Txt mg) (FD : C8.Def K mg "_law_quoted" s_law_quoted f fd) (b : Binds K fd ["chars"] []) : C8.Cal P w K mg base 1 "_law_quoted" sp_law_quoted [] := by
  refine C8.cal0 FD b .nil sc_law_quoted (fun vs H Q E h => ?_) (fun cdv A outer s H vs Q E hr h => ?_)
  · obtain ⟨z, rfl, _⟩ := h; rfl
  · obtain ⟨z, rfl, hl, ho, k⟩ := h
    refine ⟨_, (pss_cons (ps_set (i := 1) sc_law_quoted.nd rfl (.inl rfl) pe_str)
  (pss_cons (ps_for PassesOwn.never rfl (pi_str (pv 0)) (pg_name (i := 2) sc_law_quoted.nd rfl (.inl rfl)) (pss_one (ps_if (pt_cmpR (op_eqK K (hu64 hr)) (pv 2) pe_str (nomark _)) (pss_one (ps_set (i := 1) sc_law_quoted.nd rfl (.inl rfl) (pe_op (op_addK K) (pv 1) pe_str))) (pss_one (ps_if (pt_cmpR (op_eqK K (hu64 hr)) (pv 2) pe_str (nomark _)) (pss_one (ps_set (i := 1) sc_law_quoted.nd rfl (.inl rfl) (pe_op (op_addK K) (pv 1) pe_str))) (pss_one (ps_if (PW.pt (pw_or (pt_cmpR (op_eqK K (hu64 hr)) (pv 2) pe_str (nomark _)) (pw_or1 (pt_cmpR (op_eqK K (hu64 hr)) (pv 2) pe_str (nomark _))))) (pss_one (ps_set (i := 1) sc_law_quoted.nd rfl (.inl rfl) (pe_op (op_addK K) (pe_op (op_addK K) (pv 1) pe_str) (pv 2)))) (pss_one (ps_set (i := 1) sc_law_quoted.nd rfl (.inl rfl) (pe_op (op_addK K) (pv 1) (pv 2)))))))))))
  (pss_one (ps_ret (pe_op (op_addK K) (pv 1) pe_str))))), ?_⟩
    show (_ : TS) _ [some (.str z), none, none] H
    walk_at "rd"
    have hz : z.cps.size = z.length := rfl
    refine loopS_by (fun i σ' H' => ∃ (t : Str) (o2 : Option V), σ' = [some (.str z), some (.str t), o2] ∧ H' = H ∧ t.length ≤ 1 + 2 * i ∧ Ok t ∧ i ≤ z.length) ?_ ?_ ?_
    · exact ⟨_, none, rfl, rfl, by decide +kernel, ok_of (by decide +kernel), Nat.zero_le _⟩
    · rintro i c σ' H' hc ⟨t, o2, rfl, rfl, ht, hto, hi⟩
      have hcl := (Array.getElem?_eq_some_iff.mp hc).1
      have hci : c ∈ TL.tl z := by
        rw [← Array.getElem?_toList] at hc
        exact List.mem_of_getElem? hc
      have hoc := ok_sign ho hci
      walk_at "rd"
      have fin : ∀ y : Str, y.length ≤ 1 + 2 * (i + 1) → Ok y → ∃ (t : Str) (o2 : Option V), [some (V.str z), some (V.str y), some (V.str ⟨#[c]⟩)] = [some (.str z), some (.str t), o2] ∧ H' = H' ∧ t.length ≤ 1 + 2 * (i + 1) ∧ Ok t ∧ i + 1 ≤ z.length := fun y h1 h2 => ⟨y, _, rfl, rfl, h1, h2, by omega⟩
      refine ifD (fun _ => ?_) (fun _ => ?_)
      · walk_at "rd"
        refine fin _ ?_ (hto.app (ok_of (by decide +kernel)))
        rw [len_app]
        have : ("\\n" : Str).length = 2 := by decide +kernel
        omega
      · walk_at "rd"
        refine ifD (fun _ => ?_) (fun _ => ?_)
        · walk_at "rd"
          refine fin _ ?_ (hto.app (ok_of (by decide +kernel)))
          rw [len_app]
          have : ("\\t" : Str).length = 2 := by decide +kernel
          omega
        · have e1 : (⟨#[c]⟩ : Str).length = 1 := rfl
          have e2 : (t ++ "\\" : Str).length = t.length + 1 := by
            rw [len_app]
            have : ("\\" : Str).length = 1 := by decide +kernel
            omega
          have esc : ((t ++ "\\") ++ ⟨#[c]⟩ : Str).length ≤ 1 + 2 * (i + 1) := by
            rw [len_app]
            omega
          walk_at "rd"
          refine ifD (fun _ => ?_) (fun _ => ?_)
          · walk_at "rd"
            exact fin _ esc ((hto.app (ok_of (by decide +kernel))).app hoc)
          · walk_at "rd"
            refine ifD (fun _ => ?_) (fun _ => ?_)
            · walk_at "rd"
              exact fin _ esc ((hto.app (ok_of (by decide +kernel))).app hoc)
            · walk_at "rd"
              refine fin _ ?_ (hto.app hoc)
              rw [len_app]
              have : (⟨#[c]⟩ : Str).length = 1 := rfl
              omega
    · rintro σ' H' ⟨t, o2, rfl, rfl, ht, hto, hi⟩
      walk_at "rd"
      refine k (t ++ "\"") ?_ (hto.app (ok_of (by decide +kernel)))
      rw [len_app]
      have : ("\"" : Str).length = 1 := by decide +kernel
      omega
theorem cal_law_literal {f : Addr} {fd : FuncData} (T : Txt mg) (FD : C8.Def K mg "_law_literal" s_law_literal f fd) (b : Binds K fd ["reel"] [])
    (c_law_quoted : C8.Cal P w K mg base 1 "_law_quoted" sp_law_quoted [])
    (c_law_draw : C8.Cal P w K mg base 1 "_law_draw" sp_law_draw [])
    (c_law_pick : C8.Cal P w K mg base 2 "_law_pick" sp_law_pick []) : C8.Cal P w K mg base 3 "_law_literal" sp_law_literal [] := by
  refine C8.cal0 FD b .nil sc_law_literal (fun vs H Q E h => ?_) (fun cdv A outer s H vs Q E hr h => ?_)
  · obtain ⟨r, rfl, _⟩ := h; rfl
  · obtain ⟨r, rfl, hR, k⟩ := h
    refine ⟨_, (pss_cons (ps_set (i := 1) sc_law_literal.nd rfl (.inl rfl) pe_str)
  (pss_cons (ps_set (i := 1) sc_law_literal.nd rfl (.inl rfl) (pe_op (op_addK K) (pv 1) pe_str))
  (pss_cons (ps_set (i := 2) sc_law_literal.nd rfl (.inl rfl) pe_str)
  (pss_cons (ps_for PassesOwn.never rfl (pi_range1 rfl T.n_range (pa_cons (pe_op (op_addK K) pe_int (C8.pe_c c_law_draw hr (by decide) (by rfl) (pa_cons (pv 0) (pa_cons pe_int pa_nil)))) pa_nil)) (pg_name (i := 3) sc_law_literal.nd rfl (.inl rfl)) (pss_one (ps_if (pt_cmpR (op_eqK K (hu64 hr)) (C8.pe_c c_law_draw hr (by decide) (by rfl) (pa_cons (pv 0) (pa_cons pe_int pa_nil))) pe_int (nomark _)) (pss_one (ps_set (i := 2) sc_law_literal.nd rfl (.inl rfl) (pe_op (op_addK K) (pv 2) (C8.pe_c c_law_pick hr (by decide) (by rfl) (pa_cons (pv 0) (pa_cons pe_str pa_nil)))))) (pss_one (ps_set (i := 2) sc_law_literal.nd rfl (.inl rfl) (pe_op (op_addK K) (pv 2) (C8.pe_c c_law_pick hr (by decide) (by rfl) (pa_cons (pv 0) (pa_cons (pv 1) pa_nil)))))))))
  (pss_one (ps_ret (C8.pe_c c_law_quoted hr (by decide) (by rfl) (pa_cons (pv 2) pa_nil)))))))), ?_⟩
    show (_ : TS) _ [some (.ref r), none, none, none] H
    walk_at "rd"
    generalize hp : (("\t\n !\"#$&'()*+,-./0123456789:;<=>?@ABCDEFGHIJKLMNOPQRSTUVWXYZ[\\]^_" : Str) ++ "abcdefghijklmnopqrstuvwxyz{|}~") = pl
    have hpo : Ok pl ∧ 0 < pl.length ∧ pl.length ≤ 16777216 := by
      subst hp
      exact ⟨ok_of (by decide +kernel), by decide +kernel, by decide +kernel⟩
    refine use_draw hR (by omega) fun n H1 i0 i1 s1 r1 => ?_
    walk_at "rd"
    refine loopR_by (fun i σ' H' => ∃ (t : Str) (o3 : Option V), σ' = [some (.ref r), some (.str pl), some (.str t), o3] ∧ SL r H H' ∧ Reel H' r ∧ t.length = i ∧ Ok t ∧ i ≤ 6) ?_ ?_ ?_
    · exact ⟨_, none, rfl, s1, r1, by decide +kernel, ok_of (by decide +kernel), by omega⟩
    · rintro i σ' H2 hi ⟨t, o3, rfl, s2, r2, ht, hto, hi6⟩
      walk_at "rd"
      refine use_draw r2 (by omega) fun m H3 j0 j1 s3 r3 => ?_
      walk_at "rd"
      have one : ∀ c : Nat, (⟨#[c]⟩ : Str).length = 1 := fun c => rfl
      refine ifD (fun _ => ?_) (fun _ => ?_)
      · walk_at "rd"
        refine use_pickC r3 (by decide +kernel) (by decide +kernel) fun c H4 hc s4 r4 => ?_
        have := one c
        walk_at "rd"
        exact ⟨_, _, rfl, (s2.trans s3).trans s4, r4, by rw [len_app]; omega, hto.app (ok_sign (ok_of (by decide +kernel)) hc), by omega⟩
      · walk_at "rd"
        refine use_pickC r3 hpo.2.1 hpo.2.2 fun c H4 hc s4 r4 => ?_
        have := one c
        walk_at "rd"
        exact ⟨_, _, rfl, (s2.trans s3).trans s4, r4, by rw [len_app]; omega, hto.app (ok_sign hpo.1 hc), by omega⟩
    · rintro σ' H2 ⟨t, o3, rfl, s2, r2, ht, hto, hi6⟩
      walk_at "rd"
      refine use_quoted (by omega) hto fun y hy hyo => ?_
      exact k y H2 ⟨by omega, hyo⟩ s2 r2
theorem cal_law_name {f : Addr} {fd : FuncData} (T : Txt mg) (FD : C8.Def K mg "_law_name" s_law_name f fd) (b : Binds K fd ["reel"] [])
    (c_law_draw : C8.Cal P w K mg base 1 "_law_draw" sp_law_draw [])
    (c_law_pick : C8.Cal P w K mg base 2 "_law_pick" sp_law_pick [])
    (c_law_word : C8.Cal P w K mg base 3 "_law_word" sp_law_word []) : C8.Cal P w K mg base 4 "_law_name" sp_law_name [] := by
  refine C8.cal0 FD b .nil sc_law_name (fun vs H Q E h => ?_) (fun cdv A outer s H vs Q E hr h => ?_)
  · obtain ⟨r, rfl, _⟩ := h; rfl
  · obtain ⟨r, rfl, hR, k⟩ := h
    refine ⟨_, (pss_cons (ps_if (pt_cmpR (op_eqK K (hu64 hr)) (C8.pe_c c_law_draw hr (by decide) (by rfl) (pa_cons (pv 0) (pa_cons pe_int pa_nil))) pe_int (nomark _)) (pss_one (ps_ret (C8.pe_c c_law_pick hr (by decide) (by rfl) (pa_cons (pv 0) (pa_cons (pe_lst (pa_cons pe_str (pa_cons pe_str (pa_cons pe_str (pa_cons pe_str pa_nil))))) pa_nil))))) pss_nil)
  (pss_cons (ps_set (i := 1) sc_law_name.nd rfl (.inl rfl) pe_str)
  (pss_one (ps_ret (pe_op (op_addK K) (C8.pe_c c_law_pick hr (by decide) (by rfl) (pa_cons (pv 0) (pa_cons (pv 1) pa_nil))) (C8.pe_c c_law_word hr (by decide) (by rfl) (pa_cons (pv 0) (pa_cons (pe_op (op_addK K) (pv 1) pe_str) (pa_cons pe_int (pa_cons pe_int pa_nil)))))))))), ?_⟩
    show (_ : TS) _ [some (.ref r), none] H
    walk_at "rd"
    refine use_draw hR (by omega) fun n H1 i0 i1 s1 r1 => ?_
    walk_at "rd"
    refine ifD (fun _ => ?_) (fun _ => ?_)
    · · walk_at "rd"
        refine newO_gen fun p H2 f2 s2 h2 => ?_
        walk_at "rd"
        refine use_pickS (P := Nam) (r1.same s2) h2 (r1.ne f2).symm (by decide) (.cons ⟨by decide +kernel, ok_of (by decide +kernel)⟩ (.cons ⟨by decide +kernel, ok_of (by decide +kernel)⟩ (.cons ⟨by decide +kernel, ok_of (by decide +kernel)⟩ (.cons ⟨by decide +kernel, ok_of (by decide +kernel)⟩ .nil)))) fun z H3 hz s3 r3 => ?_
        exact k z H3 hz ((s1.more s2).trans s3) r3
    · walk_at "rd"
      refine use_pickC r1 (by decide +kernel) (by decide +kernel) fun c H2 hc s2 r2 => ?_
      have h1 : (⟨#[c]⟩ : Str).length = 1 := rfl
      walk_at "rd"
      generalize hp : (("abcdefghijklmnopqrstuvwxyz" : Str) ++ "0123456789_~") = pl
      have hpo : Ok pl ∧ 0 < pl.length ∧ pl.length ≤ 1000 := by
        subst hp
        exact ⟨ok_of (by decide +kernel), by decide +kernel, by decide +kernel⟩
      refine use_word r2 hpo.2 (by decide) fun x H3 x1 x2 x3 s3 r3 => ?_
      walk_at "rd"
      refine k _ H3 ⟨by rw [len_app]; omega, (ok_sign (ok_of (by decide +kernel)) hc).app (ok_in hpo.1 x3)⟩ ((s1.trans s2).trans s3) r3
theorem cal_law_sort {f : Addr} {fd : FuncData} (T : Txt mg) (FD : C8.Def K mg "_law_sort" s_law_sort f fd) (b : Binds K fd ["reel"] [])
    (c_law_name : C8.Cal P w K mg base 4 "_law_name" sp_law_name [])
    (c_law_draw : C8.Cal P w K mg base 1 "_law_draw" sp_law_draw [])
    (c_law_literal : C8.Cal P w K mg base 3 "_law_literal" sp_law_literal []) : C8.Cal P w K mg base 5 "_law_sort" sp_law_sort [] := by
  refine C8.cal0 FD b .nil sc_law_sort (fun vs H Q E h => ?_) (fun cdv A outer s H vs Q E hr h => ?_)
  · obtain ⟨r, rfl, _⟩ := h; rfl
  · obtain ⟨r, rfl, hR, k⟩ := h
    refine ⟨_, (pss_cons (ps_if (pt_cmpR (op_eqK K (hu64 hr)) (C8.pe_c c_law_draw hr (by decide) (by rfl) (pa_cons (pv 0) (pa_cons pe_int pa_nil))) pe_int (nomark _)) (pss_one (ps_ret (C8.pe_c c_law_literal hr (by decide) (by rfl) (pa_cons (pv 0) pa_nil)))) pss_nil)
  (pss_one (ps_ret (C8.pe_c c_law_name hr (by decide) (by rfl) (pa_cons (pv 0) pa_nil))))), ?_⟩
    show (_ : TS) _ [some (.ref r)] H
    walk_at "rd"
    refine use_draw hR (by omega) fun n H1 i0 i1 s1 r1 => ?_
    walk_at "rd"
    refine ifD (fun _ => ?_) (fun _ => ?_)
    · walk_at "rd"
      refine use_literal r1 fun y H2 hy s2 r2 => ?_
      exact k y H2 hy (s1.trans s2) r2
    · walk_at "rd"
      refine use_name r1 fun y H2 hy s2 r2 => ?_
      exact k y H2 hy (s1.trans s2) r2
theorem cal_law_comb {f : Addr} {fd : FuncData} (T : Txt mg) (FD : C8.Def K mg "_law_comb" s_law_comb f fd) (b : Binds K fd ["reel", "deep"] [])
    (c_law_draw : C8.Cal P w K mg base 1 "_law_draw" sp_law_draw []) : C8.Cal P w K mg base 2 "_law_comb" sp_law_comb [] := by
  refine C8.cal0 FD b .nil sc_law_comb (fun vs H Q E h => ?_) (fun cdv A outer s H vs Q E hr h => ?_)
  · obtain ⟨r, n, rfl, _⟩ := h; rfl
  · obtain ⟨r, n, rfl, hR, hn1, hn2, k⟩ := h
    refine ⟨_, (pss_cons (ps_set (i := 2) sc_law_comb.nd rfl (.inl rfl) (pe_cmpR (op_eqK K (hu64 hr)) (C8.pe_c c_law_draw hr (by decide) (by rfl) (pa_cons (pv 0) (pa_cons pe_int pa_nil))) pe_int (nomark _)))
  (pss_cons (ps_set (i := 3) sc_law_comb.nd rfl (.inl rfl) (pe_lst (pa_cons pe_int pa_nil)))
  (pss_cons (ps_for PassesOwn.never rfl (pi_range1 rfl T.n_range (pa_cons (pv 1) pa_nil)) (pg_name (i := 4) sc_law_comb.nd rfl (.inl rfl)) (pss_cons (ps_expr (pe_bm F.plainAttrs_list F.slot_list_append F.type_list_append mt_append (pv 3) (pa_cons (pe_op (op_addK K) (pv 4) pe_int) pa_nil)))
  (pss_one (ps_if (pt_truK K (pv 2) (by intro _; rfl)) (pss_one (ps_expr (pe_bm F.plainAttrs_list F.slot_list_append F.type_list_append mt_append (pv 3) (pa_cons (pe_op (op_addK K) (pv 4) pe_int) pa_nil)))) pss_nil))))
  (C8.pss_cut (ps_if (pt_not (pt_truK K (pv 2) (by intro _; rfl))) (pss_one (ps_for PassesOwn.never rfl (pi_range1 rfl T.n_range (pa_cons (pv 1) pa_nil)) (pg_name (i := 4) sc_law_comb.nd rfl (.inl rfl)) (pss_one (ps_expr (pe_bm F.plainAttrs_list F.slot_list_append F.type_list_append mt_append (pv 3) (pa_cons (pe_op op_subU (pv 1) (pv 4)) pa_nil)))))) pss_nil)
  (pss_one (ps_ret (pv 3))))))), ?_⟩
    show (_ : TS) _ [some (.ref r), some (.int n), none, none, none] H
    walk_at "rd"
    refine use_draw hR (by omega) fun b H1 i0 i1 s1 r1 => ?_
    walk_at "rd"
    refine newO_gen fun p H2 f2 s2 h2 => ?_
    have hpr : p ≠ r := (r1.ne f2).symm
    have f0 : Frs H p := s1.fre f2
    walk_at "rd"
    refine loopR_by (fun i σ' H' => ∃ (ls : List Int) (o4 : Option V), σ' = [some (.ref r), some (.int n), some (.bl (decide (b = 1))), some (.ref p), o4] ∧ SL r H H' ∧ Reel H' r ∧ H' p = some (.lst (ls.map V.int)) ∧
      LvOk ls ∧ ls.length ≤ 1 + 2 * i ∧ (ls.length = 1 + i ∨ b = 1) ∧ ls[ls.length - 1]? = some (i : Int)) ?_ ?_ ?_
    · exact ⟨[0], none, rfl, s1.more s2, r1.same s2, h2, ⟨[], rfl, trivial⟩, by simp, .inl rfl, rfl⟩
    · rintro i σ' H3 hi ⟨ls, o4, rfl, s3, r3, h3, hlv, hll, hlb, hla⟩
      have hml : (ls.map V.int).length = ls.length := List.length_map ..
      walk_at "rd"
      refine putO_gen h3 fun H4 s4 h4 => ?_
      rw [snocI] at h4
      have hlv2 : LvOk (ls ++ [0 + (i : Int) + 1]) := hlv.snoc (by omega) ⟨_, hla, by omega⟩
      have r4 := r3.sl s4 hpr.symm
      have ss4 : SL r H H4 := s3.two s4 f0
      walk_at "rd"
      refine ifD (fun hb => ?_) (fun hb => ?_)
      · have hml2 : ((ls ++ [0 + (i : Int) + 1]).map V.int).length = ls.length + 1 := by rw [List.length_map, List.length_append]; rfl
        walk_at "rd"
        refine putO_gen h4 fun H5 s5 h5 => ?_
        rw [snocI] at h5
        refine ⟨_, _, rfl, ss4.two s5 f0, r4.sl s5 hpr.symm, h5, hlv2.snoc (by omega) ⟨_, by rw [List.length_append, show ls.length + [0 + (i : Int) + 1].length - 1 = ls.length by simp, List.getElem?_append_right (Nat.le_refl _), Nat.sub_self]; rfl, by omega⟩, by rw [List.length_append, List.length_append]; show ls.length + 1 + 1 ≤ _; omega, .inr hb, ?_⟩
        rw [List.length_append, List.length_append, show ls.length + [0 + (i : Int) + 1].length + [0 + (i : Int) + 1].length - 1 = (ls ++ [0 + (i : Int) + 1]).length by simp, List.getElem?_append_right (Nat.le_refl _), Nat.sub_self]
        show some (0 + (i : Int) + 1) = _
        congr 1
        omega
      · walk_at "rd"
        refine ⟨_, _, rfl, ss4, r4, h4, hlv2, by rw [List.length_append]; show ls.length + 1 ≤ _; omega, .inl (by rw [List.length_append]; show ls.length + 1 = _; omega), ?_⟩
        rw [List.length_append, show ls.length + [0 + (i : Int) + 1].length - 1 = ls.length by simp, List.getElem?_append_right (Nat.le_refl _), Nat.sub_self]
        show some (0 + (i : Int) + 1) = _
        congr 1
        omega
    · rintro σ' H3 ⟨ls, o4, rfl, s3, r3, h3, hlv, hll, hlb, hla⟩
      walk_at "rd"
      have hn : (n.toNat : Int) = n := by omega
      refine rCut (fun σ' H' => ∃ (ls : List Int) (o4 : Option V), σ' = [some (.ref r), some (.int n), some (.bl (decide (b = 1))), some (.ref p), o4] ∧ SL r H H' ∧ Reel H' r ∧ H' p = some (.lst (ls.map V.int)) ∧ LvOk ls ∧ ls.length ≤ 2 * n.toNat + 1) ?_ ?_
      · walk_at "rd"
        refine ifND (fun hb => ?_) (fun hb => ?_)
        · walk_at "rd"
          have hlb' : ls.length = 1 + n.toNat := by rcases hlb with h | h <;> omega
          refine loopR_by (fun i σ' H' => ∃ (ls : List Int) (o4 : Option V), σ' = [some (.ref r), some (.int n), some (.bl (decide (b = 1))), some (.ref p), o4] ∧ SL r H H' ∧ Reel H' r ∧ H' p = some (.lst (ls.map V.int)) ∧
            LvOk ls ∧ ls.length = 1 + n.toNat + i ∧ ∃ y, ls[ls.length - 1]? = some y ∧ n - i ≤ y + 1) ?_ ?_ ?_
          · exact ⟨ls, _, rfl, s3, r3, h3, hlv, hlb', _, hla, by omega⟩
          · rintro i σ' H4 hi ⟨ls, o4, rfl, s4, r4, h4, hlv, hll, y, hy, hy2⟩
            have hml : (ls.map V.int).length = ls.length := List.length_map ..
            walk_at "rd"
            refine putO_gen h4 fun H5 s5 h5 => ?_
            rw [snocI] at h5
            refine ⟨_, _, rfl, s4.two s5 f0, r4.sl s5 hpr.symm, h5, hlv.snoc (by omega) ⟨y, hy, by omega⟩, by rw [List.length_append]; show ls.length + 1 = _; omega, n - (0 + (i : Int)), ?_, ?_⟩
            · rw [List.length_append, show ls.length + [n - (0 + (i : Int))].length - 1 = ls.length by simp, List.getElem?_append_right (Nat.le_refl _), Nat.sub_self]
              rfl
            · omega
          · rintro σ' H4 ⟨ls, o4, rfl, s4, r4, h4, hlv, hll, _⟩
            exact ⟨ls, _, rfl, s4, r4, h4, hlv, by omega⟩
        · walk_at "rd"
          exact ⟨ls, _, rfl, s3, r3, h3, hlv, by omega⟩
      · rintro σ' H4 ⟨ls, o4, rfl, s4, r4, h4, hlv, hll⟩
        walk_at "rd"
        exact k p ls H4 s4 r4 f0 h4 hlv hll
theorem cal_law_levels {f : Addr} {fd : FuncData} (T : Txt mg) (FD : C8.Def K mg "_law_levels" s_law_levels f fd) (b : Binds K fd ["reel"] [])
    (c_law_pick : C8.Cal P w K mg base 2 "_law_pick" sp_law_pick []) : C8.Cal P w K mg base 3 "_law_levels" sp_law_levels [] := by
  refine C8.cal0 FD b .nil sc_law_levels (fun vs H Q E h => ?_) (fun cdv A outer s H vs Q E hr h => ?_)
  · obtain ⟨r, rfl, _⟩ := h; rfl
  · obtain ⟨r, rfl, hR, k⟩ := h
    refine ⟨_, (pss_cons (ps_set (i := 1) sc_law_levels.nd rfl (.inl rfl) (pe_lst (pa_cons pe_int pa_nil)))
  (pss_cons (ps_set (i := 2) sc_law_levels.nd rfl (.inl rfl) (C8.pe_c c_law_pick hr (by decide) (by rfl) (pa_cons (pv 0) (pa_cons (pe_lst (pa_cons pe_int (pa_cons pe_int (pa_cons pe_int (pa_cons pe_int (pa_cons pe_int (pa_cons pe_int (pa_cons pe_int (pa_cons pe_int (pa_cons pe_int (pa_cons pe_int (pa_cons pe_int (pa_cons pe_int (pa_cons pe_int pa_nil)))))))))))))) pa_nil))))
  (pss_cons (ps_for PassesOwn.never rfl (pi_range1 rfl T.n_range (pa_cons (pv 2) pa_nil)) (pg_name (i := 3) sc_law_levels.nd rfl (.inl rfl)) (pss_cons (ps_set (i := 4) sc_law_levels.nd rfl (.inl rfl) (C8.pe_c c_law_pick hr (by decide) (by rfl) (pa_cons (pv 0) (pa_cons (pe_lst (pa_cons pe_int (pa_cons pe_int (pa_cons pe_int (pa_cons pe_int (pa_cons pe_int (pa_cons pe_int (pa_cons pe_int (pa_cons pe_int pa_nil))))))))) pa_nil))))
  (pss_one (ps_expr (pe_bm F.plainAttrs_list F.slot_list_append F.type_list_append mt_append (pv 1) (pa_cons (pe_callB (call_max2U rfl) (by rfl) T.n_max (by decide +kernel) (pa_cons pe_int (pa_cons (pe_callB (call_min2U rfl) (by rfl) T.n_min (by decide +kernel) (pa_cons pe_int (pa_cons (pe_op op_subU (pe_op (op_addK K) (pe_ix (ix_K K) (pv 1) (pv 3) (fun _ _ => rfl)) pe_int) (pv 4)) pa_nil))) pa_nil))) pa_nil))))))
  (pss_one (ps_ret (pv 1)))))), ?_⟩
    show (_ : TS) _ [some (.ref r), none, none, none, none] H
    walk_at "rd"
    refine newO_gen fun p H1 f1 s1 h1 => ?_
    have hpr : p ≠ r := (hR.ne f1).symm
    walk_at "rd"
    refine newO_gen fun q H2 f2 s2 h2 => ?_
    have r2 : Reel H2 r := (hR.same s1).same s2
    have hqr : q ≠ r := ((hR.same s1).ne f2).symm
    walk_at "rd"
    refine use_pickI (lo := 0) (hi := 39) r2 h2 hqr (by decide) (by repeat (first | exact .nil | refine .cons (by omega) ?_)) fun z H3 z0 z1 s3 r3 => ?_
    walk_at "rd"
    refine loopR_by (fun i σ' H' => ∃ (ls : List Int) (o3 o4 : Option V), σ' = [some (.ref r), some (.ref p), some (.int z), o3, o4] ∧ SL r H H' ∧ Reel H' r ∧ H' p = some (.lst (ls.map V.int)) ∧ LvOk ls ∧ ls.length = i + 1) ?_ ?_ ?_
    · exact ⟨[0], none, none, rfl, (hR.sl0 (Same.trans s1 s2)).trans s3, r3, s3.at hpr (Same.at s2 h1), ⟨[], rfl, trivial⟩, rfl⟩
    · rintro i σ' H4 hi ⟨ls, o3, o4, rfl, s4, r4, h4, hlv, hll⟩
      have hml : (ls.map V.int).length = ls.length := List.length_map ..
      walk_at "rd"
      refine newO_gen fun q2 H5 f5 s5 h5 => ?_
      have r5 := r4.same s5
      have hq2r : q2 ≠ r := (r4.ne f5).symm
      walk_at "rd"
      refine use_pickI (lo := 0) (hi := 12) r5 h5 hq2r (by decide) (by repeat (first | exact .nil | refine .cons (by omega) ?_)) fun y H6 y0 y1 s6 r6 => ?_
      obtain ⟨la, hla, hla0⟩ := hlv.last
      have hat : atI (ls.map V.int) (0 + (i : Int)) = some (V.int la) := at_of (j := i) (by omega) (by rw [List.getElem?_map, ← show ls.length - 1 = i by omega, hla]; rfl)
      have h6 : H6 p = some (.lst (ls.map V.int)) := s6.at hpr (Same.at s5 h4)
      walk_at "rd"
      generalize hx : (if (if la + 1 - y < 12 then la + 1 - y else 12) > 1 then (if la + 1 - y < 12 then la + 1 - y else 12) else (1 : Int)) = x
      have hx1 : 1 ≤ x ∧ x ≤ la + 1 := by rw [← hx]; split <;> split <;> omega
      refine putO_gen h6 fun H7 s7 h7 => ?_
      rw [snocI] at h7
      refine ⟨_, _, _, rfl, ((s4.more s5).trans s6).two s7 f1, r6.sl s7 hpr.symm, h7, hlv.snoc hx1.1 ⟨la, hla, hx1.2⟩, by rw [List.length_append]; show ls.length + 1 = _; omega⟩
    · rintro σ' H4 ⟨ls, o3, o4, rfl, s4, r4, h4, hlv, hll⟩
      walk_at "rd"
      exact k p ls H4 s4 r4 f1 h4 hlv (by omega)
end
end Z
namespace Z
open PySem PySem.Spec L2 ItX
local macro_rules | `(tactic| walk_at "ne") => `(tactic| first
  | with_reducible assumption
  | with_reducible exact Ne.symm (by assumption)
  | exact Frs.ne (by with_reducible assumption) (by walk_at "hp")
  | exact Frs.ne' (by with_reducible assumption) (by walk_at "hp"))
local macro_rules | `(tactic| walk_at "hp") => `(tactic| first
  | with_reducible assumption
  | (with_reducible refine Same.at (by assumption) ?_; walk_at "hp")
  | (with_reducible refine SL.tup (by assumption) ?_; walk_at "hp")
  | (with_reducible refine SL.at (by assumption) (by walk_at "ne") ?_; walk_at "hp"))
local macro_rules | `(tactic| walk_at "sz") => `(tactic| first
  | with_reducible assumption
  | exact Nat.le_of_ble_eq_true rfl
  | (refine sz_le ?_; omega)
  | (refine sz_lt ?_; omega)
  | decide +kernel)
local macro_rules | `(tactic| walk_at "at") => `(tactic| first
  | with_reducible assumption
  | with_reducible exact at0
  | with_reducible exact at1
  | with_reducible exact at2
  | with_reducible exact ixN0)
local macro_rules | `(tactic| walk_at "nn") => `(tactic| first
  | omega
  | decide
  | exact ⟨by decide, by decide⟩
  | exact ⟨by omega, by omega⟩
  | exact ⟨by omega, by omega, by omega, by omega⟩)
local macro_rules | `(tactic| walk_at "rdv") => `(tactic| first
  | (with_reducible refine add_int ?_)
  | (with_reducible refine sub_int ?_)
  | (with_reducible refine neg_int ?_)
  | ((with_reducible refine ix_tpl (xs := ?xs) (v := ?v) ?h1 ?h2 ?_); (case h1 => walk_at "hp"); (case h2 => walk_at "at"))
  | ((with_reducible refine ix_lst (xs := ?xs) (v := ?v) ?h1 ?h2 ?_); (case h1 => walk_at "hp"); (case h2 => walk_at "at"))
  | (with_reducible refine eq_int ?_)
  | (with_reducible refine ne_int ?_)
  | (with_reducible refine lt_int ?_)
  | (with_reducible refine le_int ?_)
  | (with_reducible refine gt_int ?_)
  | (with_reducible refine ge_int ?_)
  | (with_reducible refine eq_str ?_)
  | (with_reducible refine ne_str ?_)
  | (with_reducible refine eq_bl ?_)
  | (with_reducible refine ne_bl ?_)
  | ((with_reducible refine mod_int ?hc ?_); (case hc => walk_at "nn"))
  | ((with_reducible refine div_int ?hc ?_); (case hc => walk_at "nn"))
  | ((with_reducible refine mul_intR ?hc ?_); (case hc => exact ⟨by decide, by decide⟩))
  | ((with_reducible refine mul_intR ?hc ?_); (case hc => exact ⟨by omega, by omega⟩))
  | ((with_reducible refine mul_intL ?hc ?_); (case hc => exact ⟨by omega, by omega⟩))
  | ((with_reducible refine pow_int ?hc ?_); (case hc => exact ⟨by decide, by decide, by decide⟩))
  | ((with_reducible refine add_str ?hc ?_); (case hc => walk_at "sz"))
  | ((with_reducible refine add_lst (xs := ?xs) (ys := ?ys) ?h1 ?h2 ?hc ?_); (case h1 => walk_at "hp"); (case h2 => walk_at "hp"); (case hc => walk_at "sz"))
  | ((with_reducible refine sl_strU ?hc ?_); (case hc => walk_at "sz"))
  | ((with_reducible refine sl_lst (xs := ?xs) ?h1 ?_); (case h1 => walk_at "hp"))
  | (with_reducible refine is_bl ?_)
  | (with_reducible refine isnt_bl ?_)
  | (with_reducible refine is_non ?_)
  | (with_reducible refine isnt_non ?_))
local macro_rules | `(tactic| walk_at "rdc") => `(tactic| first
  | ((with_reducible refine len_lst (xs := ?xs) ?h1 ?_); (case h1 => walk_at "hp"))
  | ((with_reducible refine len_tup (xs := ?xs) ?h1 ?_); (case h1 => walk_at "hp"))
  | ((with_reducible refine len_str ?hc ?_); (case hc => walk_at "sz"))
  | (with_reducible refine int_int ?_)
  | (with_reducible refine max_int ?_)
  | (with_reducible refine min_int ?_)
  | (with_reducible refine abs_int ?_)
  | (with_reducible refine isi_ii ?_)
  | (with_reducible refine isi_ib ?_)
  | (with_reducible refine isi_ss ?_)
  | (with_reducible refine isi_bb ?_)
  | ((with_reducible refine isi_tt (xs := ?xs) ?h1 ?_); (case h1 => walk_at "hp"))
  | ((with_reducible refine isi_ll (xs := ?xs) ?h1 ?_); (case h1 => walk_at "hp"))
  | ((with_reducible refine list_lst (xs := ?xs) ?h1 ?_); (case h1 => walk_at "hp"))
  | ((with_reducible refine list_tup (xs := ?xs) ?h1 ?_); (case h1 => walk_at "hp"))
  | ((with_reducible refine tuple_lst (xs := ?xs) ?h1 ?_); (case h1 => walk_at "hp"))
  | ((with_reducible refine tuple_tup (xs := ?xs) ?h1 ?_); (case h1 => walk_at "hp"))
  | ((with_reducible refine append_lst (xs := ?xs) ?h1 ?hc ?_); (case h1 => walk_at "hp"); (case hc => walk_at "sz"))
  | ((with_reducible refine clear_lst (xs := ?xs) ?h1 ?_); (case h1 => walk_at "hp"))
  | ((with_reducible refine set_lst (xs := ?xs) (k := ?k) ?h1 ?h2 ?_); (case h1 => walk_at "hp"); (case h2 => walk_at "at")))
local macro_rules | `(tactic| walk_at "rd1") => `(tactic| first
  | ((with_reducible refine rVar (v := ?v) ?h ?_); (case h => exact rfl))
  | (with_reducible refine rC ?_)
  | (with_reducible refine rCons ?_)
  | (with_reducible refine rNil ?_)
  | (with_reducible refine rOp ?_)
  | (with_reducible refine rSeq ?_)
  | (with_reducible refine rAsgN ?_)
  | (with_reducible refine rAsgT ?_)
  | (with_reducible refine rAsgS ?_)
  | (with_reducible refine rTest ?_)
  | (with_reducible refine rBl ?_)
  | (with_reducible refine rBl' ?_)
  | (with_reducible refine rInt ?_)
  | (with_reducible refine rInt' ?_)
  | (with_reducible refine rCall ?_)
  | (with_reducible refine rCB ?_)
  | (with_reducible refine rRet ?_)
  | (with_reducible refine rDrop ?_)
  | (with_reducible refine rIfS ?_)
  | (with_reducible refine rTup ?_)
  | (with_reducible refine rLst ?_)
  | (with_reducible refine ⟨Nat.le_of_ble_eq_true rfl, ?_⟩)
  | (with_reducible refine rSl ?_)
  | (with_reducible refine rPart ?_)
  | (with_reducible refine rNoPart ?_)
  | (with_reducible refine rBM ?_)
  | (with_reducible refine rBM0 ?_)
  | ((with_reducible refine tyL (xs := ?xs) ?h1 ?_); (case h1 => walk_at "hp"))
  | (with_reducible refine rM1 ?_)
  | (with_reducible refine rM0 ?_)
  | (with_reducible refine rStr ?_)
  | (with_reducible refine rTru ?_)
  | (with_reducible refine tru_bl ?_)
  | (with_reducible refine tru_int ?_)
  | ((with_reducible refine tru_lst (xs := ?xs) ?h1 ?_); (case h1 => walk_at "hp"))
  | ((with_reducible refine tru_tup (xs := ?xs) ?h1 ?_); (case h1 => walk_at "hp"))
  | ((with_reducible refine tru_str ?hc ?_); (case hc => walk_at "sz"))
  | (with_reducible refine rAnd ?_)
  | (with_reducible refine rOr ?_)
  | (with_reducible refine rNot ?_)
  | (with_reducible refine rAndV ?_)
  | (with_reducible refine rOrV ?_)
  | (with_reducible refine rNotV ?_)
  | (with_reducible refine rIfE ?_)
  | (with_reducible refine rChain ?_)
  | (with_reducible refine rChain3 ?_)
  | (with_reducible refine ifT ?_)
  | (with_reducible refine ifF ?_)
  | (with_reducible refine ifNF ?_)
  | (with_reducible refine ifNT ?_)
  | (with_reducible refine rNext ?_)
  | (with_reducible refine rBrk ?_)
  | (with_reducible refine rCnt ?_)
  | (with_reducible refine rRetN ?_)
  | (with_reducible refine rForR1 ?_)
  | (with_reducible refine rForR2 ?_)
  | (with_reducible refine rForL ?_)
  | ((with_reducible refine rRg1 ?hb ?_); (case hb => walk_at "nn"))
  | ((with_reducible refine rRg2 ?hb ?_); (case hb => walk_at "nn"))
  | ((with_reducible refine rRf (xs := ?xs) ?h1 ?_); (case h1 => walk_at "hp"))
  | (with_reducible refine rLcR1 ?_)
  | (with_reducible refine rLcR2 ?_)
  | (with_reducible refine rLcL ?_)
  | (with_reducible refine gN ?_)
  | (with_reducible refine gNl ?_)
  | (with_reducible refine gC ?_)
  | ((with_reducible refine gT (xs := ?xs) ?h1 ?h2 ?_); (case h1 => walk_at "hp"); (case h2 => exact rfl))
  | (with_reducible refine rUn ?_)
  | walk_at "rdv"
  | walk_at "rdc")
local macro_rules | `(tactic| walk_at "rd") => `(tactic| repeat walk_at "rd1")

local macro_rules | `(tactic| walk_at "rd1") => `(tactic| first
  | (with_reducible refine rCallS ?_)
  | (with_reducible refine rRaise ?_)
  | (with_reducible refine rXf ?_)
  | (with_reducible refine rXi ?_)
  | (with_reducible refine rOst ?_)
  | (with_reducible refine rRevL ?_)
  | ((with_reducible refine revL_end (xs := ?xs) ?h1 ?_); (case h1 => walk_at "hp")))

local macro_rules | `(tactic| walk_at "rd1") => `(tactic| first
  | (with_reducible refine rForR3 ?_)
  | ((with_reducible refine rRgD ?hb ?_); (case hb => walk_at "nn"))
  | (with_reducible refine gS ?_))

local macro_rules | `(tactic| walk_at "rd1") => `(tactic| first
  | (with_reducible refine rFld ?_)
  | (with_reducible refine rSFld ?_)
  | (with_reducible refine rMake ?_)
  | (with_reducible refine rMeth ?_)
  | (with_reducible refine rForT ?_)
  | (with_reducible refine rLcT ?_)
  | (with_reducible refine rLcO ?_)
  | (with_reducible refine rForO ?_)
  | (with_reducible refine rLstY ?_)
  | ((with_reducible refine rRt (xs := ?xs) ?h1 ?_); (case h1 => walk_at "hp"))
  | ((with_reducible refine listY_lst (xs := ?xs) ?h1 ?_); (case h1 => walk_at "hp"))
  | ((with_reducible refine listY_tup (xs := ?xs) ?h1 ?_); (case h1 => walk_at "hp")))

local macro_rules | `(tactic| walk_at "hp") => `(tactic| first
  | (with_reducible refine SL.ins (by assumption) ?_; walk_at "hp"))
local macro_rules | `(tactic| walk_at "at") => `(tactic| first
  | with_reducible exact at3
  | with_reducible exact at4
  | with_reducible exact at5
  | with_reducible exact at6
  | with_reducible exact at7
  | with_reducible exact at8)
local macro_rules | `(tactic| walk_at "rd1") => `(tactic| first
  | (with_reducible refine rMkWK ?_)
  | (with_reducible refine rForS ?_)
  | (with_reducible refine rDGet ?_)
  | (with_reducible refine rDPut ?_)
  | (with_reducible refine rIts ?_)
  | (with_reducible refine rLstRg ?_)
  | ((with_reducible refine reverse_lst (xs := ?xs) ?h1 ?_); (case h1 => walk_at "hp"))
  | ((with_reducible refine extend_lst (xs := ?xs) (ys := ?ys) ?h1 ?h2 ?hc ?_); (case h1 => walk_at "hp"); (case h2 => walk_at "hp"); (case hc => walk_at "sz"))
  | ((with_reducible refine fN_kind (mg := ?mg) (C := ?C) (dx := ?dx) (d := ?d) (ns := ?ns) ?hu ?hp ?_); (case hu => with_reducible assumption); (case hp => walk_at "hp"))
  | ((with_reducible refine fN_symbol (mg := ?mg) (C := ?C) (dx := ?dx) (d := ?d) (ns := ?ns) ?hu ?hp ?_); (case hu => with_reducible assumption); (case hp => walk_at "hp"))
  | ((with_reducible refine fN_state (mg := ?mg) (C := ?C) (dx := ?dx) (d := ?d) (ns := ?ns) ?hu ?hp ?_); (case hu => with_reducible assumption); (case hp => walk_at "hp"))
  | ((with_reducible refine fN_lead (mg := ?mg) (C := ?C) (dx := ?dx) (d := ?d) (ns := ?ns) ?hu ?hp ?_); (case hu => with_reducible assumption); (case hp => walk_at "hp"))
  | ((with_reducible refine fN_width (mg := ?mg) (C := ?C) (dx := ?dx) (d := ?d) (ns := ?ns) ?hu ?hp ?_); (case hu => with_reducible assumption); (case hp => walk_at "hp"))
  | ((with_reducible refine fN_look (mg := ?mg) (C := ?C) (dx := ?dx) (d := ?d) (ns := ?ns) ?hu ?hp ?_); (case hu => with_reducible assumption); (case hp => walk_at "hp"))
  | ((with_reducible refine fN_alternative (mg := ?mg) (C := ?C) (dx := ?dx) (d := ?d) (ns := ?ns) ?hu ?hp ?_); (case hu => with_reducible assumption); (case hp => walk_at "hp"))
  | ((with_reducible refine fN_nodes (mg := ?mg) (C := ?C) (dx := ?dx) (d := ?d) (ns := ?ns) ?hu ?hp ?_); (case hu => with_reducible assumption); (case hp => walk_at "hp"))
  | ((with_reducible refine fN_popped (mg := ?mg) (C := ?C) (dx := ?dx) (d := ?d) (ns := ?ns) ?hu ?hp ?_); (case hu => with_reducible assumption); (case hp => walk_at "hp")))

/-- a tree's rows are drawn -/
def TreeDraw (n : Nat) : Sp := fun vs H Q _ => ∃ r : Addr, vs = [.ref r] ∧ Reel H r ∧ ∀ (p : Addr) (rows : List Rw) (H' : Hp), SL r H H' → Reel H' r → Frs H p → RowsIn H' p rows → Grow n rows → Q (.ref p) H'
def sp_law_tree : Sp := TreeDraw 5000
theorem use_tree {r : Addr} {H : Hp} {Q : VK} {E : XK} (hR : Reel H r) (h : ∀ (p : Addr) (rows : List Rw) (H' : Hp), SL r H H' → Reel H' r → Frs H p → RowsIn H' p rows → Grow 5000 rows → Q (.ref p) H') : sp_law_tree [.ref r] H Q E := ⟨r, rfl, hR, h⟩
/-- rows for levels, so far -/
def RowsFor (ls : List Int) (vs : List V) (H : Hp) : Prop := ∃ rows, Rows H vs rows ∧ rows.map (·.lv) = ls.take vs.length ∧ ∀ x ∈ rows, DtOk x.d
theorem RowsFor.nil {ls : List Int} {H : Hp} : RowsFor ls [] H := ⟨[], .nil, rfl, fun _ h => nomatch h⟩
theorem RowsFor.snoc {ls : List Int} {vs : List V} {H H' : Hp} {v : V} {l : Int} {d : Dt} (h : RowsFor ls vs H) (s : TpS H H') (hl : ls[vs.length]? = some l) (hd : DtOk d) (hv : RowAt H' v ⟨l, d⟩) : RowsFor ls (vs ++ [v]) H' := by
  obtain ⟨rows, h1, h2, h3⟩ := h
  refine ⟨rows ++ [⟨l, d⟩], Paired.snoc (h1.ts s) hv, ?_, fun x hx => ?_⟩
  · rw [List.map_append, h2, List.length_append, show vs.length + [v].length = vs.length + 1 from rfl, List.take_succ, hl]
    rfl
  · rcases List.mem_append.mp hx with hx | hx
    · exact h3 x hx
    · rw [List.mem_singleton.mp hx]; exact hd
theorem RowsFor.all {ls : List Int} {vs : List V} {H : Hp} (h : RowsFor ls vs H) (hl : vs.length = ls.length) (ho : LvOk ls) : ∃ rows, Rows H vs rows ∧ Grow ls.length rows := by
  obtain ⟨rows, h1, h2, h3⟩ := h
  rw [hl, List.take_length] at h2
  exact ⟨rows, h1, ho.tre h2, by rw [← hl, ← Paired.len h1]; exact Nat.le_refl _, h3⟩
theorem Grow.le {m n : Nat} {rows : List Rw} (h : Grow m rows) (hn : m ≤ n) : Grow n rows := ⟨h.tre, by have := h.len; omega, h.ok⟩
section
variable {P : Program} {w : World} {K : PySem.W.Frag} {mg : Str → Option Value} {base : Heap} {aNode aNil : Addr}
theorem cal_law_count {f : Addr} {fd : FuncData} (T : Txt mg) (FD : C8.Def K mg "_law_count" s_law_count f fd) (b : Binds K fd ["reel", "least"] [])
    (c_law_draw : C8.Cal P w K mg base 1 "_law_draw" sp_law_draw []) : C8.Cal P w K mg base 2 "_law_count" sp_law_count [] := by
  refine C8.cal0 FD b .nil sc_law_count (fun vs H Q E h => ?_) (fun cdv A outer s H vs Q E hr h => ?_)
  · obtain ⟨r, l, rfl, _⟩ := h; rfl
  · obtain ⟨r, l, rfl, hR, l0, l1, k⟩ := h
    refine ⟨_, (pss_cons (ps_set (i := 2) sc_law_count.nd rfl (.inl rfl) (C8.pe_c c_law_draw hr (by decide) (by rfl) (pa_cons (pv 0) (pa_cons pe_int pa_nil))))
  (pss_cons (ps_if (pt_cmpR op_ltU (pv 2) pe_int (nomark _)) (pss_one (ps_ret (pv 1))) pss_nil)
  (pss_cons (ps_if (pt_cmpR (op_eqK K (hu64 hr)) (pv 2) pe_int (nomark _)) (pss_one (ps_ret (pe_op op_subU pe_int (C8.pe_c c_law_draw hr (by decide) (by rfl) (pa_cons (pv 0) (pa_cons pe_int pa_nil)))))) pss_nil)
  (pss_cons (ps_if (pt_cmpR op_ltU (pv 2) pe_int (nomark _)) (pss_one (ps_ret (C8.pe_c c_law_draw hr (by decide) (by rfl) (pa_cons (pv 0) (pa_cons pe_int pa_nil))))) pss_nil)
  (pss_one (ps_ret (pe_op (op_addK K) (pe_op op_mulU (pe_op (op_addK K) (pe_op op_mulU (C8.pe_c c_law_draw hr (by decide) (by rfl) (pa_cons (pv 0) (pa_cons pe_int pa_nil))) pe_int) (C8.pe_c c_law_draw hr (by decide) (by rfl) (pa_cons (pv 0) (pa_cons pe_int pa_nil)))) pe_int) (C8.pe_c c_law_draw hr (by decide) (by rfl) (pa_cons (pv 0) (pa_cons pe_int pa_nil)))))))))), ?_⟩
    show (_ : TS) _ [some (.ref r), some (.int l), none] H
    walk_at "rd"
    refine use_draw hR (by omega) fun f H1 i0 i1 s1 r1 => ?_
    walk_at "rd"
    refine ifD (fun _ => ?_) (fun _ => ?_)
    · walk_at "rd"
      exact k l H1 ⟨by omega, by omega⟩ s1 r1
    · walk_at "rd"
      refine ifD (fun _ => ?_) (fun _ => ?_)
      · walk_at "rd"
        refine use_draw r1 (by omega) fun a H2 a0 a1 s2 r2 => ?_
        walk_at "rd"
        exact k _ H2 ⟨by omega, by omega⟩ (s1.trans s2) r2
      · walk_at "rd"
        refine ifD (fun _ => ?_) (fun _ => ?_)
        · walk_at "rd"
          refine use_draw r1 (by omega) fun a H2 a0 a1 s2 r2 => ?_
          exact k _ H2 ⟨by omega, by omega⟩ (s1.trans s2) r2
        · walk_at "rd"
          refine use_draw r1 (by omega) fun a H2 a0 a1 s2 r2 => ?_
          walk_at "rd"
          refine use_draw r2 (by omega) fun b H3 b0 b1 s3 r3 => ?_
          walk_at "rd"
          refine use_draw r3 (by omega) fun c H4 c0 c1 s4 r4 => ?_
          walk_at "rd"
          exact k _ H4 ⟨by omega, by omega⟩ (((s1.trans s2).trans s3)|>.trans s4) r4
theorem cal_law_row {f : Addr} {fd : FuncData} (T : Txt mg) (FD : C8.Def K mg "_law_row" s_law_row f fd) (b : Binds K fd ["reel", "level"] [])
    (c_law_sort : C8.Cal P w K mg base 5 "_law_sort" sp_law_sort [])
    (c_law_draw : C8.Cal P w K mg base 1 "_law_draw" sp_law_draw [])
    (c_law_count : C8.Cal P w K mg base 2 "_law_count" sp_law_count []) : C8.Cal P w K mg base 6 "_law_row" sp_law_row [] := by
  refine C8.cal0 FD b .nil sc_law_row (fun vs H Q E h => ?_) (fun cdv A outer s H vs Q E hr h => ?_)
  · obtain ⟨r, l, rfl, _⟩ := h; rfl
  · obtain ⟨r, l, rfl, hR, k⟩ := h
    refine ⟨_, (pss_cons (ps_set (i := 2) sc_law_row.nd rfl (.inl rfl) (C8.pe_c c_law_sort hr (by decide) (by rfl) (pa_cons (pv 0) pa_nil)))
  (pss_cons (ps_set (i := 3) sc_law_row.nd rfl (.inl rfl) (pv 2))
  (C8.pss_cut (ps_if (pt_cmpR (op_eqK K (hu64 hr)) (C8.pe_c c_law_draw hr (by decide) (by rfl) (pa_cons (pv 0) (pa_cons pe_int pa_nil))) pe_int (nomark _)) (pss_one (ps_set (i := 3) sc_law_row.nd rfl (.inl rfl) (C8.pe_c c_law_sort hr (by decide) (by rfl) (pa_cons (pv 0) pa_nil)))) pss_nil)
  (pss_cons (ps_setLc (i := 4) (own := [("least", 5)]) rfl sc_law_row.nd rfl rfl (sw_true rfl rfl rfl (by decide +kernel)) (pi_listK K (pe_lst (pa_cons (pe_un un_neg pe_int) (pa_cons pe_int (pa_cons pe_int (pa_cons pe_int (pa_cons (pe_un un_neg pe_int) (pa_cons pe_int pa_nil)))))))) (blkOk_by (own := [("least", 5)]) (N := ["reel", "level", "first", "second", "numbers", "least"]) (sc := C8.fnScope s_law_row) (by decide +kernel)) (fun _ _ _ _ _ => (pg_name (i := 5) sc_law_row.nd rfl (.inl rfl))) (fun _ _ _ _ _ => pts_nil) (fun _ _ _ _ _ => (C8.pe_c c_law_count hr (by decide) (by rfl) (pa_cons (pv 0) (pa_cons (pv 5) pa_nil)))))
  (C8.pss_cut (ps_if (pt_cmpR (op_eqK K (hu64 hr)) (C8.pe_c c_law_draw hr (by decide) (by rfl) (pa_cons (pv 0) (pa_cons pe_int pa_nil))) pe_int (nomark _)) (pss_one (ps_set (i := 4) sc_law_row.nd rfl (.inl rfl) (pe_op (op_addK K) (pe_slice (sl_K K) (pv 4) po_none (po_some pe_int)) (pe_lst (pa_cons (pe_un un_neg pe_int) (pa_cons pe_int pa_nil)))))) pss_nil)
  (pss_one (ps_ret (pe_op (op_addK K) (pe_tup (pa_cons (pv 1) (pa_cons (pv 2) (pa_cons (pv 3) pa_nil)))) (pe_callTy (call_tupleK K) (by rfl) T.n_tuple (by decide +kernel) (pa_cons (pv 4) pa_nil)))))))))), ?_⟩
    show (_ : TS) _ [some (.ref r), some (.int l), none, none, none, none] H
    walk_at "rd"
    refine use_sort hR fun y1 H1 hy1 s1 r1 => ?_
    walk_at "rd"
    refine rCut (fun σ' H' => ∃ y2, σ' = [some (.ref r), some (.int l), some (.str y1), some (.str y2), none, none] ∧ Nam y2 ∧ SL r H H' ∧ Reel H' r) ?_ ?_
    · walk_at "rd"
      refine use_draw r1 (by omega) fun f H2 i0 i1 s2 r2 => ?_
      walk_at "rd"
      refine ifD (fun _ => ?_) (fun _ => ?_)
      · walk_at "rd"
        refine use_sort r2 fun y2 H3 hy2 s3 r3 => ?_
        walk_at "rd"
        exact ⟨y2, rfl, hy2, (s1.trans s2).trans s3, r3⟩
      · walk_at "rd"
        exact ⟨y1, rfl, hy1, s1.trans s2, r2⟩
    · rintro σ' H2 ⟨y2, rfl, hy2, s2, r2⟩
      walk_at "rd"
      refine newO_gen fun q H3 f3 s3 h3 => ?_
      have r3 := r2.same s3
      have hqr : q ≠ r := (r2.ne f3).symm
      walk_at "rd"
      refine compL_draw h3 hqr r3 (fun acc _ => Nums [-1, 0, 0, 0, -1, 0] acc) (fun _ => .nil _) ?_ ?_
      · intro acc x H4 D c hx pa
        have hx' : ∃ m : Int, x = .int m ∧ ([-1, 0, 0, 0, -1, 0] : List Int)[acc.length]? = some m ∧ -1 ≤ m ∧ m ≤ 0 := by
          have hl := (List.getElem?_eq_some_iff.mp hx).1
          generalize acc.length = j at hx hl
          have hl' : j < 6 := hl
          have : j = 0 ∨ j = 1 ∨ j = 2 ∨ j = 3 ∨ j = 4 ∨ j = 5 := by omega
          rcases this with rfl | rfl | rfl | rfl | rfl | rfl <;> (cases hx; exact ⟨_, rfl, rfl, by decide, by decide⟩)
        obtain ⟨m, rfl, hm, m0, m1⟩ := hx'
        walk_at "rd"
        refine use_count c.reel ⟨m0, m1⟩ fun n H5 hn s5 r5 => ?_
        exact cDH_of c (by decide) s5 r5 fun _ _ => pa.snoc hm hn
      · intro acc H4 D hal pa s4 r4 h4 f4
        obtain ⟨a, b, c, d, e, f, rfl, ha, hb, hc, hd, he, hf⟩ := pa.six hal
        walk_at "rd"
        have hDr : D ≠ r := (r3.ne f4).symm
        refine rCut (fun σ' H' => ∃ (e' f' : Int) (u : Addr) (o : Option V), σ' = [some (.ref r), some (.int l), some (.str y1), some (.str y2), some (.ref u), none] ∧ lim (-1) e' ∧ lim 0 f' ∧ SL r H H' ∧ Reel H' r ∧ H' u = some (.lst [.int a, .int b, .int c, .int d, .int e', .int f']) ∧ u ≠ r) ?_ ?_
        · walk_at "rd"
          refine use_draw r4 (by omega) fun z H5 z0 z1 s5 r5 => ?_
          have h5 : H5 D = some (.lst [.int a, .int b, .int c, .int d, .int e, .int f]) := s5.at hDr h4
          have ss5 : SL r H H5 := ((s2.more s3).trans s4).trans s5
          walk_at "rd"
          refine ifD (fun _ => ?_) (fun _ => ?_)
          · walk_at "rd"
            refine newO_gen fun t1 H6 f6 s6 h6 => ?_
            replace h6 : H6 t1 = some (.lst [.int a, .int b, .int c, .int d]) := h6
            walk_at "rd"
            refine newO_gen fun t2 H7 f7 s7 h7 => ?_
            walk_at "rd"
            refine newO_gen fun t3 H8 f8 s8 h8 => ?_
            have r7 := (r5.same s6).same s7
            walk_at "rd"
            exact ⟨-1, 0, t3, none, rfl, ⟨by decide, by decide⟩, ⟨by decide, by decide⟩, ((ss5.more s6).more s7).more s8, r7.same s8, h8, (r7.ne f8).symm⟩
          · walk_at "rd"
            exact ⟨e, f, D, none, rfl, he, hf, ss5, r5, h5, hDr⟩
        · rintro σ' H6 ⟨e', f', u, o, rfl, he', hf', s6, r6, h6, hu⟩
          walk_at "rd"
          refine newO_gen fun t1 H7 f7 s7 h7 => ?_
          walk_at "rd"
          refine newO_gen fun t2 H8 f8 s8 h8 => ?_
          refine add_tup (s8 _ _ h7) h8 (by simp) (by simp) (by walk_at "sz") ?_
          refine newO_gen fun t3 H9 f9 s9 h9 => ?_
          exact k _ ⟨y1, y2, a, b, c, d, e', f'⟩ H9 ⟨hy1, hy2, ha, hb, hc, hd, he', hf'⟩ (((s6.more s7).more s8).more s9) (((r6.same s7).same s8).same s9) ⟨t3, rfl, h9⟩
theorem cal_law_small_row {f : Addr} {fd : FuncData} (T : Txt mg) (FD : C8.Def K mg "_law_small_row" s_law_small_row f fd) (b : Binds K fd ["reel", "level"] [])
    (c_law_pick : C8.Cal P w K mg base 2 "_law_pick" sp_law_pick [])
    (c_law_draw : C8.Cal P w K mg base 1 "_law_draw" sp_law_draw []) : C8.Cal P w K mg base 3 "_law_small_row" sp_law_small_row [] := by
  refine C8.cal0 FD b .nil sc_law_small_row (fun vs H Q E h => ?_) (fun cdv A outer s H vs Q E hr h => ?_)
  · obtain ⟨r, l, rfl, _⟩ := h; rfl
  · obtain ⟨r, l, rfl, hR, k⟩ := h
    refine ⟨_, (pss_cons (ps_set (i := 2) sc_law_small_row.nd rfl (.inl rfl) (C8.pe_c c_law_pick hr (by decide) (by rfl) (pa_cons (pv 0) (pa_cons pe_str pa_nil))))
  (pss_cons (ps_set (i := 3) sc_law_small_row.nd rfl (.inl rfl) (C8.pe_c c_law_pick hr (by decide) (by rfl) (pa_cons (pv 0) (pa_cons pe_str pa_nil))))
  (pss_cons (ps_setLc (i := 4) (own := [("least", 5)]) rfl sc_law_small_row.nd rfl rfl (sw_true rfl rfl rfl (by decide +kernel)) (pi_listK K (pe_lst (pa_cons (pe_un un_neg pe_int) (pa_cons pe_int (pa_cons pe_int (pa_cons pe_int (pa_cons (pe_un un_neg pe_int) (pa_cons pe_int pa_nil)))))))) (blkOk_by (own := [("least", 5)]) (N := ["reel", "level", "first", "second", "numbers", "least"]) (sc := C8.fnScope s_law_small_row) (by decide +kernel)) (fun _ _ _ _ _ => (pg_name (i := 5) sc_law_small_row.nd rfl (.inl rfl))) (fun _ _ _ _ _ => pts_nil) (fun _ _ _ _ _ => (pe_op (op_addK K) (pv 5) (C8.pe_c c_law_draw hr (by decide) (by rfl) (pa_cons (pv 0) (pa_cons pe_int pa_nil))))))
  (pss_one (ps_ret (pe_op (op_addK K) (pe_tup (pa_cons (pv 1) (pa_cons (pv 2) (pa_cons (pv 3) pa_nil)))) (pe_callTy (call_tupleK K) (by rfl) T.n_tuple (by decide +kernel) (pa_cons (pv 4) pa_nil)))))))), ?_⟩
    show (_ : TS) _ [some (.ref r), some (.int l), none, none, none, none] H
    walk_at "rd"
    refine use_pickC hR (by decide +kernel) (by decide +kernel) fun c1 H1 hc1 s1 r1 => ?_
    walk_at "rd"
    refine use_pickC r1 (by decide +kernel) (by decide +kernel) fun c2 H2 hc2 s2 r2 => ?_
    walk_at "rd"
    refine newO_gen fun q H3 f3 s3 h3 => ?_
    have r3 := r2.same s3
    have hqr : q ≠ r := (r2.ne f3).symm
    have nm : ∀ c : Nat, c ∈ TL.tl ("abcxyz" : Str) → Nam ⟨#[c]⟩ := fun c hc => ⟨by show 1 ≤ 100; omega, ok_sign (ok_of (by decide +kernel)) hc⟩
    walk_at "rd"
    refine compL_draw h3 hqr r3 (fun acc _ => Nums [-1, 0, 0, 0, -1, 0] acc) (fun _ => .nil _) ?_ ?_
    · intro acc x H4 D c hx pa
      have hx' : ∃ m : Int, x = .int m ∧ ([-1, 0, 0, 0, -1, 0] : List Int)[acc.length]? = some m ∧ -1 ≤ m ∧ m ≤ 0 := by
        have hl := (List.getElem?_eq_some_iff.mp hx).1
        generalize acc.length = j at hx hl
        have hl' : j < 6 := hl
        have : j = 0 ∨ j = 1 ∨ j = 2 ∨ j = 3 ∨ j = 4 ∨ j = 5 := by omega
        rcases this with rfl | rfl | rfl | rfl | rfl | rfl <;> (cases hx; exact ⟨_, rfl, rfl, by decide, by decide⟩)
      obtain ⟨m, rfl, hm, m0, m1⟩ := hx'
      walk_at "rd"
      refine use_draw c.reel (by omega) fun n H5 n0 n1 s5 r5 => ?_
      walk_at "rd"
      exact cDH_of c (by decide) s5 r5 fun _ _ => pa.snoc hm ⟨by omega, by omega⟩
    · intro acc H4 D hal pa s4 r4 h4 f4
      obtain ⟨a, b, c, d, e, f, rfl, ha, hb, hc, hd, he, hf⟩ := pa.six hal
      walk_at "rd"
      refine newO_gen fun t1 H7 f7 s7 h7 => ?_
      walk_at "rd"
      refine newO_gen fun t2 H8 f8 s8 h8 => ?_
      refine add_tup (s8 _ _ h7) h8 (by simp) (by simp) (by walk_at "sz") ?_
      refine newO_gen fun t3 H9 f9 s9 h9 => ?_
      exact k _ ⟨⟨#[c1]⟩, ⟨#[c2]⟩, a, b, c, d, e, f⟩ H9 ⟨nm c1 hc1, nm c2 hc2, ha, hb, hc, hd, he, hf⟩ (((((s1.trans s2).more s3).trans s4).more s7).more s8 |>.more s9) (((r4.same s7).same s8).same s9) ⟨t3, rfl, h9⟩
theorem cal_law_tree {f : Addr} {fd : FuncData} (T : Txt mg) (FD : C8.Def K mg "_law_tree" s_law_tree f fd) (b : Binds K fd ["reel"] [])
    (c_law_draw : C8.Cal P w K mg base 1 "_law_draw" sp_law_draw [])
    (c_law_levels : C8.Cal P w K mg base 3 "_law_levels" sp_law_levels [])
    (c_law_comb : C8.Cal P w K mg base 2 "_law_comb" sp_law_comb [])
    (c_law_row : C8.Cal P w K mg base 6 "_law_row" sp_law_row [])
    (c_law_small_row : C8.Cal P w K mg base 3 "_law_small_row" sp_law_small_row [])
    (c_law_pick : C8.Cal P w K mg base 2 "_law_pick" sp_law_pick []) : C8.Cal P w K mg base 7 "_law_tree" sp_law_tree [] := by
  refine C8.cal0 FD b .nil sc_law_tree (fun vs H Q E h => ?_) (fun cdv A outer s H vs Q E hr h => ?_)
  · obtain ⟨r, rfl, _⟩ := h; rfl
  · obtain ⟨r, rfl, hR, k⟩ := h
    refine ⟨_, (pss_cons (ps_set (i := 1) sc_law_tree.nd rfl (.inl rfl) (C8.pe_c c_law_draw hr (by decide) (by rfl) (pa_cons (pv 0) (pa_cons pe_int pa_nil))))
  (pss_cons (ps_if (pt_cmpR (op_eqK K (hu64 hr)) (pv 1) pe_int (nomark _)) (pss_cons (ps_set (i := 2) sc_law_tree.nd rfl (.inl rfl) (C8.pe_c c_law_comb hr (by decide) (by rfl) (pa_cons (pv 0) (pa_cons (pe_op (op_addK K) pe_int (C8.pe_c c_law_draw hr (by decide) (by rfl) (pa_cons (pv 0) (pa_cons pe_int pa_nil)))) pa_nil))))
  (pss_one (ps_ret (pe_lc (own := [("level", 3)]) rfl sc_law_tree.nd (pi_listK K (pv 2)) (blkOk_by (own := [("level", 3)]) (N := ["reel", "form", "levels", "level"]) (sc := C8.fnScope s_law_tree) (by decide +kernel)) (fun _ _ _ _ _ => (pg_name (i := 3) sc_law_tree.nd rfl (.inl rfl))) (fun _ _ _ _ _ => pts_nil) (fun _ _ _ _ _ => (C8.pe_c c_law_small_row hr (by decide) (by rfl) (pa_cons (pv 0) (pa_cons (pv 3) pa_nil)))))))) pss_nil)
  (pss_cons (ps_set (i := 2) sc_law_tree.nd rfl (.inl rfl) (C8.pe_c c_law_levels hr (by decide) (by rfl) (pa_cons (pv 0) pa_nil)))
  (C8.pss_cut (ps_if (pt_cmpR (op_eqK K (hu64 hr)) (pv 1) pe_int (nomark _)) (pss_one (ps_set (i := 2) sc_law_tree.nd rfl (.inl rfl) (C8.pe_c c_law_comb hr (by decide) (by rfl) (pa_cons (pv 0) (pa_cons (pe_op (op_addK K) pe_int (C8.pe_c c_law_draw hr (by decide) (by rfl) (pa_cons (pv 0) (pa_cons pe_int pa_nil)))) pa_nil))))) pss_nil)
  (C8.pss_cut (ps_if (PW.pt (pw_or (pt_cmpR (op_eqK K (hu64 hr)) (pv 1) pe_int (nomark _)) (pw_or1 (pt_cmpR (op_eqK K (hu64 hr)) (pv 1) pe_int (nomark _))))) (pss_one (ps_set (i := 2) sc_law_tree.nd rfl (.inl rfl) (pe_op (op_addK K) (pe_lst (pa_cons pe_int pa_nil)) (pe_op op_mulU (pe_lst (pa_cons pe_int pa_nil)) (C8.pe_c c_law_pick hr (by decide) (by rfl) (pa_cons (pv 0) (pa_cons (pe_lst (pa_cons pe_int (pa_cons pe_int (pa_cons pe_int (pa_cons pe_int (pa_cons pe_int (pa_cons pe_int (pa_cons pe_int (pa_cons pe_int pa_nil))))))))) pa_nil))))))) pss_nil)
  (pss_one (ps_ret (pe_lc (own := [("level", 3)]) rfl sc_law_tree.nd (pi_listK K (pv 2)) (blkOk_by (own := [("level", 3)]) (N := ["reel", "form", "levels", "level"]) (sc := C8.fnScope s_law_tree) (by decide +kernel)) (fun _ _ _ _ _ => (pg_name (i := 3) sc_law_tree.nd rfl (.inl rfl))) (fun _ _ _ _ _ => pts_nil) (fun _ _ _ _ _ => (C8.pe_c c_law_row hr (by decide) (by rfl) (pa_cons (pv 0) (pa_cons (pv 3) pa_nil)))))))))))), ?_⟩
    show (_ : TS) _ [some (.ref r), none, none, none] H
    walk_at "rd"
    refine use_draw hR (by omega) fun fm H1 i0 i1 s1 r1 => ?_
    walk_at "rd"
    refine ifD (fun _ => ?_) (fun _ => ?_)
    · walk_at "rd"
      refine use_draw r1 (by omega) fun n H2 n0 n1 s2 r2 => ?_
      walk_at "rd"
      refine use_comb r2 (by omega) fun p ls H3 s3 r3 f3 h3 hlv hll => ?_
      have hpr : p ≠ r := (r2.ne f3).symm
      walk_at "rd"
      refine compL_draw h3 hpr r3 (fun acc H' => RowsFor ls acc H') (fun _ => .nil) ?_ ?_
      · intro acc x H4 D c hx pa
        rw [List.getElem?_map] at hx
        obtain ⟨l, hl, rfl⟩ := Option.map_eq_some_iff.mp hx
        walk_at "rd"
        refine use_row2 c.reel fun v d H5 hd s5 r5 hv => ?_
        exact cDH_of c (by rw [List.length_map]; omega) s5 r5 fun H6 s6 => pa.snoc ((TpS.sl s5).trans (TpS.sl s6)) hl hd (hv.ts (TpS.sl s6))
      · intro acc H4 D hal pa s4 r4 h4 f4
        rw [List.length_map] at hal
        obtain ⟨rows, g1, g2⟩ := pa.all hal hlv
        have ss : SL r H H3 := (s1.trans s2).trans s3
        exact k D rows H4 (ss.trans s4) r4 (SL.fre ss f4) ⟨acc, h4, g1⟩ (g2.le (by omega))
    · walk_at "rd"
      refine use_levels r1 fun p ls H2 s2 r2 f2 h2 hlv hll => ?_
      have hpr : p ≠ r := (r1.ne f2).symm
      walk_at "rd"
      refine rCut (fun σ' H' => ∃ (q : Addr) (ls : List Int), σ' = [some (.ref r), some (.int fm), some (.ref q), none] ∧ SL r H H' ∧ Reel H' r ∧ q ≠ r ∧ H' q = some (.lst (ls.map V.int)) ∧ LvOk ls ∧ ls.length ≤ 5000) ?_ ?_
      · walk_at "rd"
        refine ifD (fun _ => ?_) (fun _ => ?_)
        · walk_at "rd"
          refine use_draw r2 (by omega) fun n H3 n0 n1 s3 r3 => ?_
          walk_at "rd"
          refine use_comb r3 (by omega) fun p2 ls2 H4 s4 r4 f4 h4 hlv2 hll2 => ?_
          walk_at "rd"
          exact ⟨p2, ls2, rfl, ((s1.trans s2).trans s3).trans s4, r4, (r3.ne f4).symm, h4, hlv2, by omega⟩
        · walk_at "rd"
          exact ⟨p, ls, rfl, s1.trans s2, r2, hpr, h2, hlv, by omega⟩
      · rintro σ' H3 ⟨q, ls, rfl, s3, r3, hqr, h3, hlv, hll⟩
        walk_at "rd"
        refine rCut (fun σ' H' => ∃ (q : Addr) (ls : List Int), σ' = [some (.ref r), some (.int fm), some (.ref q), none] ∧ SL r H H' ∧ Reel H' r ∧ q ≠ r ∧ H' q = some (.lst (ls.map V.int)) ∧ LvOk ls ∧ ls.length ≤ 5000) ?_ ?_
        · have ones : ∀ (Q : VK) H3, SL r H H3 → Reel H3 r → (∀ q H', SL r H H' → Reel H' r → Frs H q → q ≠ r → (∃ ls : List Int, H' q = some (.lst (ls.map V.int)) ∧ LvOk ls ∧ ls.length ≤ 5000) → Q (.ref q) H') →
              tOp (rAddU K) (tLst (tCons (tC (.int 0)) tNil)) (tOp rMulU (tLst (tCons (tC (.int 1)) tNil)) (tCall sp_law_pick [] C8.E0 (tCons (tVar 0) (tCons (tLst (tCons (tC (.int 1)) (tCons (tC (.int 5)) (tCons (tC (.int 30)) (tCons (tC (.int 61)) (tCons (tC (.int 63)) (tCons (tC (.int 64)) (tCons (tC (.int 65)) (tCons (tC (.int 70)) tNil))))))))) tNil)))) [some (.ref r), some (.int fm), some (.ref q), none] H3 Q := by
            intro Q H3 s3 r3 kk
            walk_at "rd"
            refine newO_gen fun p1 H4 f4 s4 h4 => ?_
            walk_at "rd"
            refine newO_gen fun p2 H5 f5 s5 h5 => ?_
            walk_at "rd"
            refine newO_gen fun p3 H6 f6 s6 h6 => ?_
            have r6 := ((r3.same s4).same s5).same s6
            have hp3 : p3 ≠ r := (((r3.same s4).same s5).ne f6).symm
            walk_at "rd"
            refine use_pickI (lo := 1) (hi := 70) r6 h6 hp3 (by decide) (by repeat (first | exact .nil | refine .cons (by omega) ?_)) fun z H7 z0 z1 s7 r7 => ?_
            have hp2 : p2 ≠ r := ((r3.same s4).ne f5).symm
            have hp1 : p1 ≠ r := (r3.ne f4).symm
            refine mul_rep (s7.at hp2 (s6 _ _ h5)) (by omega) (sz_le (by simp; omega)) ?_
            refine newO_gen fun p4 H8 f8 s8 h8 => ?_
            have e1 : (List.replicate z.toNat [V.int 1]).flatten = (List.replicate z.toNat (1 : Int)).map V.int := by
              rw [List.map_replicate]
              induction z.toNat with
              | zero => rfl
              | succ n ih => rw [List.replicate_succ, List.flatten_cons, ih, List.replicate_succ]; rfl
            rw [e1] at h8
            have h8' : H8 p1 = some (.lst [.int 0]) := s8 _ _ (s7.at hp1 (s6 _ _ (s5 _ _ h4)))
            refine add_lst h8' h8 (sz_le (by simp; omega)) ?_
            refine newO_gen fun p5 H9 f9 s9 h9 => ?_
            have s8' : SL r H H8 := ((((s3.more s4).more s5).more s6).trans s7).more s8
            exact kk p5 H9 (s8'.more s9) ((r7.same s8).same s9) (SL.fre s8' f9) ((r7.same s8).ne f9).symm ⟨0 :: List.replicate z.toNat 1, h9, ⟨_, rfl, stI_ones _ _ (by omega)⟩, by rw [List.length_cons, List.length_replicate]; omega⟩
          walk_at "rd"
          refine ifD (fun _ => ?_) (fun _ => ?_)
          · refine ifT (rAsgN (ones _ H3 s3 r3 fun q' H' s' r' f' hq ⟨ls', h', hlv', hll'⟩ => ?_))
            exact ⟨q', ls', rfl, s', r', hq, h', hlv', hll'⟩
          · walk_at "rd"
            refine ifD (fun _ => ?_) (fun _ => ?_)
            · refine rAsgN (ones _ H3 s3 r3 fun q' H' s' r' f' hq ⟨ls', h', hlv', hll'⟩ => ?_)
              exact ⟨q', ls', rfl, s', r', hq, h', hlv', hll'⟩
            · walk_at "rd"
              exact ⟨q, ls, rfl, s3, r3, hqr, h3, hlv, hll⟩
        · rintro σ' H3 ⟨q, ls, rfl, s3, r3, hqr, h3, hlv, hll⟩
          walk_at "rd"
          refine compL_draw h3 hqr r3 (fun acc H' => RowsFor ls acc H') (fun _ => .nil) ?_ ?_
          · intro acc x H4 D c hx pa
            rw [List.getElem?_map] at hx
            obtain ⟨l, hl, rfl⟩ := Option.map_eq_some_iff.mp hx
            walk_at "rd"
            refine use_row1 c.reel fun v d H5 hd s5 r5 hv => ?_
            exact cDH_of c (by rw [List.length_map]; omega) s5 r5 fun H6 s6 => pa.snoc ((TpS.sl s5).trans (TpS.sl s6)) hl hd (hv.ts (TpS.sl s6))
          · intro acc H4 D hal pa s4 r4 h4 f4
            rw [List.length_map] at hal
            obtain ⟨rows, g1, g2⟩ := pa.all hal hlv
            exact k D rows H4 (s3.trans s4) r4 (SL.fre s3 f4) ⟨acc, h4, g1⟩ (g2.le (by omega))
end
end Z
namespace Z
open PySem PySem.Spec L2 ItX
local macro_rules | `(tactic| walk_at "ne") => `(tactic| first
  | with_reducible assumption
  | with_reducible exact Ne.symm (by assumption)
  | exact Frs.ne (by with_reducible assumption) (by walk_at "hp")
  | exact Frs.ne' (by with_reducible assumption) (by walk_at "hp"))
local macro_rules | `(tactic| walk_at "hp") => `(tactic| first
  | with_reducible assumption
  | (with_reducible refine Same.at (by assumption) ?_; walk_at "hp")
  | (with_reducible refine SL.tup (by assumption) ?_; walk_at "hp")
  | (with_reducible refine SL.at (by assumption) (by walk_at "ne") ?_; walk_at "hp"))
local macro_rules | `(tactic| walk_at "sz") => `(tactic| first
  | with_reducible assumption
  | exact Nat.le_of_ble_eq_true rfl
  | (refine sz_le ?_; omega)
  | (refine sz_lt ?_; omega)
  | decide +kernel)
local macro_rules | `(tactic| walk_at "at") => `(tactic| first
  | with_reducible assumption
  | with_reducible exact at0
  | with_reducible exact at1
  | with_reducible exact at2
  | with_reducible exact ixN0)
local macro_rules | `(tactic| walk_at "nn") => `(tactic| first
  | omega
  | decide
  | exact ⟨by decide, by decide⟩
  | exact ⟨by omega, by omega⟩
  | exact ⟨by omega, by omega, by omega, by omega⟩)
local macro_rules | `(tactic| walk_at "rdv") => `(tactic| first
  | (with_reducible refine add_int ?_)
  | (with_reducible refine sub_int ?_)
  | (with_reducible refine neg_int ?_)
  | ((with_reducible refine ix_tpl (xs := ?xs) (v := ?v) ?h1 ?h2 ?_); (case h1 => walk_at "hp"); (case h2 => walk_at "at"))
  | ((with_reducible refine ix_lst (xs := ?xs) (v := ?v) ?h1 ?h2 ?_); (case h1 => walk_at "hp"); (case h2 => walk_at "at"))
  | (with_reducible refine eq_int ?_)
  | (with_reducible refine ne_int ?_)
  | (with_reducible refine lt_int ?_)
  | (with_reducible refine le_int ?_)
  | (with_reducible refine gt_int ?_)
  | (with_reducible refine ge_int ?_)
  | (with_reducible refine eq_str ?_)
  | (with_reducible refine ne_str ?_)
  | (with_reducible refine eq_bl ?_)
  | (with_reducible refine ne_bl ?_)
  | ((with_reducible refine mod_int ?hc ?_); (case hc => walk_at "nn"))
  | ((with_reducible refine div_int ?hc ?_); (case hc => walk_at "nn"))
  | ((with_reducible refine mul_intR ?hc ?_); (case hc => exact ⟨by decide, by decide⟩))
  | ((with_reducible refine mul_intR ?hc ?_); (case hc => exact ⟨by omega, by omega⟩))
  | ((with_reducible refine mul_intL ?hc ?_); (case hc => exact ⟨by omega, by omega⟩))
  | ((with_reducible refine pow_int ?hc ?_); (case hc => exact ⟨by decide, by decide, by decide⟩))
  | ((with_reducible refine add_str ?hc ?_); (case hc => walk_at "sz"))
  | ((with_reducible refine add_lst (xs := ?xs) (ys := ?ys) ?h1 ?h2 ?hc ?_); (case h1 => walk_at "hp"); (case h2 => walk_at "hp"); (case hc => walk_at "sz"))
  | ((with_reducible refine sl_strU ?hc ?_); (case hc => walk_at "sz"))
  | ((with_reducible refine sl_lst (xs := ?xs) ?h1 ?_); (case h1 => walk_at "hp"))
  | (with_reducible refine is_bl ?_)
  | (with_reducible refine isnt_bl ?_)
  | (with_reducible refine is_non ?_)
  | (with_reducible refine isnt_non ?_))
local macro_rules | `(tactic| walk_at "rdc") => `(tactic| first
  | ((with_reducible refine len_lst (xs := ?xs) ?h1 ?_); (case h1 => walk_at "hp"))
  | ((with_reducible refine len_tup (xs := ?xs) ?h1 ?_); (case h1 => walk_at "hp"))
  | ((with_reducible refine len_str ?hc ?_); (case hc => walk_at "sz"))
  | (with_reducible refine int_int ?_)
  | (with_reducible refine max_int ?_)
  | (with_reducible refine min_int ?_)
  | (with_reducible refine abs_int ?_)
  | (with_reducible refine isi_ii ?_)
  | (with_reducible refine isi_ib ?_)
  | (with_reducible refine isi_ss ?_)
  | (with_reducible refine isi_bb ?_)
  | ((with_reducible refine isi_tt (xs := ?xs) ?h1 ?_); (case h1 => walk_at "hp"))
  | ((with_reducible refine isi_ll (xs := ?xs) ?h1 ?_); (case h1 => walk_at "hp"))
  | ((with_reducible refine list_lst (xs := ?xs) ?h1 ?_); (case h1 => walk_at "hp"))
  | ((with_reducible refine list_tup (xs := ?xs) ?h1 ?_); (case h1 => walk_at "hp"))
  | ((with_reducible refine tuple_lst (xs := ?xs) ?h1 ?_); (case h1 => walk_at "hp"))
  | ((with_reducible refine tuple_tup (xs := ?xs) ?h1 ?_); (case h1 => walk_at "hp"))
  | ((with_reducible refine append_lst (xs := ?xs) ?h1 ?hc ?_); (case h1 => walk_at "hp"); (case hc => walk_at "sz"))
  | ((with_reducible refine clear_lst (xs := ?xs) ?h1 ?_); (case h1 => walk_at "hp"))
  | ((with_reducible refine set_lst (xs := ?xs) (k := ?k) ?h1 ?h2 ?_); (case h1 => walk_at "hp"); (case h2 => walk_at "at")))
local macro_rules | `(tactic| walk_at "rd1") => `(tactic| first
  | ((with_reducible refine rVar (v := ?v) ?h ?_); (case h => exact rfl))
  | (with_reducible refine rC ?_)
  | (with_reducible refine rCons ?_)
  | (with_reducible refine rNil ?_)
  | (with_reducible refine rOp ?_)
  | (with_reducible refine rSeq ?_)
  | (with_reducible refine rAsgN ?_)
  | (with_reducible refine rAsgT ?_)
  | (with_reducible refine rAsgS ?_)
  | (with_reducible refine rTest ?_)
  | (with_reducible refine rBl ?_)
  | (with_reducible refine rBl' ?_)
  | (with_reducible refine rInt ?_)
  | (with_reducible refine rInt' ?_)
  | (with_reducible refine rCall ?_)
  | (with_reducible refine rCB ?_)
  | (with_reducible refine rRet ?_)
  | (with_reducible refine rDrop ?_)
  | (with_reducible refine rIfS ?_)
  | (with_reducible refine rTup ?_)
  | (with_reducible refine rLst ?_)
  | (with_reducible refine ⟨Nat.le_of_ble_eq_true rfl, ?_⟩)
  | (with_reducible refine rSl ?_)
  | (with_reducible refine rPart ?_)
  | (with_reducible refine rNoPart ?_)
  | (with_reducible refine rBM ?_)
  | (with_reducible refine rBM0 ?_)
  | ((with_reducible refine tyL (xs := ?xs) ?h1 ?_); (case h1 => walk_at "hp"))
  | (with_reducible refine rM1 ?_)
  | (with_reducible refine rM0 ?_)
  | (with_reducible refine rStr ?_)
  | (with_reducible refine rTru ?_)
  | (with_reducible refine tru_bl ?_)
  | (with_reducible refine tru_int ?_)
  | ((with_reducible refine tru_lst (xs := ?xs) ?h1 ?_); (case h1 => walk_at "hp"))
  | ((with_reducible refine tru_tup (xs := ?xs) ?h1 ?_); (case h1 => walk_at "hp"))
  | ((with_reducible refine tru_str ?hc ?_); (case hc => walk_at "sz"))
  | (with_reducible refine rAnd ?_)
  | (with_reducible refine rOr ?_)
  | (with_reducible refine rNot ?_)
  | (with_reducible refine rAndV ?_)
  | (with_reducible refine rOrV ?_)
  | (with_reducible refine rNotV ?_)
  | (with_reducible refine rIfE ?_)
  | (with_reducible refine rChain ?_)
  | (with_reducible refine rChain3 ?_)
  | (with_reducible refine ifT ?_)
  | (with_reducible refine ifF ?_)
  | (with_reducible refine ifNF ?_)
  | (with_reducible refine ifNT ?_)
  | (with_reducible refine rNext ?_)
  | (with_reducible refine rBrk ?_)
  | (with_reducible refine rCnt ?_)
  | (with_reducible refine rRetN ?_)
  | (with_reducible refine rForR1 ?_)
  | (with_reducible refine rForR2 ?_)
  | (with_reducible refine rForL ?_)
  | ((with_reducible refine rRg1 ?hb ?_); (case hb => walk_at "nn"))
  | ((with_reducible refine rRg2 ?hb ?_); (case hb => walk_at "nn"))
  | ((with_reducible refine rRf (xs := ?xs) ?h1 ?_); (case h1 => walk_at "hp"))
  | (with_reducible refine rLcR1 ?_)
  | (with_reducible refine rLcR2 ?_)
  | (with_reducible refine rLcL ?_)
  | (with_reducible refine gN ?_)
  | (with_reducible refine gNl ?_)
  | (with_reducible refine gC ?_)
  | ((with_reducible refine gT (xs := ?xs) ?h1 ?h2 ?_); (case h1 => walk_at "hp"); (case h2 => exact rfl))
  | (with_reducible refine rUn ?_)
  | walk_at "rdv"
  | walk_at "rdc")
local macro_rules | `(tactic| walk_at "rd") => `(tactic| repeat walk_at "rd1")

local macro_rules | `(tactic| walk_at "rd1") => `(tactic| first
  | (with_reducible refine rCallS ?_)
  | (with_reducible refine rRaise ?_)
  | (with_reducible refine rXf ?_)
  | (with_reducible refine rXi ?_)
  | (with_reducible refine rOst ?_)
  | (with_reducible refine rRevL ?_)
  | ((with_reducible refine revL_end (xs := ?xs) ?h1 ?_); (case h1 => walk_at "hp")))

local macro_rules | `(tactic| walk_at "rd1") => `(tactic| first
  | (with_reducible refine rForR3 ?_)
  | ((with_reducible refine rRgD ?hb ?_); (case hb => walk_at "nn"))
  | (with_reducible refine gS ?_))

local macro_rules | `(tactic| walk_at "rd1") => `(tactic| first
  | (with_reducible refine rFld ?_)
  | (with_reducible refine rSFld ?_)
  | (with_reducible refine rMake ?_)
  | (with_reducible refine rMeth ?_)
  | (with_reducible refine rForT ?_)
  | (with_reducible refine rLcT ?_)
  | (with_reducible refine rLcO ?_)
  | (with_reducible refine rForO ?_)
  | (with_reducible refine rLstY ?_)
  | ((with_reducible refine rRt (xs := ?xs) ?h1 ?_); (case h1 => walk_at "hp"))
  | ((with_reducible refine listY_lst (xs := ?xs) ?h1 ?_); (case h1 => walk_at "hp"))
  | ((with_reducible refine listY_tup (xs := ?xs) ?h1 ?_); (case h1 => walk_at "hp")))

local macro_rules | `(tactic| walk_at "hp") => `(tactic| first
  | (with_reducible refine SL.ins (by assumption) ?_; walk_at "hp"))
local macro_rules | `(tactic| walk_at "at") => `(tactic| first
  | with_reducible exact at3
  | with_reducible exact at4
  | with_reducible exact at5
  | with_reducible exact at6
  | with_reducible exact at7
  | with_reducible exact at8)
local macro_rules | `(tactic| walk_at "rd1") => `(tactic| first
  | (with_reducible refine rMkWK ?_)
  | (with_reducible refine rForS ?_)
  | (with_reducible refine rDGet ?_)
  | (with_reducible refine rDPut ?_)
  | (with_reducible refine rIts ?_)
  | (with_reducible refine rLstRg ?_)
  | ((with_reducible refine reverse_lst (xs := ?xs) ?h1 ?_); (case h1 => walk_at "hp"))
  | ((with_reducible refine extend_lst (xs := ?xs) (ys := ?ys) ?h1 ?h2 ?hc ?_); (case h1 => walk_at "hp"); (case h2 => walk_at "hp"); (case hc => walk_at "sz"))
  | ((with_reducible refine fN_kind (mg := ?mg) (C := ?C) (dx := ?dx) (d := ?d) (ns := ?ns) ?hu ?hp ?_); (case hu => with_reducible assumption); (case hp => walk_at "hp"))
  | ((with_reducible refine fN_symbol (mg := ?mg) (C := ?C) (dx := ?dx) (d := ?d) (ns := ?ns) ?hu ?hp ?_); (case hu => with_reducible assumption); (case hp => walk_at "hp"))
  | ((with_reducible refine fN_state (mg := ?mg) (C := ?C) (dx := ?dx) (d := ?d) (ns := ?ns) ?hu ?hp ?_); (case hu => with_reducible assumption); (case hp => walk_at "hp"))
  | ((with_reducible refine fN_lead (mg := ?mg) (C := ?C) (dx := ?dx) (d := ?d) (ns := ?ns) ?hu ?hp ?_); (case hu => with_reducible assumption); (case hp => walk_at "hp"))
  | ((with_reducible refine fN_width (mg := ?mg) (C := ?C) (dx := ?dx) (d := ?d) (ns := ?ns) ?hu ?hp ?_); (case hu => with_reducible assumption); (case hp => walk_at "hp"))
  | ((with_reducible refine fN_look (mg := ?mg) (C := ?C) (dx := ?dx) (d := ?d) (ns := ?ns) ?hu ?hp ?_); (case hu => with_reducible assumption); (case hp => walk_at "hp"))
  | ((with_reducible refine fN_alternative (mg := ?mg) (C := ?C) (dx := ?dx) (d := ?d) (ns := ?ns) ?hu ?hp ?_); (case hu => with_reducible assumption); (case hp => walk_at "hp"))
  | ((with_reducible refine fN_nodes (mg := ?mg) (C := ?C) (dx := ?dx) (d := ?d) (ns := ?ns) ?hu ?hp ?_); (case hu => with_reducible assumption); (case hp => walk_at "hp"))
  | ((with_reducible refine fN_popped (mg := ?mg) (C := ?C) (dx := ?dx) (d := ?d) (ns := ?ns) ?hu ?hp ?_); (case hu => with_reducible assumption); (case hp => walk_at "hp")))

def sp_law_place : Sp := fun vs H Q _ => ∃ (r : Addr) (n : Int), vs = [.ref r, .int n] ∧ Reel H r ∧ 0 < n ∧ ∀ (i : Int) (H' : Hp), 0 ≤ i → i < n → SL r H H' → Reel H' r → Q (.int i) H'
theorem use_place {r : Addr} {n : Int} {H : Hp} {Q : VK} {E : XK} (hR : Reel H r) (hn : 0 < n) (h : ∀ (i : Int) (H' : Hp), 0 ≤ i → i < n → SL r H H' → Reel H' r → Q (.int i) H') : sp_law_place [.ref r, .int n] H Q E := ⟨r, n, rfl, hR, hn, h⟩
def sp_law_other : Sp := fun vs H Q _ => ∃ (r : Addr) (v : V) (x : Rw) (n : Int), vs = [.ref r, v, .int n] ∧ Reel H r ∧ RowAt H v x ∧ DtOk x.d ∧ 1 ≤ n ∧ n ≤ 8 ∧ ∀ (v' : V) (d : Dt) (H' : Hp), DtOk d → SL r H H' → Reel H' r → RowAt H' v' ⟨x.lv, d⟩ → Q v' H'
theorem use_other {r : Addr} {v : V} {x : Rw} {n : Int} {H : Hp} {Q : VK} {E : XK} (hR : Reel H r) (hv : RowAt H v x) (hd : DtOk x.d) (hn : 1 ≤ n ∧ n ≤ 8) (h : ∀ (v' : V) (d : Dt) (H' : Hp), DtOk d → SL r H H' → Reel H' r → RowAt H' v' ⟨x.lv, d⟩ → Q v' H') : sp_law_other [.ref r, v, .int n] H Q E := ⟨r, v, x, n, rfl, hR, hv, hd, hn.1, hn.2, h⟩
def sp_law_end : Sp := fun vs H Q _ => ∃ (p : Addr) (rows : List Rw) (a : Nat), vs = [.ref p, .int a] ∧ RowsIn H p rows ∧ a < rows.length ∧ rows.length ≤ 1000000 ∧ Q (.int (endN rows a)) H
theorem use_end {p : Addr} {rows : List Rw} {a : Int} {H : Hp} {Q : VK} {E : XK} (hp : RowsIn H p rows) (h0 : 0 ≤ a) (ha : a.toNat < rows.length) (hl : rows.length ≤ 1000000) (h : Q (.int (endN rows a.toNat)) H) : sp_law_end [.ref p, .int a] H Q E := by
  obtain ⟨n, rfl⟩ := Int.eq_ofNat_of_zero_le h0
  exact ⟨p, rows, n, rfl, hp, ha, hl, h⟩
def sp_law_change : Sp := fun vs H Q _ => ∃ (r p : Addr) (rows : List Rw) (n : Nat), vs = [.ref r, .ref p] ∧ Reel H r ∧ p ≠ r ∧ RowsIn H p rows ∧ Grow n rows ∧ n ≤ 100000 ∧
  ∀ (q : Addr) (rows' : List Rw) (H' : Hp), SL r H H' → Reel H' r → Frs H q → RowsIn H' q rows' → Grow (n + 1) rows' → Q (.ref q) H'
theorem use_change {r p : Addr} {rows : List Rw} {n : Nat} {H : Hp} {Q : VK} {E : XK} (hR : Reel H r) (hp : p ≠ r) (hr : RowsIn H p rows) (hg : Grow n rows) (hn : n ≤ 100000)
    (h : ∀ (q : Addr) (rows' : List Rw) (H' : Hp), SL r H H' → Reel H' r → Frs H q → RowsIn H' q rows' → Grow (n + 1) rows' → Q (.ref q) H') : sp_law_change [.ref r, .ref p] H Q E := ⟨r, p, rows, n, rfl, hR, hp, hr, hg, hn, h⟩
theorem RowsIn.sl {H H' : Hp} {r p : Addr} {rows : List Rw} (h : RowsIn H p rows) (s : SL r H H') (n : p ≠ r) : RowsIn H' p rows := let ⟨vs, e, q⟩ := h; ⟨vs, s.keep _ _ n e, q.ts (TpS.sl s)⟩
theorem RowsIn.sm {H H' : Hp} {p : Addr} {rows : List Rw} (h : RowsIn H p rows) (s : Same H H') : RowsIn H' p rows := let ⟨vs, e, q⟩ := h; ⟨vs, s _ _ e, q.ts (TpS.same s)⟩
theorem RowsIn.frs {H : Hp} {p q : Addr} {rows : List Rw} (h : RowsIn H p rows) (f : Frs H q) : p ≠ q := let ⟨_, e, _⟩ := h; f.ne e
theorem Grow.of {n m : Nat} {rows rows' : List Rw} (h : Grow n rows) (t : Tre rows') (l : rows'.length ≤ m) (ok : ∀ x ∈ rows', x ∈ rows ∨ DtOk x.d) : Grow m rows' := ⟨t, l, fun x hx => (ok x hx).elim (h.ok x) id⟩
theorem lim_sub {a n z : Int} (h : lim a n) (h0 : 0 < n) (ha : a ≤ 0) (z0 : 0 ≤ z) (z1 : z < 2) : lim a ((n - 1) * z) := by
  have : z = 0 ∨ z = 1 := by omega
  rcases this with rfl | rfl
  · exact ⟨by omega, by omega⟩
  · have := h.2
    exact ⟨by omega, by omega⟩
theorem lim_up {a n z : Int} (h : lim a n) (h0 : ¬ 0 < n) (z0 : 0 ≤ z) (z1 : z < 9) : lim a (n + 1 + z) := by
  have := h.1
  exact ⟨by omega, by omega⟩
section
variable {P : Program} {w : World} {K : PySem.W.Frag} {mg : Str → Option Value} {base : Heap} {aNode aNil : Addr}
theorem cal_law_place {f : Addr} {fd : FuncData} (T : Txt mg) (FD : C8.Def K mg "_law_place" s_law_place f fd) (b : Binds K fd ["reel", "size"] [])
    (c_law_draw : C8.Cal P w K mg base 1 "_law_draw" sp_law_draw []) : C8.Cal P w K mg base 2 "_law_place" sp_law_place [] := by
  refine C8.cal0 FD b .nil sc_law_place (fun vs H Q E h => ?_) (fun cdv A outer s H vs Q E hr h => ?_)
  · obtain ⟨r, n, rfl, _⟩ := h; rfl
  · obtain ⟨r, n, rfl, hR, hn, k⟩ := h
    refine ⟨_, (pss_one (ps_ret (pe_op op_modU (pe_callTy call_intU (by rfl) T.n_int (by decide +kernel) (pa_cons (pe_op (op_addK K) (pe_op op_mulU (C8.pe_c c_law_draw hr (by decide) (by rfl) (pa_cons (pv 0) (pa_cons pe_int pa_nil))) pe_int) (C8.pe_c c_law_draw hr (by decide) (by rfl) (pa_cons (pv 0) (pa_cons pe_int pa_nil)))) pa_nil)) (pv 1)))), ?_⟩
    show (_ : TS) _ [some (.ref r), some (.int n)] H
    walk_at "rd"
    refine use_draw hR (by omega) fun a H1 a0 a1 s1 r1 => ?_
    walk_at "rd"
    refine use_draw r1 (by omega) fun b H2 b0 b1 s2 r2 => ?_
    walk_at "rd"
    exact k _ H2 (Int.emod_nonneg _ (by omega)) (Int.emod_lt_of_pos _ hn) (s1.trans s2) r2
theorem cal_law_other {f : Addr} {fd : FuncData} (T : Txt mg) (FD : C8.Def K mg "_law_other" s_law_other f fd) (b : Binds K fd ["reel", "row", "slot"] [])
    (c_law_sort : C8.Cal P w K mg base 5 "_law_sort" sp_law_sort [])
    (c_law_draw : C8.Cal P w K mg base 1 "_law_draw" sp_law_draw []) : C8.Cal P w K mg base 6 "_law_other" sp_law_other [] := by
  refine C8.cal0 FD b .nil sc_law_other (fun vs H Q E h => ?_) (fun cdv A outer s H vs Q E hr h => ?_)
  · obtain ⟨r, v, x, n, rfl, _⟩ := h; rfl
  · obtain ⟨r, v, ⟨lv, d⟩, n, rfl, hR, ⟨p, rfl, hp⟩, hd, hn1, hn8, k⟩ := h
    refine ⟨_, (pss_cons (ps_set (i := 3) sc_law_other.nd rfl (.inl rfl) (pe_callTy (call_listK K) (by rfl) T.n_list (by decide +kernel) (pa_cons (pv 1) pa_nil)))
  (C8.pss_cut (ps_if (pt_cmpR op_ltU (pv 2) pe_int (nomark _)) (pss_one (ps_asg (C8.pe_c c_law_sort hr (by decide) (by rfl) (pa_cons (pv 0) pa_nil)) (pg_sub (pv 3) (pv 2) set_list))) (pss_one (ps_if (pt_cmpR op_gtU (pe_ix (ix_K K) (pv 3) (pv 2) (fun _ _ => rfl)) pe_int (nomark _)) (pss_one (ps_asg (pe_op op_mulU (pe_op op_subU (pe_ix (ix_K K) (pv 3) (pv 2) (fun _ _ => rfl)) pe_int) (C8.pe_c c_law_draw hr (by decide) (by rfl) (pa_cons (pv 0) (pa_cons pe_int pa_nil)))) (pg_sub (pv 3) (pv 2) set_list))) (pss_one (ps_asg (pe_op (op_addK K) (pe_op (op_addK K) (pe_ix (ix_K K) (pv 3) (pv 2) (fun _ _ => rfl)) pe_int) (C8.pe_c c_law_draw hr (by decide) (by rfl) (pa_cons (pv 0) (pa_cons pe_int pa_nil)))) (pg_sub (pv 3) (pv 2) set_list))))))
  (pss_one (ps_ret (pe_callTy (call_tupleK K) (by rfl) T.n_tuple (by decide +kernel) (pa_cons (pv 3) pa_nil)))))), ?_⟩
    show (_ : TS) _ [some (.ref r), some (.ref p), some (.int n), none] H
    obtain ⟨dk, ds, a, b, c, e, f, g⟩ := d
    obtain ⟨o1, o2, o3, o4, o5, o6, o7, o8⟩ := hd
    replace hp : H p = some (.tup [.int lv, .str dk, .str ds, .int a, .int b, .int c, .int e, .int f, .int g]) := hp
    walk_at "rd"
    refine newO_gen fun q H1 f1 s1 h1 => ?_
    have r1 := hR.same s1
    have hqr : q ≠ r := (hR.ne f1).symm
    walk_at "rd"
    refine rCut (fun σ' H' => ∃ d' : Dt, σ' = [some (.ref r), some (.ref p), some (.int n), some (.ref q)] ∧ SL r H H' ∧ Reel H' r ∧ H' q = some (.lst (rwV ⟨lv, d'⟩)) ∧ DtOk d') ?_ ?_
    · walk_at "rd"
      refine ifD (fun hc => ?_) (fun hc => ?_)
      · walk_at "rd"
        refine use_sort r1 fun y H2 hy s2 r2 => ?_
        have h2 := s2.at hqr h1
        have s02 : SL r H H2 := (hR.sl0 s1).trans s2
        have : n = 1 ∨ n = 2 := by omega
        rcases this with rfl | rfl
        · walk_at "rd"
          refine set_lst (k := 1) h2 (by show ixN 9 _ = _; decide) ?_
          refine putO_gen h2 fun H3 s3 h3 => ?_
          exact ⟨⟨y, ds, a, b, c, e, f, g⟩, rfl, s02.two s3 f1, r2.sl s3 hqr.symm, h3, hy, o2, o3, o4, o5, o6, o7, o8⟩
        · walk_at "rd"
          refine set_lst (k := 2) h2 (by show ixN 9 _ = _; decide) ?_
          refine putO_gen h2 fun H3 s3 h3 => ?_
          exact ⟨⟨dk, y, a, b, c, e, f, g⟩, rfl, s02.two s3 f1, r2.sl s3 hqr.symm, h3, o1, hy, o3, o4, o5, o6, o7, o8⟩
      · have key : ∃ (m l : Int) (k : Nat), atI [V.int lv, .str dk, .str ds, .int a, .int b, .int c, .int e, .int f, .int g] n = some (.int m) ∧ ixN [V.int lv, .str dk, .str ds, .int a, .int b, .int c, .int e, .int f, .int g].length n = some k ∧ lim l m ∧ l ≤ 0 ∧
            ∀ m', lim l m' → ∃ d' : Dt, [V.int lv, .str dk, .str ds, .int a, .int b, .int c, .int e, .int f, .int g].set k (.int m') = rwV ⟨lv, d'⟩ ∧ DtOk d' := by
          have : n = 3 ∨ n = 4 ∨ n = 5 ∨ n = 6 ∨ n = 7 ∨ n = 8 := by omega
          rcases this with rfl | rfl | rfl | rfl | rfl | rfl
          · exact ⟨a, -1, 3, at_of (j := 3) rfl rfl, (by show ixN 9 _ = _; decide), o3, by decide, fun m' h => ⟨⟨dk, ds, m', b, c, e, f, g⟩, rfl, o1, o2, h, o4, o5, o6, o7, o8⟩⟩
          · exact ⟨b, 0, 4, at_of (j := 4) rfl rfl, (by show ixN 9 _ = _; decide), o4, by decide, fun m' h => ⟨⟨dk, ds, a, m', c, e, f, g⟩, rfl, o1, o2, o3, h, o5, o6, o7, o8⟩⟩
          · exact ⟨c, 0, 5, at_of (j := 5) rfl rfl, (by show ixN 9 _ = _; decide), o5, by decide, fun m' h => ⟨⟨dk, ds, a, b, m', e, f, g⟩, rfl, o1, o2, o3, o4, h, o6, o7, o8⟩⟩
          · exact ⟨e, 0, 6, at_of (j := 6) rfl rfl, (by show ixN 9 _ = _; decide), o6, by decide, fun m' h => ⟨⟨dk, ds, a, b, c, m', f, g⟩, rfl, o1, o2, o3, o4, o5, h, o7, o8⟩⟩
          · exact ⟨f, -1, 7, at_of (j := 7) rfl rfl, (by show ixN 9 _ = _; decide), o7, by decide, fun m' h => ⟨⟨dk, ds, a, b, c, e, m', g⟩, rfl, o1, o2, o3, o4, o5, o6, h, o8⟩⟩
          · exact ⟨g, 0, 8, at_of (j := 8) rfl rfl, (by show ixN 9 _ = _; decide), o8, by decide, fun m' h => ⟨⟨dk, ds, a, b, c, e, f, m'⟩, rfl, o1, o2, o3, o4, o5, o6, o7, h⟩⟩
        generalize hws : [V.int lv, .str dk, .str ds, .int a, .int b, .int c, .int e, .int f, .int g] = ws at key h1
        obtain ⟨m, l, kk, hat, hix, hm, hl, hset⟩ := key
        walk_at "rd"
        refine ifD (fun hg => ?_) (fun hg => ?_)
        · walk_at "rd"
          refine use_draw r1 (by omega) fun z H2 z0 z1 s2 r2 => ?_
          have h2 := s2.at hqr h1
          have s02 : SL r H H2 := (hR.sl0 s1).trans s2
          walk_at "rd"
          refine putO_gen h2 fun H3 s3 h3 => ?_
          obtain ⟨d', e', ok⟩ := hset _ (lim_sub hm hg hl z0 z1)
          rw [e'] at h3
          exact ⟨d', rfl, s02.two s3 f1, r2.sl s3 hqr.symm, h3, ok⟩
        · walk_at "rd"
          refine use_draw r1 (by omega) fun z H2 z0 z1 s2 r2 => ?_
          have h2 := s2.at hqr h1
          have s02 : SL r H H2 := (hR.sl0 s1).trans s2
          walk_at "rd"
          refine putO_gen h2 fun H3 s3 h3 => ?_
          obtain ⟨d', e', ok⟩ := hset _ (lim_up hm hg z0 z1)
          rw [e'] at h3
          exact ⟨d', rfl, s02.two s3 f1, r2.sl s3 hqr.symm, h3, ok⟩
    · rintro σ' H2 ⟨d', rfl, s2, r2, h2, ok⟩
      walk_at "rd"
      refine newO_gen fun t H3 f3 s3 h3 => ?_
      exact k _ d' H3 ok (s2.more s3) (r2.same s3) ⟨t, rfl, h3⟩
theorem cal_law_end {f : Addr} {fd : FuncData} (T : Txt mg) (FD : C8.Def K mg "_law_end" s_law_end f fd) (b : Binds K fd ["rows", "at"] []) : C8.Cal P w K mg base 1 "_law_end" sp_law_end [] := by
  refine C8.cal0 FD b .nil sc_law_end (fun vs H Q E h => ?_) (fun cdv A outer s H vs Q E hr h => ?_)
  · obtain ⟨p, rows, a, rfl, _⟩ := h; rfl
  · obtain ⟨p, rows, a, rfl, ⟨vs, hp, hr⟩, ha, hl, k⟩ := h
    refine ⟨_, (pss_cons (ps_set (i := 2) sc_law_end.nd rfl (.inl rfl) (pe_op (op_addK K) (pv 1) pe_int))
  (pss_cons (ps_while PassesOwn.never (PW.pt (pw_and (pt_cmpR op_ltU (pv 2) (pe_callB (call_lenK K) (by rfl) T.n_len PySem.boot_len (pa_cons (pv 0) pa_nil)) (nomark _)) (pw_and1 (pt_cmpR op_gtU (pe_ix (ix_K K) (pe_ix (ix_K K) (pv 0) (pv 2) (fun _ _ => rfl)) pe_int (fun _ _ => rfl)) (pe_ix (ix_K K) (pe_ix (ix_K K) (pv 0) (pv 1) (fun _ _ => rfl)) pe_int (fun _ _ => rfl)) (nomark _))))) (pss_one (ps_set (i := 2) sc_law_end.nd rfl (.inl rfl) (pe_op (op_addK K) (pv 2) pe_int))))
  (pss_one (ps_ret (pv 2))))), ?_⟩
    show (_ : TS) _ [some (.ref p), some (.int a), none] H
    have hvl := Paired.len hr
    obtain ⟨x, hx⟩ : ∃ x, rows[a]? = some x := ⟨_, List.getElem?_eq_getElem ha⟩
    obtain ⟨va, hva, pa, rfl, hpa⟩ := Paired.at' hr hx
    have hata : atI vs (a : Int) = some (.ref pa) := atI_nat hva
    replace hpa : H pa = some (.tup [.int x.lv, .str x.d.k, .str x.d.s, .int x.d.st, .int x.d.ld, .int x.d.wd, .int x.d.lk, .int x.d.al, .int x.d.pp]) := hpa
    have hb := endN_in (rows := rows) (a := a)
    walk_at "rd"
    refine whileM (fun m σ' H' => ∃ j : Nat, σ' = [some (.ref p), some (.int a), some (.int j)] ∧ H' = H ∧ a < j ∧ j ≤ endN rows a ∧ m = endN rows a - j) (m := endN rows a - (a + 1)) ⟨a + 1, rfl, rfl, by omega, by unfold endN; omega, rfl⟩ ?_
    rintro m σ' H' ⟨j, rfl, rfl, hj1, hj2, rfl⟩
    walk_at "rd"
    refine ifD (fun hc => ?_) (fun hc => ?_)
    · have hjl : j < rows.length := by omega
      obtain ⟨y, hy⟩ : ∃ y, rows[j]? = some y := ⟨_, List.getElem?_eq_getElem hjl⟩
      obtain ⟨vj, hvj, pj, rfl, hpj⟩ := Paired.at' hr hy
      have hatj : atI vs (j : Int) = some (.ref pj) := atI_nat hvj
      replace hpj : H' pj = some (.tup [.int y.lv, .str y.d.k, .str y.d.s, .int y.d.st, .int y.d.ld, .int y.d.wd, .int y.d.lk, .int y.d.al, .int y.d.pp]) := hpj
      walk_at "rd"
      refine ifD (fun hg => ?_) (fun hg => ?_)
      · refine wGo ?_
        have := endN_go hx hj1 hj2 hy hg
        walk_at "rd"
        exact ⟨_, by omega, j + 1, rfl, rfl, by omega, by omega, rfl⟩
      · rw [← endN_stop hx hj1 hj2 hy hg] at k
        walk_at "rd"
        exact k
    · have : j = endN rows a := by omega
      rw [← this] at k
      walk_at "rd"
      exact k
end
end Z
namespace Z
open PySem PySem.Spec L2 ItX
local macro_rules | `(tactic| walk_at "ne") => `(tactic| first
  | with_reducible assumption
  | with_reducible exact Ne.symm (by assumption)
  | exact Frs.ne (by with_reducible assumption) (by walk_at "hp")
  | exact Frs.ne' (by with_reducible assumption) (by walk_at "hp"))
local macro_rules | `(tactic| walk_at "hp") => `(tactic| first
  | with_reducible assumption
  | (with_reducible refine Same.at (by assumption) ?_; walk_at "hp")
  | (with_reducible refine SL.tup (by assumption) ?_; walk_at "hp")
  | (with_reducible refine SL.at (by assumption) (by walk_at "ne") ?_; walk_at "hp"))
local macro_rules | `(tactic| walk_at "sz") => `(tactic| first
  | with_reducible assumption
  | exact Nat.le_of_ble_eq_true rfl
  | (refine sz_le ?_; omega)
  | (refine sz_lt ?_; omega)
  | decide +kernel)
local macro_rules | `(tactic| walk_at "at") => `(tactic| first
  | with_reducible assumption
  | with_reducible exact at0
  | with_reducible exact at1
  | with_reducible exact at2
  | with_reducible exact ixN0)
local macro_rules | `(tactic| walk_at "nn") => `(tactic| first
  | omega
  | decide
  | exact ⟨by decide, by decide⟩
  | exact ⟨by omega, by omega⟩
  | exact ⟨by omega, by omega, by omega, by omega⟩)
local macro_rules | `(tactic| walk_at "rdv") => `(tactic| first
  | (with_reducible refine add_int ?_)
  | (with_reducible refine sub_int ?_)
  | (with_reducible refine neg_int ?_)
  | ((with_reducible refine ix_tpl (xs := ?xs) (v := ?v) ?h1 ?h2 ?_); (case h1 => walk_at "hp"); (case h2 => walk_at "at"))
  | ((with_reducible refine ix_lst (xs := ?xs) (v := ?v) ?h1 ?h2 ?_); (case h1 => walk_at "hp"); (case h2 => walk_at "at"))
  | (with_reducible refine eq_int ?_)
  | (with_reducible refine ne_int ?_)
  | (with_reducible refine lt_int ?_)
  | (with_reducible refine le_int ?_)
  | (with_reducible refine gt_int ?_)
  | (with_reducible refine ge_int ?_)
  | (with_reducible refine eq_str ?_)
  | (with_reducible refine ne_str ?_)
  | (with_reducible refine eq_bl ?_)
  | (with_reducible refine ne_bl ?_)
  | ((with_reducible refine mod_int ?hc ?_); (case hc => walk_at "nn"))
  | ((with_reducible refine div_int ?hc ?_); (case hc => walk_at "nn"))
  | ((with_reducible refine mul_intR ?hc ?_); (case hc => exact ⟨by decide, by decide⟩))
  | ((with_reducible refine mul_intR ?hc ?_); (case hc => exact ⟨by omega, by omega⟩))
  | ((with_reducible refine mul_intL ?hc ?_); (case hc => exact ⟨by omega, by omega⟩))
  | ((with_reducible refine pow_int ?hc ?_); (case hc => exact ⟨by decide, by decide, by decide⟩))
  | ((with_reducible refine add_str ?hc ?_); (case hc => walk_at "sz"))
  | ((with_reducible refine add_lst (xs := ?xs) (ys := ?ys) ?h1 ?h2 ?hc ?_); (case h1 => walk_at "hp"); (case h2 => walk_at "hp"); (case hc => walk_at "sz"))
  | ((with_reducible refine sl_strU ?hc ?_); (case hc => walk_at "sz"))
  | ((with_reducible refine sl_lst (xs := ?xs) ?h1 ?_); (case h1 => walk_at "hp"))
  | (with_reducible refine is_bl ?_)
  | (with_reducible refine isnt_bl ?_)
  | (with_reducible refine is_non ?_)
  | (with_reducible refine isnt_non ?_))
local macro_rules | `(tactic| walk_at "rdc") => `(tactic| first
  | ((with_reducible refine len_lst (xs := ?xs) ?h1 ?_); (case h1 => walk_at "hp"))
  | ((with_reducible refine len_tup (xs := ?xs) ?h1 ?_); (case h1 => walk_at "hp"))
  | ((with_reducible refine len_str ?hc ?_); (case hc => walk_at "sz"))
  | (with_reducible refine int_int ?_)
  | (with_reducible refine max_int ?_)
  | (with_reducible refine min_int ?_)
  | (with_reducible refine abs_int ?_)
  | (with_reducible refine isi_ii ?_)
  | (with_reducible refine isi_ib ?_)
  | (with_reducible refine isi_ss ?_)
  | (with_reducible refine isi_bb ?_)
  | ((with_reducible refine isi_tt (xs := ?xs) ?h1 ?_); (case h1 => walk_at "hp"))
  | ((with_reducible refine isi_ll (xs := ?xs) ?h1 ?_); (case h1 => walk_at "hp"))
  | ((with_reducible refine list_lst (xs := ?xs) ?h1 ?_); (case h1 => walk_at "hp"))
  | ((with_reducible refine list_tup (xs := ?xs) ?h1 ?_); (case h1 => walk_at "hp"))
  | ((with_reducible refine tuple_lst (xs := ?xs) ?h1 ?_); (case h1 => walk_at "hp"))
  | ((with_reducible refine tuple_tup (xs := ?xs) ?h1 ?_); (case h1 => walk_at "hp"))
  | ((with_reducible refine append_lst (xs := ?xs) ?h1 ?hc ?_); (case h1 => walk_at "hp"); (case hc => walk_at "sz"))
  | ((with_reducible refine clear_lst (xs := ?xs) ?h1 ?_); (case h1 => walk_at "hp"))
  | ((with_reducible refine set_lst (xs := ?xs) (k := ?k) ?h1 ?h2 ?_); (case h1 => walk_at "hp"); (case h2 => walk_at "at")))
local macro_rules | `(tactic| walk_at "rd1") => `(tactic| first
  | ((with_reducible refine rVar (v := ?v) ?h ?_); (case h => exact rfl))
  | (with_reducible refine rC ?_)
  | (with_reducible refine rCons ?_)
  | (with_reducible refine rNil ?_)
  | (with_reducible refine rOp ?_)
  | (with_reducible refine rSeq ?_)
  | (with_reducible refine rAsgN ?_)
  | (with_reducible refine rAsgT ?_)
  | (with_reducible refine rAsgS ?_)
  | (with_reducible refine rTest ?_)
  | (with_reducible refine rBl ?_)
  | (with_reducible refine rBl' ?_)
  | (with_reducible refine rInt ?_)
  | (with_reducible refine rInt' ?_)
  | (with_reducible refine rCall ?_)
  | (with_reducible refine rCB ?_)
  | (with_reducible refine rRet ?_)
  | (with_reducible refine rDrop ?_)
  | (with_reducible refine rIfS ?_)
  | (with_reducible refine rTup ?_)
  | (with_reducible refine rLst ?_)
  | (with_reducible refine ⟨Nat.le_of_ble_eq_true rfl, ?_⟩)
  | (with_reducible refine rSl ?_)
  | (with_reducible refine rPart ?_)
  | (with_reducible refine rNoPart ?_)
  | (with_reducible refine rBM ?_)
  | (with_reducible refine rBM0 ?_)
  | ((with_reducible refine tyL (xs := ?xs) ?h1 ?_); (case h1 => walk_at "hp"))
  | (with_reducible refine rM1 ?_)
  | (with_reducible refine rM0 ?_)
  | (with_reducible refine rStr ?_)
  | (with_reducible refine rTru ?_)
  | (with_reducible refine tru_bl ?_)
  | (with_reducible refine tru_int ?_)
  | ((with_reducible refine tru_lst (xs := ?xs) ?h1 ?_); (case h1 => walk_at "hp"))
  | ((with_reducible refine tru_tup (xs := ?xs) ?h1 ?_); (case h1 => walk_at "hp"))
  | ((with_reducible refine tru_str ?hc ?_); (case hc => walk_at "sz"))
  | (with_reducible refine rAnd ?_)
  | (with_reducible refine rOr ?_)
  | (with_reducible refine rNot ?_)
  | (with_reducible refine rAndV ?_)
  | (with_reducible refine rOrV ?_)
  | (with_reducible refine rNotV ?_)
  | (with_reducible refine rIfE ?_)
  | (with_reducible refine rChain ?_)
  | (with_reducible refine rChain3 ?_)
  | (with_reducible refine ifT ?_)
  | (with_reducible refine ifF ?_)
  | (with_reducible refine ifNF ?_)
  | (with_reducible refine ifNT ?_)
  | (with_reducible refine rNext ?_)
  | (with_reducible refine rBrk ?_)
  | (with_reducible refine rCnt ?_)
  | (with_reducible refine rRetN ?_)
  | (with_reducible refine rForR1 ?_)
  | (with_reducible refine rForR2 ?_)
  | (with_reducible refine rForL ?_)
  | ((with_reducible refine rRg1 ?hb ?_); (case hb => walk_at "nn"))
  | ((with_reducible refine rRg2 ?hb ?_); (case hb => walk_at "nn"))
  | ((with_reducible refine rRf (xs := ?xs) ?h1 ?_); (case h1 => walk_at "hp"))
  | (with_reducible refine rLcR1 ?_)
  | (with_reducible refine rLcR2 ?_)
  | (with_reducible refine rLcL ?_)
  | (with_reducible refine gN ?_)
  | (with_reducible refine gNl ?_)
  | (with_reducible refine gC ?_)
  | ((with_reducible refine gT (xs := ?xs) ?h1 ?h2 ?_); (case h1 => walk_at "hp"); (case h2 => exact rfl))
  | (with_reducible refine rUn ?_)
  | walk_at "rdv"
  | walk_at "rdc")
local macro_rules | `(tactic| walk_at "rd") => `(tactic| repeat walk_at "rd1")

local macro_rules | `(tactic| walk_at "rd1") => `(tactic| first
  | (with_reducible refine rCallS ?_)
  | (with_reducible refine rRaise ?_)
  | (with_reducible refine rXf ?_)
  | (with_reducible refine rXi ?_)
  | (with_reducible refine rOst ?_)
  | (with_reducible refine rRevL ?_)
  | ((with_reducible refine revL_end (xs := ?xs) ?h1 ?_); (case h1 => walk_at "hp")))

local macro_rules | `(tactic| walk_at "rd1") => `(tactic| first
  | (with_reducible refine rForR3 ?_)
  | ((with_reducible refine rRgD ?hb ?_); (case hb => walk_at "nn"))
  | (with_reducible refine gS ?_))

local macro_rules | `(tactic| walk_at "rd1") => `(tactic| first
  | (with_reducible refine rFld ?_)
  | (with_reducible refine rSFld ?_)
  | (with_reducible refine rMake ?_)
  | (with_reducible refine rMeth ?_)
  | (with_reducible refine rForT ?_)
  | (with_reducible refine rLcT ?_)
  | (with_reducible refine rLcO ?_)
  | (with_reducible refine rForO ?_)
  | (with_reducible refine rLstY ?_)
  | ((with_reducible refine rRt (xs := ?xs) ?h1 ?_); (case h1 => walk_at "hp"))
  | ((with_reducible refine listY_lst (xs := ?xs) ?h1 ?_); (case h1 => walk_at "hp"))
  | ((with_reducible refine listY_tup (xs := ?xs) ?h1 ?_); (case h1 => walk_at "hp")))

local macro_rules | `(tactic| walk_at "hp") => `(tactic| first
  | (with_reducible refine SL.ins (by assumption) ?_; walk_at "hp"))
local macro_rules | `(tactic| walk_at "at") => `(tactic| first
  | with_reducible exact at3
  | with_reducible exact at4
  | with_reducible exact at5
  | with_reducible exact at6
  | with_reducible exact at7
  | with_reducible exact at8)
local macro_rules | `(tactic| walk_at "rd1") => `(tactic| first
  | (with_reducible refine rMkWK ?_)
  | (with_reducible refine rForS ?_)
  | (with_reducible refine rDGet ?_)
  | (with_reducible refine rDPut ?_)
  | (with_reducible refine rIts ?_)
  | (with_reducible refine rLstRg ?_)
  | ((with_reducible refine reverse_lst (xs := ?xs) ?h1 ?_); (case h1 => walk_at "hp"))
  | ((with_reducible refine extend_lst (xs := ?xs) (ys := ?ys) ?h1 ?h2 ?hc ?_); (case h1 => walk_at "hp"); (case h2 => walk_at "hp"); (case hc => walk_at "sz"))
  | ((with_reducible refine fN_kind (mg := ?mg) (C := ?C) (dx := ?dx) (d := ?d) (ns := ?ns) ?hu ?hp ?_); (case hu => with_reducible assumption); (case hp => walk_at "hp"))
  | ((with_reducible refine fN_symbol (mg := ?mg) (C := ?C) (dx := ?dx) (d := ?d) (ns := ?ns) ?hu ?hp ?_); (case hu => with_reducible assumption); (case hp => walk_at "hp"))
  | ((with_reducible refine fN_state (mg := ?mg) (C := ?C) (dx := ?dx) (d := ?d) (ns := ?ns) ?hu ?hp ?_); (case hu => with_reducible assumption); (case hp => walk_at "hp"))
  | ((with_reducible refine fN_lead (mg := ?mg) (C := ?C) (dx := ?dx) (d := ?d) (ns := ?ns) ?hu ?hp ?_); (case hu => with_reducible assumption); (case hp => walk_at "hp"))
  | ((with_reducible refine fN_width (mg := ?mg) (C := ?C) (dx := ?dx) (d := ?d) (ns := ?ns) ?hu ?hp ?_); (case hu => with_reducible assumption); (case hp => walk_at "hp"))
  | ((with_reducible refine fN_look (mg := ?mg) (C := ?C) (dx := ?dx) (d := ?d) (ns := ?ns) ?hu ?hp ?_); (case hu => with_reducible assumption); (case hp => walk_at "hp"))
  | ((with_reducible refine fN_alternative (mg := ?mg) (C := ?C) (dx := ?dx) (d := ?d) (ns := ?ns) ?hu ?hp ?_); (case hu => with_reducible assumption); (case hp => walk_at "hp"))
  | ((with_reducible refine fN_nodes (mg := ?mg) (C := ?C) (dx := ?dx) (d := ?d) (ns := ?ns) ?hu ?hp ?_); (case hu => with_reducible assumption); (case hp => walk_at "hp"))
  | ((with_reducible refine fN_popped (mg := ?mg) (C := ?C) (dx := ?dx) (d := ?d) (ns := ?ns) ?hu ?hp ?_); (case hu => with_reducible assumption); (case hp => walk_at "hp")))

theorem cutV_to {xs : List V} {i : Int} {n : Nat} (e : i = (n : Int)) : cutV xs none (some i) = xs.take n := by
  rw [cutV_cut, e, cut_to (by omega), Int.toNat_natCast]
theorem cutV_from {xs : List V} {i : Int} {n : Nat} (e : i = (n : Int)) : cutV xs (some i) none = xs.drop n := by
  rw [cutV_cut, e, cut_from (by omega), Int.toNat_natCast]
theorem cutV_mid {xs : List V} {i j : Int} {n m : Nat} (e : i = (n : Int)) (e2 : j = (m : Int)) : cutV xs (some i) (some j) = (xs.take m).drop n := by
  rw [cutV_cut, e, e2, cut_mid (by omega) (by omega), Int.toNat_natCast, Int.toNat_natCast]
theorem mem_cuts {x : Rw} {rows : List Rw} {a b : Nat} {r : Rw} (h : x ∈ rows.take a ++ [r] ++ rows.drop b) : x ∈ rows ∨ x = r := by
  rcases List.mem_append.mp h with h | h
  · rcases List.mem_append.mp h with h | h
    · exact .inl (List.mem_of_mem_take h)
    · exact .inr (List.mem_singleton.mp h)
  · exact .inl (List.mem_of_mem_drop h)
section
variable {P : Program} {w : World} {K : PySem.W.Frag} {mg : Str → Option Value} {base : Heap} {aNode aNil : Addr}
theorem cal_law_change {f : Addr} {fd : FuncData} (T : Txt mg) (FD : C8.Def K mg "_law_change" s_law_change f fd) (b : Binds K fd ["reel", "rows"] [])
    (c_law_place : C8.Cal P w K mg base 2 "_law_place" sp_law_place [])
    (c_law_end : C8.Cal P w K mg base 1 "_law_end" sp_law_end [])
    (c_law_draw : C8.Cal P w K mg base 1 "_law_draw" sp_law_draw [])
    (c_law_other : C8.Cal P w K mg base 6 "_law_other" sp_law_other [])
    (c_law_row : C8.Cal P w K mg base 6 "_law_row" sp_law_row []) : C8.Cal P w K mg base 7 "_law_change" sp_law_change [] := by
  refine C8.cal0 FD b .nil sc_law_change (fun vs H Q E h => ?_) (fun cdv A outer s H vs Q E hr h => ?_)
  · obtain ⟨r, p, rows, n, rfl, _⟩ := h; rfl
  · obtain ⟨r, p, rows, n, rfl, hR, hpr, hrows, hg, hn, k⟩ := h
    refine ⟨_, (pss_cons (ps_set (i := 2) sc_law_change.nd rfl (.inl rfl) (C8.pe_c c_law_place hr (by decide) (by rfl) (pa_cons (pv 0) (pa_cons (pe_callB (call_lenK K) (by rfl) T.n_len PySem.boot_len (pa_cons (pv 1) pa_nil)) pa_nil))))
  (pss_cons (ps_set (i := 3) sc_law_change.nd rfl (.inl rfl) (C8.pe_c c_law_end hr (by decide) (by rfl) (pa_cons (pv 1) (pa_cons (pv 2) pa_nil))))
  (pss_cons (ps_set (i := 4) sc_law_change.nd rfl (.inl rfl) (pe_op (op_addK K) (pe_ix (ix_K K) (pe_ix (ix_K K) (pv 1) (pv 2) (fun _ _ => rfl)) pe_int (fun _ _ => rfl)) pe_int))
  (pss_cons (ps_set (i := 5) sc_law_change.nd rfl (.inl rfl) (C8.pe_c c_law_draw hr (by decide) (by rfl) (pa_cons (pv 0) (pa_cons pe_int pa_nil))))
  (pss_cons (ps_if (pt_cmpR op_ltU (pv 5) pe_int (nomark _)) (pss_one (ps_ret (pe_op (op_addK K) (pe_op (op_addK K) (pe_slice (sl_K K) (pv 1) po_none (po_some (pv 2))) (pe_lst (pa_cons (C8.pe_c c_law_other hr (by decide) (by rfl) (pa_cons (pv 0) (pa_cons (pe_ix (ix_K K) (pv 1) (pv 2) (fun _ _ => rfl)) (pa_cons (pe_op (op_addK K) (pv 5) pe_int) pa_nil)))) pa_nil))) (pe_slice (sl_K K) (pv 1) (po_some (pe_op (op_addK K) (pv 2) pe_int)) po_none)))) pss_nil)
  (pss_cons (ps_if (pt_cmpR (op_eqK K (hu64 hr)) (pv 5) pe_int (nomark _)) (pss_one (ps_ret (pe_op (op_addK K) (pe_op (op_addK K) (pe_slice (sl_K K) (pv 1) po_none (po_some (pv 3))) (pe_lst (pa_cons (C8.pe_c c_law_row hr (by decide) (by rfl) (pa_cons (pv 0) (pa_cons (pv 4) pa_nil))) pa_nil))) (pe_slice (sl_K K) (pv 1) (po_some (pv 3)) po_none)))) pss_nil)
  (pss_cons (ps_if (pt_cmpR (op_eqK K (hu64 hr)) (pv 5) pe_int (nomark _)) (pss_one (ps_ret (pe_op (op_addK K) (pe_op (op_addK K) (pe_slice (sl_K K) (pv 1) po_none (po_some (pe_op (op_addK K) (pv 2) pe_int))) (pe_lst (pa_cons (C8.pe_c c_law_row hr (by decide) (by rfl) (pa_cons (pv 0) (pa_cons (pv 4) pa_nil))) pa_nil))) (pe_slice (sl_K K) (pv 1) (po_some (pe_op (op_addK K) (pv 2) pe_int)) po_none)))) pss_nil)
  (pss_cons (ps_if (pt_cmpR (op_eqK K (hu64 hr)) (pv 3) (pe_op (op_addK K) (pv 2) pe_int) (nomark _)) (pss_one (ps_ret (pe_op (op_addK K) (pe_op (op_addK K) (pe_slice (sl_K K) (pv 1) po_none (po_some (pv 2))) (pe_lst (pa_cons (C8.pe_c c_law_other hr (by decide) (by rfl) (pa_cons (pv 0) (pa_cons (pe_ix (ix_K K) (pv 1) (pv 2) (fun _ _ => rfl)) (pa_cons pe_int pa_nil)))) pa_nil))) (pe_slice (sl_K K) (pv 1) (po_some (pv 3)) po_none)))) pss_nil)
  (pss_cons (ps_set (i := 6) sc_law_change.nd rfl (.inl rfl) (C8.pe_c c_law_end hr (by decide) (by rfl) (pa_cons (pv 1) (pa_cons (pe_op (op_addK K) (pv 2) pe_int) pa_nil))))
  (pss_cons (ps_if (pt_cmpR (op_eqK K (hu64 hr)) (pv 5) pe_int (nomark _)) (pss_one (ps_ret (pe_op (op_addK K) (pe_slice (sl_K K) (pv 1) po_none (po_some (pe_op (op_addK K) (pv 2) pe_int))) (pe_slice (sl_K K) (pv 1) (po_some (pv 6)) po_none)))) pss_nil)
  (pss_cons (ps_if (pt_cmpR (op_eqK K (hu64 hr)) (pv 5) pe_int (nomark _)) (pss_one (ps_ret (pe_op (op_addK K) (pe_slice (sl_K K) (pv 1) po_none (po_some (pe_op (op_addK K) (pv 2) pe_int))) (pe_slice (sl_K K) (pv 1) (po_some (pv 3)) po_none)))) pss_nil)
  (pss_one (ps_ret (pe_op (op_addK K) (pe_op (op_addK K) (pe_op (op_addK K) (pe_slice (sl_K K) (pv 1) po_none (po_some (pe_op (op_addK K) (pv 2) pe_int))) (pe_slice (sl_K K) (pv 1) (po_some (pv 6)) (po_some (pv 3)))) (pe_slice (sl_K K) (pv 1) (po_some (pe_op (op_addK K) (pv 2) pe_int)) (po_some (pv 6)))) (pe_slice (sl_K K) (pv 1) (po_some (pv 3)) po_none))))))))))))))), ?_⟩
    show (_ : TS) _ [some (.ref r), some (.ref p), none, none, none, none, none] H
    have hrows' := hrows
    obtain ⟨vs, hp, hr⟩ := hrows
    have hvl := Paired.len hr
    have hpos := hg.tre.pos
    have hlen := hg.len
    walk_at "rd"
    refine use_place hR (by omega) fun ai H1 a0 a1 s1 r1 => ?_
    obtain ⟨a, rfl⟩ := Int.eq_ofNat_of_zero_le a0
    have hal : a < rows.length := by omega
    obtain ⟨A, t, l, d, kf, hP⟩ := hg.tre.prt hal
    have hend := hP.endN
    have hplen := hP.len
    have hrows1 := hrows'.sl s1 hpr
    have hp1 : H1 p = some (.lst vs) := s1.at hpr hp
    have hr1 : Rows H1 vs rows := hr.ts (TpS.sl s1)
    walk_at "rd"
    refine use_end hrows1 (by omega) (by omega) (by omega) ?_
    rw [Int.toNat_natCast, hend]
    generalize hee : a + 1 + kf.cnt = ee
    have hee2 : ee ≤ rows.length := by omega
    obtain ⟨va, hva, pa, rfl, hpa⟩ := Paired.at' hr1 hP.at
    have hata : atI vs (a : Int) = some (.ref pa) := atI_nat hva
    have hrow : RowAt H1 (.ref pa) ⟨l, d⟩ := ⟨pa, rfl, hpa⟩
    have hdok : DtOk d := hg.ok ⟨l, d⟩ (List.mem_of_getElem? hP.at)
    replace hpa : H1 pa = some (.tup [.int l, .str d.k, .str d.s, .int d.st, .int d.ld, .int d.wd, .int d.lk, .int d.al, .int d.pp]) := hpa
    walk_at "rd"
    refine use_draw r1 (by omega) fun f H2 f0 f1 s2 r2 => ?_
    have hp2 : H2 p = some (.lst vs) := s2.at hpr hp1
    have hr2 : Rows H2 vs rows := hr1.ts (TpS.sl s2)
    have hrow2 : RowAt H2 (.ref pa) ⟨l, d⟩ := hrow.ts (TpS.sl s2)
    have hrows2 := hrows1.sl s2 hpr
    have s02 : SL r H H2 := s1.trans s2
    walk_at "rd"
    refine ifD (fun hf => ?_) (fun hf => ?_)
    · walk_at "rd"
      refine newO_gen fun t1 H3 g3 s3 h3 => ?_
      rw [cutV_to (n := a) (by omega)] at h3
      have r3 := r2.same s3
      have ht1 : t1 ≠ r := (r2.ne g3).symm
      have hp3 : H3 p = some (.lst vs) := s3 _ _ hp2
      have hrow3 : RowAt H3 (.ref pa) ⟨l, d⟩ := hrow2.ts (TpS.same s3)
      replace hpa3 : H3 pa = some (.tup [.int l, .str d.k, .str d.s, .int d.st, .int d.ld, .int d.wd, .int d.lk, .int d.al, .int d.pp]) := s3 _ _ (s2.tup hpa)
      walk_at "rd"
      refine use_other r3 hrow3 hdok (by omega) fun v' d' H4 hd' s4 r4 hv' => ?_
      have h4 := s4.at ht1 h3
      walk_at "rd"
      refine newO_gen fun t2 H5 g5 s5 h5 => ?_
      refine add_lst (s5 _ _ h4) h5 (sz_le (by simp only [List.length_append, List.length_take, List.length_drop, List.length_cons, List.length_nil]; omega)) ?_
      refine newO_gen fun t3 H6 g6 s6 h6 => ?_
      have hp6 : H6 p = some (.lst vs) := s6 _ _ (s5 _ _ (s4.at hpr hp3))
      walk_at "rd"
      refine newO_gen fun t4 H7 g7 s7 h7 => ?_
      rw [cutV_from (n := (a + 1)) (by omega)] at h7
      refine add_lst (s7 _ _ h6) h7 (sz_le (by simp only [List.length_append, List.length_take, List.length_drop, List.length_cons, List.length_nil]; omega)) ?_
      refine newO_gen fun t5 H8 g8 s8 h8 => ?_
      have ss : SL r H H8 := ((((((s02.more s3).trans s4).more s5).more s6).more s7).more s8)
      have hR8 : Reel H8 r := ((((r4.same s5).same s6).same s7).same s8)
      have T : TpS H2 H4 := (TpS.same s3).trans (TpS.sl s4)
      have T8 : TpS H4 H8 := (((TpS.same s5).trans (TpS.same s6)).trans (TpS.same s7)).trans (TpS.same s8)
      have hr8 := (hr2.ts T).ts T8
      refine k t5 (rows.take a ++ [⟨l, d'⟩] ++ rows.drop (a + 1)) H8 ss hR8 (SL.fre (((((s02.more s3).trans s4).more s5).more s6).more s7) g8) ⟨_, h8, Paired.app (Paired.app (Paired.tk a hr8) (.cons (hv'.ts T8) .nil)) (Paired.dr (a + 1) hr8)⟩ (hg.of (hP.c1 hg.tre) (by simp only [List.length_append, List.length_take, List.length_drop, List.length_cons, List.length_nil]; omega) fun x hx => (mem_cuts hx).imp id fun e => by rw [e]; exact hd')
    · walk_at "rd"
      refine ifD (fun hf8 => ?_) (fun hf8 => ?_)
      · walk_at "rd"
        refine newO_gen fun t1 H3 g3 s3 h3 => ?_
        rw [cutV_to (n := ee) (by omega)] at h3
        have r3 := r2.same s3
        have ht1 : t1 ≠ r := (r2.ne g3).symm
        have hp3 : H3 p = some (.lst vs) := s3 _ _ hp2
        have hrow3 : RowAt H3 (.ref pa) ⟨l, d⟩ := hrow2.ts (TpS.same s3)
        replace hpa3 : H3 pa = some (.tup [.int l, .str d.k, .str d.s, .int d.st, .int d.ld, .int d.wd, .int d.lk, .int d.al, .int d.pp]) := s3 _ _ (s2.tup hpa)
        walk_at "rd"
        refine use_row1 r3 fun v' d' H4 hd' s4 r4 hv' => ?_
        have h4 := s4.at ht1 h3
        walk_at "rd"
        refine newO_gen fun t2 H5 g5 s5 h5 => ?_
        refine add_lst (s5 _ _ h4) h5 (sz_le (by simp only [List.length_append, List.length_take, List.length_drop, List.length_cons, List.length_nil]; omega)) ?_
        refine newO_gen fun t3 H6 g6 s6 h6 => ?_
        have hp6 : H6 p = some (.lst vs) := s6 _ _ (s5 _ _ (s4.at hpr hp3))
        walk_at "rd"
        refine newO_gen fun t4 H7 g7 s7 h7 => ?_
        rw [cutV_from (n := ee) (by omega)] at h7
        refine add_lst (s7 _ _ h6) h7 (sz_le (by simp only [List.length_append, List.length_take, List.length_drop, List.length_cons, List.length_nil]; omega)) ?_
        refine newO_gen fun t5 H8 g8 s8 h8 => ?_
        have ss : SL r H H8 := ((((((s02.more s3).trans s4).more s5).more s6).more s7).more s8)
        have hR8 : Reel H8 r := ((((r4.same s5).same s6).same s7).same s8)
        have T : TpS H2 H4 := (TpS.same s3).trans (TpS.sl s4)
        have T8 : TpS H4 H8 := (((TpS.same s5).trans (TpS.same s6)).trans (TpS.same s7)).trans (TpS.same s8)
        have hr8 := (hr2.ts T).ts T8
        refine k t5 (rows.take ee ++ [⟨l + 1, d'⟩] ++ rows.drop ee) H8 ss hR8 (SL.fre (((((s02.more s3).trans s4).more s5).more s6).more s7) g8) ⟨_, h8, Paired.app (Paired.app (Paired.tk ee hr8) (.cons (hv'.ts T8) .nil)) (Paired.dr ee hr8)⟩ (hg.of (by rw [← hee]; exact hP.c2 hg.tre) (by simp only [List.length_append, List.length_take, List.length_drop, List.length_cons, List.length_nil]; omega) fun x hx => (mem_cuts hx).imp id fun e => by rw [e]; exact hd')
      · walk_at "rd"
        refine ifD (fun hf9 => ?_) (fun hf9 => ?_)
        · walk_at "rd"
          refine newO_gen fun t1 H3 g3 s3 h3 => ?_
          rw [cutV_to (n := (a + 1)) (by omega)] at h3
          have r3 := r2.same s3
          have ht1 : t1 ≠ r := (r2.ne g3).symm
          have hp3 : H3 p = some (.lst vs) := s3 _ _ hp2
          have hrow3 : RowAt H3 (.ref pa) ⟨l, d⟩ := hrow2.ts (TpS.same s3)
          replace hpa3 : H3 pa = some (.tup [.int l, .str d.k, .str d.s, .int d.st, .int d.ld, .int d.wd, .int d.lk, .int d.al, .int d.pp]) := s3 _ _ (s2.tup hpa)
          walk_at "rd"
          refine use_row1 r3 fun v' d' H4 hd' s4 r4 hv' => ?_
          have h4 := s4.at ht1 h3
          walk_at "rd"
          refine newO_gen fun t2 H5 g5 s5 h5 => ?_
          refine add_lst (s5 _ _ h4) h5 (sz_le (by simp only [List.length_append, List.length_take, List.length_drop, List.length_cons, List.length_nil]; omega)) ?_
          refine newO_gen fun t3 H6 g6 s6 h6 => ?_
          have hp6 : H6 p = some (.lst vs) := s6 _ _ (s5 _ _ (s4.at hpr hp3))
          walk_at "rd"
          refine newO_gen fun t4 H7 g7 s7 h7 => ?_
          rw [cutV_from (n := (a + 1)) (by omega)] at h7
          refine add_lst (s7 _ _ h6) h7 (sz_le (by simp only [List.length_append, List.length_take, List.length_drop, List.length_cons, List.length_nil]; omega)) ?_
          refine newO_gen fun t5 H8 g8 s8 h8 => ?_
          have ss : SL r H H8 := ((((((s02.more s3).trans s4).more s5).more s6).more s7).more s8)
          have hR8 : Reel H8 r := ((((r4.same s5).same s6).same s7).same s8)
          have T : TpS H2 H4 := (TpS.same s3).trans (TpS.sl s4)
          have T8 : TpS H4 H8 := (((TpS.same s5).trans (TpS.same s6)).trans (TpS.same s7)).trans (TpS.same s8)
          have hr8 := (hr2.ts T).ts T8
          refine k t5 (rows.take (a + 1) ++ [⟨l + 1, d'⟩] ++ rows.drop (a + 1)) H8 ss hR8 (SL.fre (((((s02.more s3).trans s4).more s5).more s6).more s7) g8) ⟨_, h8, Paired.app (Paired.app (Paired.tk (a + 1) hr8) (.cons (hv'.ts T8) .nil)) (Paired.dr (a + 1) hr8)⟩ (hg.of (hP.c3 hg.tre) (by simp only [List.length_append, List.length_take, List.length_drop, List.length_cons, List.length_nil]; omega) fun x hx => (mem_cuts hx).imp id fun e => by rw [e]; exact hd')
        · walk_at "rd"
          refine ifD (fun he => ?_) (fun he => ?_)
          · walk_at "rd"
            refine newO_gen fun t1 H3 g3 s3 h3 => ?_
            rw [cutV_to (n := a) (by omega)] at h3
            have r3 := r2.same s3
            have ht1 : t1 ≠ r := (r2.ne g3).symm
            have hp3 : H3 p = some (.lst vs) := s3 _ _ hp2
            have hrow3 : RowAt H3 (.ref pa) ⟨l, d⟩ := hrow2.ts (TpS.same s3)
            replace hpa3 : H3 pa = some (.tup [.int l, .str d.k, .str d.s, .int d.st, .int d.ld, .int d.wd, .int d.lk, .int d.al, .int d.pp]) := s3 _ _ (s2.tup hpa)
            walk_at "rd"
            refine use_other r3 hrow3 hdok (by omega) fun v' d' H4 hd' s4 r4 hv' => ?_
            have h4 := s4.at ht1 h3
            walk_at "rd"
            refine newO_gen fun t2 H5 g5 s5 h5 => ?_
            refine add_lst (s5 _ _ h4) h5 (sz_le (by simp only [List.length_append, List.length_take, List.length_drop, List.length_cons, List.length_nil]; omega)) ?_
            refine newO_gen fun t3 H6 g6 s6 h6 => ?_
            have hp6 : H6 p = some (.lst vs) := s6 _ _ (s5 _ _ (s4.at hpr hp3))
            walk_at "rd"
            refine newO_gen fun t4 H7 g7 s7 h7 => ?_
            rw [cutV_from (n := ee) (by omega)] at h7
            refine add_lst (s7 _ _ h6) h7 (sz_le (by simp only [List.length_append, List.length_take, List.length_drop, List.length_cons, List.length_nil]; omega)) ?_
            refine newO_gen fun t5 H8 g8 s8 h8 => ?_
            have ss : SL r H H8 := ((((((s02.more s3).trans s4).more s5).more s6).more s7).more s8)
            have hR8 : Reel H8 r := ((((r4.same s5).same s6).same s7).same s8)
            have T : TpS H2 H4 := (TpS.same s3).trans (TpS.sl s4)
            have T8 : TpS H4 H8 := (((TpS.same s5).trans (TpS.same s6)).trans (TpS.same s7)).trans (TpS.same s8)
            have hr8 := (hr2.ts T).ts T8
            refine k t5 (rows.take a ++ [⟨l, d'⟩] ++ rows.drop ee) H8 ss hR8 (SL.fre (((((s02.more s3).trans s4).more s5).more s6).more s7) g8) ⟨_, h8, Paired.app (Paired.app (Paired.tk a hr8) (.cons (hv'.ts T8) .nil)) (Paired.dr ee hr8)⟩ (hg.of (by rw [show ee = a + 1 by omega]; exact hP.c1 hg.tre) (by simp only [List.length_append, List.length_take, List.length_drop, List.length_cons, List.length_nil]; omega) fun x hx => (mem_cuts hx).imp id fun e => by rw [e]; exact hd')
          · cases kf with
            | nil => exact absurd (show ((ee : Nat) : Int) = (a : Int) + 1 by rw [← hee]; show ((a + 1 + 0 : Nat) : Int) = _; omega) he
            | cons d1 k1 r1' =>
              have hkl := hP.kid.len
              have hke := hP.kid.endN
              walk_at "rd"
              refine use_end hrows2 (by omega) (by omega) (by omega) ?_
              rw [show ((a : Int) + 1).toNat = a + 1 by omega, hke]
              generalize hss : a + 1 + 1 + k1.cnt = ss
              have hcn : (Fo.cons d1 k1 r1').cnt = 1 + k1.cnt + r1'.cnt := rfl
              have hse : ss ≤ ee := by omega
              walk_at "rd"
              refine ifD (fun hf10 => ?_) (fun hf10 => ?_)
              · walk_at "rd"
                refine newO_gen fun t1 H3 g3 s3 h3 => ?_
                rw [cutV_to (n := a + 1) (by omega)] at h3
                have hp3 : H3 p = some (.lst vs) := s3 _ _ hp2
                walk_at "rd"
                refine newO_gen fun t2 H4 g4 s4 h4 => ?_
                rw [cutV_from (n := ss) rfl] at h4
                refine add_lst (s4 _ _ h3) h4 (sz_le (by simp only [List.length_append, List.length_take, List.length_drop, List.length_cons, List.length_nil]; omega)) ?_
                refine newO_gen fun t3 H5 g5 s5 h5 => ?_
                have T : TpS H2 H5 := ((TpS.same s3).trans (TpS.same s4)).trans (TpS.same s5)
                have hr5 := hr2.ts T
                exact k t3 (rows.take (a + 1) ++ rows.drop ss) H5 (((s02.more s3).more s4).more s5) (((r2.same s3).same s4).same s5) (SL.fre ((s02.more s3).more s4) g5) ⟨_, h5, Paired.app (Paired.tk (a + 1) hr5) (Paired.dr ss hr5)⟩ (hg.of (by rw [← hss]; exact hP.c4 hg.tre) (by simp only [List.length_append, List.length_take, List.length_drop, List.length_cons, List.length_nil]; omega) fun x hx => .inl ((List.mem_append.mp hx).elim List.mem_of_mem_take List.mem_of_mem_drop))
              · walk_at "rd"
                refine ifD (fun hf11 => ?_) (fun hf11 => ?_)
                · walk_at "rd"
                  refine newO_gen fun t1 H3 g3 s3 h3 => ?_
                  rw [cutV_to (n := a + 1) (by omega)] at h3
                  have hp3 : H3 p = some (.lst vs) := s3 _ _ hp2
                  walk_at "rd"
                  refine newO_gen fun t2 H4 g4 s4 h4 => ?_
                  rw [cutV_from (n := ee) rfl] at h4
                  refine add_lst (s4 _ _ h3) h4 (sz_le (by simp only [List.length_append, List.length_take, List.length_drop, List.length_cons, List.length_nil]; omega)) ?_
                  refine newO_gen fun t3 H5 g5 s5 h5 => ?_
                  have T : TpS H2 H5 := ((TpS.same s3).trans (TpS.same s4)).trans (TpS.same s5)
                  have hr5 := hr2.ts T
                  exact k t3 (rows.take (a + 1) ++ rows.drop ee) H5 (((s02.more s3).more s4).more s5) (((r2.same s3).same s4).same s5) (SL.fre ((s02.more s3).more s4) g5) ⟨_, h5, Paired.app (Paired.tk (a + 1) hr5) (Paired.dr ee hr5)⟩ (hg.of (by rw [← hee]; exact hP.c5 hg.tre) (by simp only [List.length_append, List.length_take, List.length_drop, List.length_cons, List.length_nil]; omega) fun x hx => .inl ((List.mem_append.mp hx).elim List.mem_of_mem_take List.mem_of_mem_drop))
                · walk_at "rd"
                  refine newO_gen fun t1 H3 g3 s3 h3 => ?_
                  rw [cutV_to (n := a + 1) (by omega)] at h3
                  have hp3 : H3 p = some (.lst vs) := s3 _ _ hp2
                  walk_at "rd"
                  refine newO_gen fun t2 H4 g4 s4 h4 => ?_
                  rw [cutV_mid (n := ss) (m := ee) rfl rfl] at h4
                  refine add_lst (s4 _ _ h3) h4 (sz_le (by simp only [List.length_append, List.length_take, List.length_drop, List.length_cons, List.length_nil]; omega)) ?_
                  refine newO_gen fun t3 H5 g5 s5 h5 => ?_
                  have hp5 : H5 p = some (.lst vs) := s5 _ _ (s4 _ _ hp3)
                  walk_at "rd"
                  refine newO_gen fun t4 H6 g6 s6 h6 => ?_
                  rw [cutV_mid (n := a + 1) (m := ss) (by omega) rfl] at h6
                  refine add_lst (s6 _ _ h5) h6 (sz_le (by simp only [List.length_append, List.length_take, List.length_drop, List.length_cons, List.length_nil]; omega)) ?_
                  refine newO_gen fun t5 H7 g7 s7 h7 => ?_
                  have hp7 : H7 p = some (.lst vs) := s7 _ _ (s6 _ _ hp5)
                  walk_at "rd"
                  refine newO_gen fun t6 H8 g8 s8 h8 => ?_
                  rw [cutV_from (n := ee) rfl] at h8
                  refine add_lst (s8 _ _ h7) h8 (sz_le (by simp only [List.length_append, List.length_take, List.length_drop, List.length_cons, List.length_nil]; omega)) ?_
                  refine newO_gen fun t7 H9 g9 s9 h9 => ?_
                  have s29 : Same H2 H8 := Same.trans (Same.trans (Same.trans (Same.trans (Same.trans s3 s4) s5) s6) s7) s8
                  have hr9 := (hr2.ts (TpS.same s29)).ts (TpS.same s9)
                  refine k t7 (rows.take (a + 1) ++ (rows.take ee).drop ss ++ (rows.take ss).drop (a + 1) ++ rows.drop ee) H9 ((s02.more s29).more s9) ((r2.same s29).same s9) (SL.fre (s02.more s29) g9)
                    ⟨_, h9, Paired.app (Paired.app (Paired.app (Paired.tk (a + 1) hr9) (Paired.dr ss (Paired.tk ee hr9))) (Paired.dr (a + 1) (Paired.tk ss hr9))) (Paired.dr ee hr9)⟩ (hg.of (by rw [← hee, ← hss]; exact hP.c6 hg.tre) (by simp only [List.length_append, List.length_take, List.length_drop, List.length_cons, List.length_nil]; omega) fun x hx => .inl ?_)
                  rcases List.mem_append.mp hx with hx | hx
                  · rcases List.mem_append.mp hx with hx | hx
                    · rcases List.mem_append.mp hx with hx | hx
                      · exact List.mem_of_mem_take hx
                      · exact List.mem_of_mem_take (List.mem_of_mem_drop hx)
                    · exact List.mem_of_mem_take (List.mem_of_mem_drop hx)
                  · exact List.mem_of_mem_drop hx
end
end Z
namespace Z
open PySem PySem.Spec L2
/-! ## the stack of a tree that is built from behind, by indexes -/
def stkI : Nat → List Rw → List (Int × Nat)
  | _, [] => []
  | o, x :: xs => (x.lv, o) :: (stkI (o + 1) xs).dropWhile fun e => decide (e.1 = x.lv + 1)
/-- the rows below row j of level l -/
def cix (rows : List Rw) (j : Nat) (l : Int) : List Nat := ((stkI (j + 1) (rows.drop (j + 1))).takeWhile fun e => decide (e.1 = l + 1)).map (·.2)
theorem stkI_mem : ∀ {xs : List Rw} {o : Nat} {e : Int × Nat}, e ∈ stkI o xs → o ≤ e.2 ∧ ∃ x, xs[e.2 - o]? = some x ∧ x.lv = e.1
  | [], _, _, h => nomatch h
  | x :: xs, o, e, h => by
    rcases List.mem_cons.mp h with rfl | h
    · exact ⟨Nat.le_refl _, x, by rw [Nat.sub_self]; rfl, rfl⟩
    · obtain ⟨h1, y, h2, h3⟩ := stkI_mem ((List.dropWhile_sublist _).subset h)
      refine ⟨by omega, y, ?_, h3⟩
      rw [show e.2 - o = e.2 - (o + 1) + 1 by omega]
      exact h2
theorem stkI_len : ∀ {xs : List Rw} {o : Nat}, (stkI o xs).length ≤ xs.length
  | [], _ => Nat.le_refl _
  | x :: xs, o => by
    have h1 := stkI_len (xs := xs) (o := o + 1)
    have h2 : ((stkI (o + 1) xs).dropWhile fun e => decide (e.1 = x.lv + 1)).length ≤ (stkI (o + 1) xs).length := (List.dropWhile_sublist _).length_le
    show _ + 1 ≤ xs.length + 1
    omega
theorem stkI_drop {rows : List Rw} {j : Nat} {e : Int × Nat} (h : e ∈ stkI j (rows.drop j)) : j ≤ e.2 ∧ ∃ x, rows[e.2]? = some x ∧ x.lv = e.1 := by
  obtain ⟨h1, x, h2, h3⟩ := stkI_mem h
  rw [List.getElem?_drop, show j + (e.2 - j) = e.2 by omega] at h2
  exact ⟨h1, x, h2, h3⟩
theorem stkI_at {rows : List Rw} {j : Nat} {x : Rw} (h : rows[j]? = some x) : stkI j (rows.drop j) = (x.lv, j) :: (stkI (j + 1) (rows.drop (j + 1))).dropWhile fun e => decide (e.1 = x.lv + 1) := by
  obtain ⟨hl, rfl⟩ := List.getElem?_eq_some_iff.mp h
  rw [List.drop_eq_getElem_cons hl]
  rfl
theorem stk_at {rows : List Rw} {j : Nat} {x : Rw} (h : rows[j]? = some x) : stk (rows.drop j) = (x.lv, x.d, toFo ((stk (rows.drop (j + 1))).takeWhile fun e => decide (e.1 = x.lv + 1))) :: (stk (rows.drop (j + 1))).dropWhile fun e => decide (e.1 = x.lv + 1) := by
  obtain ⟨hl, rfl⟩ := List.getElem?_eq_some_iff.mp h
  rw [List.drop_eq_getElem_cons hl]
  rfl
theorem cix_gt {rows : List Rw} {j i : Nat} {l : Int} (h : i ∈ cix rows j l) : j < i ∧ i < rows.length := by
  obtain ⟨e, he, rfl⟩ := List.mem_map.mp h
  obtain ⟨h1, x, h2, _⟩ := stkI_drop ((List.takeWhile_sublist _).subset he)
  exact ⟨h1, (List.getElem?_eq_some_iff.mp h2).1⟩
/-- the part that is taken, known by its ends -/
theorem tw_of {α : Type} {p : α → Bool} {B R : List α} (h1 : ∀ x ∈ B, p x = true) (h2 : ∀ y, R.head? = some y → p y = false) : (B ++ R).takeWhile p = B ∧ (B ++ R).dropWhile p = R := by
  refine ⟨takeWhile_all h1 h2, ?_⟩
  induction B with
  | nil =>
    cases R with
    | nil => rfl
    | cons y R => exact List.dropWhile_cons_of_neg (by rw [h2 y rfl]; simp)
  | cons x B ih =>
    show (x :: (B ++ R)).dropWhile p = R
    rw [List.dropWhile_cons_of_pos (h1 x (List.mem_cons_self ..))]
    exact ih fun y hy => h1 y (List.mem_cons_of_mem _ hy)
theorem Paired.tw {α β : Type} {F : α → β → Prop} {p : α → Bool} {q : β → Bool} (hpq : ∀ a b, F a b → p a = q b) : ∀ {xs : List α} {ys : List β}, Paired F xs ys → Paired F (xs.takeWhile p) (ys.takeWhile q) ∧ Paired F (xs.dropWhile p) (ys.dropWhile q)
  | _, _, .nil => ⟨.nil, .nil⟩
  | a :: xs, b :: ys, .cons r t => by
    have e := hpq a b r
    obtain ⟨h1, h2⟩ := Paired.tw hpq t
    cases c : p a with
    | true =>
      rw [List.takeWhile_cons_of_pos c, List.takeWhile_cons_of_pos (by rw [← e, c]), List.dropWhile_cons_of_pos c, List.dropWhile_cons_of_pos (by rw [← e, c])]
      exact ⟨.cons r h1, h2⟩
    | false =>
      rw [List.takeWhile_cons_of_neg (by rw [c]; simp), List.takeWhile_cons_of_neg (by rw [← e, c]; simp), List.dropWhile_cons_of_neg (by rw [c]; simp), List.dropWhile_cons_of_neg (by rw [← e, c]; simp)]
      exact ⟨.nil, .cons r t⟩
end Z
namespace Z
open PySem PySem.Spec L2 ItX
local macro_rules | `(tactic| walk_at "ne") => `(tactic| first
  | with_reducible assumption
  | with_reducible exact Ne.symm (by assumption)
  | exact Frs.ne (by with_reducible assumption) (by walk_at "hp")
  | exact Frs.ne' (by with_reducible assumption) (by walk_at "hp"))
local macro_rules | `(tactic| walk_at "hp") => `(tactic| first
  | with_reducible assumption
  | (with_reducible refine Same.at (by assumption) ?_; walk_at "hp")
  | (with_reducible refine SL.tup (by assumption) ?_; walk_at "hp")
  | (with_reducible refine SL.at (by assumption) (by walk_at "ne") ?_; walk_at "hp"))
local macro_rules | `(tactic| walk_at "sz") => `(tactic| first
  | with_reducible assumption
  | exact Nat.le_of_ble_eq_true rfl
  | (refine sz_le ?_; omega)
  | (refine sz_lt ?_; omega)
  | decide +kernel)
local macro_rules | `(tactic| walk_at "at") => `(tactic| first
  | with_reducible assumption
  | with_reducible exact at0
  | with_reducible exact at1
  | with_reducible exact at2
  | with_reducible exact ixN0)
local macro_rules | `(tactic| walk_at "nn") => `(tactic| first
  | omega
  | decide
  | exact ⟨by decide, by decide⟩
  | exact ⟨by omega, by omega⟩
  | exact ⟨by omega, by omega, by omega, by omega⟩)
local macro_rules | `(tactic| walk_at "rdv") => `(tactic| first
  | (with_reducible refine add_int ?_)
  | (with_reducible refine sub_int ?_)
  | (with_reducible refine neg_int ?_)
  | ((with_reducible refine ix_tpl (xs := ?xs) (v := ?v) ?h1 ?h2 ?_); (case h1 => walk_at "hp"); (case h2 => walk_at "at"))
  | ((with_reducible refine ix_lst (xs := ?xs) (v := ?v) ?h1 ?h2 ?_); (case h1 => walk_at "hp"); (case h2 => walk_at "at"))
  | (with_reducible refine eq_int ?_)
  | (with_reducible refine ne_int ?_)
  | (with_reducible refine lt_int ?_)
  | (with_reducible refine le_int ?_)
  | (with_reducible refine gt_int ?_)
  | (with_reducible refine ge_int ?_)
  | (with_reducible refine eq_str ?_)
  | (with_reducible refine ne_str ?_)
  | (with_reducible refine eq_bl ?_)
  | (with_reducible refine ne_bl ?_)
  | ((with_reducible refine mod_int ?hc ?_); (case hc => walk_at "nn"))
  | ((with_reducible refine div_int ?hc ?_); (case hc => walk_at "nn"))
  | ((with_reducible refine mul_intR ?hc ?_); (case hc => exact ⟨by decide, by decide⟩))
  | ((with_reducible refine mul_intR ?hc ?_); (case hc => exact ⟨by omega, by omega⟩))
  | ((with_reducible refine mul_intL ?hc ?_); (case hc => exact ⟨by omega, by omega⟩))
  | ((with_reducible refine pow_int ?hc ?_); (case hc => exact ⟨by decide, by decide, by decide⟩))
  | ((with_reducible refine add_str ?hc ?_); (case hc => walk_at "sz"))
  | ((with_reducible refine add_lst (xs := ?xs) (ys := ?ys) ?h1 ?h2 ?hc ?_); (case h1 => walk_at "hp"); (case h2 => walk_at "hp"); (case hc => walk_at "sz"))
  | ((with_reducible refine sl_strU ?hc ?_); (case hc => walk_at "sz"))
  | ((with_reducible refine sl_lst (xs := ?xs) ?h1 ?_); (case h1 => walk_at "hp"))
  | (with_reducible refine is_bl ?_)
  | (with_reducible refine isnt_bl ?_)
  | (with_reducible refine is_non ?_)
  | (with_reducible refine isnt_non ?_))
local macro_rules | `(tactic| walk_at "rdc") => `(tactic| first
  | ((with_reducible refine len_lst (xs := ?xs) ?h1 ?_); (case h1 => walk_at "hp"))
  | ((with_reducible refine len_tup (xs := ?xs) ?h1 ?_); (case h1 => walk_at "hp"))
  | ((with_reducible refine len_str ?hc ?_); (case hc => walk_at "sz"))
  | (with_reducible refine int_int ?_)
  | (with_reducible refine max_int ?_)
  | (with_reducible refine min_int ?_)
  | (with_reducible refine abs_int ?_)
  | (with_reducible refine isi_ii ?_)
  | (with_reducible refine isi_ib ?_)
  | (with_reducible refine isi_ss ?_)
  | (with_reducible refine isi_bb ?_)
  | ((with_reducible refine isi_tt (xs := ?xs) ?h1 ?_); (case h1 => walk_at "hp"))
  | ((with_reducible refine isi_ll (xs := ?xs) ?h1 ?_); (case h1 => walk_at "hp"))
  | ((with_reducible refine list_lst (xs := ?xs) ?h1 ?_); (case h1 => walk_at "hp"))
  | ((with_reducible refine list_tup (xs := ?xs) ?h1 ?_); (case h1 => walk_at "hp"))
  | ((with_reducible refine tuple_lst (xs := ?xs) ?h1 ?_); (case h1 => walk_at "hp"))
  | ((with_reducible refine tuple_tup (xs := ?xs) ?h1 ?_); (case h1 => walk_at "hp"))
  | ((with_reducible refine append_lst (xs := ?xs) ?h1 ?hc ?_); (case h1 => walk_at "hp"); (case hc => walk_at "sz"))
  | ((with_reducible refine clear_lst (xs := ?xs) ?h1 ?_); (case h1 => walk_at "hp"))
  | ((with_reducible refine set_lst (xs := ?xs) (k := ?k) ?h1 ?h2 ?_); (case h1 => walk_at "hp"); (case h2 => walk_at "at")))
local macro_rules | `(tactic| walk_at "rd1") => `(tactic| first
  | ((with_reducible refine rVar (v := ?v) ?h ?_); (case h => exact rfl))
  | (with_reducible refine rC ?_)
  | (with_reducible refine rCons ?_)
  | (with_reducible refine rNil ?_)
  | (with_reducible refine rOp ?_)
  | (with_reducible refine rSeq ?_)
  | (with_reducible refine rAsgN ?_)
  | (with_reducible refine rAsgT ?_)
  | (with_reducible refine rAsgS ?_)
  | (with_reducible refine rTest ?_)
  | (with_reducible refine rBl ?_)
  | (with_reducible refine rBl' ?_)
  | (with_reducible refine rInt ?_)
  | (with_reducible refine rInt' ?_)
  | (with_reducible refine rCall ?_)
  | (with_reducible refine rCB ?_)
  | (with_reducible refine rRet ?_)
  | (with_reducible refine rDrop ?_)
  | (with_reducible refine rIfS ?_)
  | (with_reducible refine rTup ?_)
  | (with_reducible refine rLst ?_)
  | (with_reducible refine ⟨Nat.le_of_ble_eq_true rfl, ?_⟩)
  | (with_reducible refine rSl ?_)
  | (with_reducible refine rPart ?_)
  | (with_reducible refine rNoPart ?_)
  | (with_reducible refine rBM ?_)
  | (with_reducible refine rBM0 ?_)
  | ((with_reducible refine tyL (xs := ?xs) ?h1 ?_); (case h1 => walk_at "hp"))
  | (with_reducible refine rM1 ?_)
  | (with_reducible refine rM0 ?_)
  | (with_reducible refine rStr ?_)
  | (with_reducible refine rTru ?_)
  | (with_reducible refine tru_bl ?_)
  | (with_reducible refine tru_int ?_)
  | ((with_reducible refine tru_lst (xs := ?xs) ?h1 ?_); (case h1 => walk_at "hp"))
  | ((with_reducible refine tru_tup (xs := ?xs) ?h1 ?_); (case h1 => walk_at "hp"))
  | ((with_reducible refine tru_str ?hc ?_); (case hc => walk_at "sz"))
  | (with_reducible refine rAnd ?_)
  | (with_reducible refine rOr ?_)
  | (with_reducible refine rNot ?_)
  | (with_reducible refine rAndV ?_)
  | (with_reducible refine rOrV ?_)
  | (with_reducible refine rNotV ?_)
  | (with_reducible refine rIfE ?_)
  | (with_reducible refine rChain ?_)
  | (with_reducible refine rChain3 ?_)
  | (with_reducible refine ifT ?_)
  | (with_reducible refine ifF ?_)
  | (with_reducible refine ifNF ?_)
  | (with_reducible refine ifNT ?_)
  | (with_reducible refine rNext ?_)
  | (with_reducible refine rBrk ?_)
  | (with_reducible refine rCnt ?_)
  | (with_reducible refine rRetN ?_)
  | (with_reducible refine rForR1 ?_)
  | (with_reducible refine rForR2 ?_)
  | (with_reducible refine rForL ?_)
  | ((with_reducible refine rRg1 ?hb ?_); (case hb => walk_at "nn"))
  | ((with_reducible refine rRg2 ?hb ?_); (case hb => walk_at "nn"))
  | ((with_reducible refine rRf (xs := ?xs) ?h1 ?_); (case h1 => walk_at "hp"))
  | (with_reducible refine rLcR1 ?_)
  | (with_reducible refine rLcR2 ?_)
  | (with_reducible refine rLcL ?_)
  | (with_reducible refine gN ?_)
  | (with_reducible refine gNl ?_)
  | (with_reducible refine gC ?_)
  | ((with_reducible refine gT (xs := ?xs) ?h1 ?h2 ?_); (case h1 => walk_at "hp"); (case h2 => exact rfl))
  | (with_reducible refine rUn ?_)
  | walk_at "rdv"
  | walk_at "rdc")
local macro_rules | `(tactic| walk_at "rd") => `(tactic| repeat walk_at "rd1")

local macro_rules | `(tactic| walk_at "rd1") => `(tactic| first
  | (with_reducible refine rCallS ?_)
  | (with_reducible refine rRaise ?_)
  | (with_reducible refine rXf ?_)
  | (with_reducible refine rXi ?_)
  | (with_reducible refine rOst ?_)
  | (with_reducible refine rRevL ?_)
  | ((with_reducible refine revL_end (xs := ?xs) ?h1 ?_); (case h1 => walk_at "hp")))

local macro_rules | `(tactic| walk_at "rd1") => `(tactic| first
  | (with_reducible refine rForR3 ?_)
  | ((with_reducible refine rRgD ?hb ?_); (case hb => walk_at "nn"))
  | (with_reducible refine gS ?_))

local macro_rules | `(tactic| walk_at "rd1") => `(tactic| first
  | (with_reducible refine rFld ?_)
  | (with_reducible refine rSFld ?_)
  | (with_reducible refine rMake ?_)
  | (with_reducible refine rMeth ?_)
  | (with_reducible refine rForT ?_)
  | (with_reducible refine rLcT ?_)
  | (with_reducible refine rLcO ?_)
  | (with_reducible refine rForO ?_)
  | (with_reducible refine rLstY ?_)
  | ((with_reducible refine rRt (xs := ?xs) ?h1 ?_); (case h1 => walk_at "hp"))
  | ((with_reducible refine listY_lst (xs := ?xs) ?h1 ?_); (case h1 => walk_at "hp"))
  | ((with_reducible refine listY_tup (xs := ?xs) ?h1 ?_); (case h1 => walk_at "hp")))

local macro_rules | `(tactic| walk_at "hp") => `(tactic| first
  | (with_reducible refine SL.ins (by assumption) ?_; walk_at "hp"))
local macro_rules | `(tactic| walk_at "at") => `(tactic| first
  | with_reducible exact at3
  | with_reducible exact at4
  | with_reducible exact at5
  | with_reducible exact at6
  | with_reducible exact at7
  | with_reducible exact at8)
local macro_rules | `(tactic| walk_at "rd1") => `(tactic| first
  | (with_reducible refine rMkWK ?_)
  | (with_reducible refine rForS ?_)
  | (with_reducible refine rDGet ?_)
  | (with_reducible refine rDPut ?_)
  | (with_reducible refine rIts ?_)
  | (with_reducible refine rLstRg ?_)
  | ((with_reducible refine reverse_lst (xs := ?xs) ?h1 ?_); (case h1 => walk_at "hp"))
  | ((with_reducible refine extend_lst (xs := ?xs) (ys := ?ys) ?h1 ?h2 ?hc ?_); (case h1 => walk_at "hp"); (case h2 => walk_at "hp"); (case hc => walk_at "sz"))
  | ((with_reducible refine fN_kind (mg := ?mg) (C := ?C) (dx := ?dx) (d := ?d) (ns := ?ns) ?hu ?hp ?_); (case hu => with_reducible assumption); (case hp => walk_at "hp"))
  | ((with_reducible refine fN_symbol (mg := ?mg) (C := ?C) (dx := ?dx) (d := ?d) (ns := ?ns) ?hu ?hp ?_); (case hu => with_reducible assumption); (case hp => walk_at "hp"))
  | ((with_reducible refine fN_state (mg := ?mg) (C := ?C) (dx := ?dx) (d := ?d) (ns := ?ns) ?hu ?hp ?_); (case hu => with_reducible assumption); (case hp => walk_at "hp"))
  | ((with_reducible refine fN_lead (mg := ?mg) (C := ?C) (dx := ?dx) (d := ?d) (ns := ?ns) ?hu ?hp ?_); (case hu => with_reducible assumption); (case hp => walk_at "hp"))
  | ((with_reducible refine fN_width (mg := ?mg) (C := ?C) (dx := ?dx) (d := ?d) (ns := ?ns) ?hu ?hp ?_); (case hu => with_reducible assumption); (case hp => walk_at "hp"))
  | ((with_reducible refine fN_look (mg := ?mg) (C := ?C) (dx := ?dx) (d := ?d) (ns := ?ns) ?hu ?hp ?_); (case hu => with_reducible assumption); (case hp => walk_at "hp"))
  | ((with_reducible refine fN_alternative (mg := ?mg) (C := ?C) (dx := ?dx) (d := ?d) (ns := ?ns) ?hu ?hp ?_); (case hu => with_reducible assumption); (case hp => walk_at "hp"))
  | ((with_reducible refine fN_nodes (mg := ?mg) (C := ?C) (dx := ?dx) (d := ?d) (ns := ?ns) ?hu ?hp ?_); (case hu => with_reducible assumption); (case hp => walk_at "hp"))
  | ((with_reducible refine fN_popped (mg := ?mg) (C := ?C) (dx := ?dx) (d := ?d) (ns := ?ns) ?hu ?hp ?_); (case hu => with_reducible assumption); (case hp => walk_at "hp")))

/-! ## trees that are built from rows -/
def nodesOf (vs : List V) (is : List Nat) : List V := is.map fun i => (vs[i]?).getD .non
/-- what stands at row j -/
def LnkAt (K : PySem.W.Frag) (C : Addr) (H : Hp) (vs : List V) (rows : List Rw) (j : Nat) : Prop := ∃ (x : Rw) (p dx q : Addr), rows[j]? = some x ∧ vs[j]? = some (.ref p) ∧ H p = some (.ins C dx (nodF x.d (.ref q))) ∧ SqT K H q (nodesOf vs (cix rows j x.lv))
structure Lnk (K : PySem.W.Frag) (C : Addr) (H : Hp) (vs : List V) (rows : List Rw) : Prop where
  len : vs.length = rows.length
  all : ∀ j, j < rows.length → LnkAt K C H vs rows j
theorem LnkAt.kp {K : PySem.W.Frag} {C : Addr} {H H' : Hp} {vs : List V} {rows : List Rw} {j : Nat} (s : KpS H H') (h : LnkAt K C H vs rows j) : LnkAt K C H' vs rows j := let ⟨x, p, dx, q, h1, h2, h3, h4⟩ := h; ⟨x, p, dx, q, h1, h2, s.ins h3, sqt_kp s h4⟩
theorem Lnk.kp {K : PySem.W.Frag} {C : Addr} {H H' : Hp} {vs : List V} {rows : List Rw} (s : KpS H H') (h : Lnk K C H vs rows) : Lnk K C H' vs rows := ⟨h.len, fun j hj => (h.all j hj).kp s⟩
theorem nodesOf_set {vs : List V} {is : List Nat} {k : Nat} {v : V} (h : ∀ i ∈ is, k < i) : nodesOf (vs.set k v) is = nodesOf vs is := by
  refine List.map_congr_left fun i hi => ?_
  rw [List.getElem?_set_ne (by have := h i hi; omega)]
theorem LnkAt.set {K : PySem.W.Frag} {C : Addr} {H : Hp} {vs : List V} {rows : List Rw} {j k : Nat} {v : V} (hk : k < j) (h : LnkAt K C H vs rows j) : LnkAt K C H (vs.set k v) rows j := by
  obtain ⟨x, p, dx, q, h1, h2, h3, h4⟩ := h
  refine ⟨x, p, dx, q, h1, by rw [List.getElem?_set_ne (by omega)]; exact h2, h3, ?_⟩
  rw [nodesOf_set fun i hi => by have := (cix_gt hi).1; omega]
  exact h4
theorem nodes_of {K : PySem.W.Frag} {C : Addr} {H : Hp} {vs : List V} : ∀ {S : List (Int × Nat)} {S' : List Rt}, Paired (fun (e : Int × Nat) (f : Rt) => e.1 = f.1 ∧ ∃ v, vs[e.2]? = some v ∧ NodeAt K C H v f.2.1 f.2.2) S S' → NodesAt K C H (nodesOf vs (S.map (·.2))) (toFo S')
  | _, _, .nil => rfl
  | _, _, .cons r t => by
    obtain ⟨_, v, hv, hn⟩ := r
    have := nodes_of t
    show NodesAt K C H ((vs[_]?).getD .non :: nodesOf vs _) (.cons _ _ (toFo _))
    rw [hv]
    exact NodesAt.cons hn this
theorem Lnk.pair {K : PySem.W.Frag} {C : Addr} {H : Hp} {vs : List V} {rows : List Rw} (h : Lnk K C H vs rows) : ∀ (n j : Nat), rows.length - j = n → j ≤ rows.length →
    Paired (fun (e : Int × Nat) (f : Rt) => e.1 = f.1 ∧ ∃ v, vs[e.2]? = some v ∧ NodeAt K C H v f.2.1 f.2.2) (stkI j (rows.drop j)) (stk (rows.drop j))
  | 0, j, hn, hj => by rw [List.drop_eq_nil_of_le (by omega)]; exact .nil
  | n + 1, j, hn, hj => by
    have ih := Lnk.pair h n (j + 1) (by omega) (by omega)
    obtain ⟨x, p, dx, q, hx, hv, hp, hq⟩ := h.all j (by omega)
    rw [stkI_at hx, stk_at hx]
    obtain ⟨t1, t2⟩ := Paired.tw (p := fun e : Int × Nat => decide (e.1 = x.lv + 1)) (q := fun e : Rt => decide (e.1 = x.lv + 1)) (fun a b r => by rw [r.1]) ih
    exact .cons ⟨rfl, .ref p, hv, p, dx, q, _, rfl, hp, hq, nodes_of t1⟩ t2
theorem Lnk.node {K : PySem.W.Frag} {C : Addr} {H : Hp} {vs : List V} {rows : List Rw} (h : Lnk K C H vs rows) {j : Nat} {l : Int} {d : Dt} {k : Fo} {s : List Rt} (hj : j < rows.length) (e : stk (rows.drop j) = (l, d, k) :: s) : ∃ v, vs[j]? = some v ∧ NodeAt K C H v d k := by
  have hp := Lnk.pair h _ j rfl (by omega)
  obtain ⟨x, hx⟩ : ∃ x, rows[j]? = some x := ⟨_, List.getElem?_eq_getElem hj⟩
  rw [stkI_at hx, e] at hp
  cases hp with
  | cons r t => obtain ⟨_, v, hv, hn⟩ := r; exact ⟨v, hv, hn⟩
def sp_law_made (K : PySem.W.Frag) (C : Addr) : Sp := fun vs H Q _ => ∃ (p : Addr) (rows : List Rw), vs = [.ref p] ∧ RowsIn H p rows ∧ rows.length ≤ 1000000 ∧ ∀ (q : Addr) (us : List V) (H' : Hp), Same H H' → Frs H q → H' q = some (.lst us) → Lnk K C H' us rows → Q (.ref q) H'
theorem use_made {K : PySem.W.Frag} {C p : Addr} {rows : List Rw} {H : Hp} {Q : VK} {E : XK} (hp : RowsIn H p rows) (hl : rows.length ≤ 1000000) (h : ∀ (q : Addr) (us : List V) (H' : Hp), Same H H' → Frs H q → H' q = some (.lst us) → Lnk K C H' us rows → Q (.ref q) H') : sp_law_made K C [.ref p] H Q E := ⟨p, rows, rfl, hp, hl, h⟩
section
variable {P : Program} {w : World} {K : PySem.W.Frag} {mg : Str → Option Value} {base : Heap} {aNode aNil : Addr}
theorem cal_law_made {f : Addr} {fd : FuncData} (T : Txt mg) (FD : C8.Def K mg "_law_made" s_law_made f fd) (b : Binds K fd ["rows"] [])
    (c_Node_init4 : MakK P w K mg base 1 "Node" aNode 2 ["state", "lead", "width", "look"] (sp_Node_init K aNode) (gKW [.int (-1), .ref aNil, .int (0)]))
    (c_Node_init7 : MakK P w K mg base 1 "Node" aNode 2 ["state", "lead", "width", "look", "alternative", "nodes", "popped"] (sp_Node_init K aNode) (gKW []))
    (nil_Node : ∀ H, SqT K H aNil []) : C8.Cal P w K mg base 3 "_law_made" (sp_law_made K aNode) [] := by
  refine C8.cal0 FD b .nil sc_law_made (fun vs H Q E h => ?_) (fun cdv A outer s H vs Q E hr h => ?_)
  · obtain ⟨p, rows, rfl, _⟩ := h; rfl
  · obtain ⟨p, rows, rfl, ⟨vs, hp, hrw⟩, hl, k⟩ := h
    refine ⟨_, (pss_cons (ps_set (i := 1) sc_law_made.nd rfl (.inl rfl) (pe_op op_mulU (pe_lst (pa_cons pe_non pa_nil)) (pe_callB (call_lenK K) (by rfl) T.n_len PySem.boot_len (pa_cons (pv 0) pa_nil))))
  (pss_cons (ps_set (i := 2) sc_law_made.nd rfl (.inl rfl) (pe_lst pa_nil))
  (pss_cons (ps_for PassesOwn.never rfl (pi_range3 rfl T.n_range (pa_cons (pe_op op_subU (pe_callB (call_lenK K) (by rfl) T.n_len PySem.boot_len (pa_cons (pv 0) pa_nil)) pe_int) (pa_cons (pe_un un_neg pe_int) (pa_cons (pe_un un_neg pe_int) pa_nil)))) (pg_name (i := 3) sc_law_made.nd rfl (.inl rfl)) (pss_cons (ps_set (i := 4) sc_law_made.nd rfl (.inl rfl) (pe_ix (ix_K K) (pv 0) (pv 3) (fun _ _ => rfl)))
  (pss_cons (ps_set (i := 5) sc_law_made.nd rfl (.inl rfl) (pe_lst pa_nil))
  (pss_cons (ps_while PassesOwn.never (PW.pt (pw_and (pt_truK K (pv 2) (by intro _; rfl)) (pw_and1 (pt_cmpR (op_eqK K (hu64 hr)) (pe_ix (ix_K K) (pe_ix (ix_K K) (pv 0) (pe_ix (ix_K K) (pv 2) (pe_op op_subU (pe_callB (call_lenK K) (by rfl) T.n_len PySem.boot_len (pa_cons (pv 2) pa_nil)) pe_int) (fun _ _ => rfl)) (fun _ _ => rfl)) pe_int (fun _ _ => rfl)) (pe_op (op_addK K) (pe_ix (ix_K K) (pv 4) pe_int (fun _ _ => rfl)) pe_int) (nomark _))))) (pss_one (ps_expr (pe_bm F.plainAttrs_list F.slot_list_append F.type_list_append mt_append (pv 5) (pa_cons (pe_ix (ix_K K) (pv 1) (pe_bm0 F.plainAttrs_list F.slot_list_pop F.type_list_pop mt_pop (pv 2)) (fun _ _ => rfl)) pa_nil)))))
  (pss_cons (ps_expr (pe_bm F.plainAttrs_list F.slot_list_append F.type_list_append mt_append (pv 2) (pa_cons (pv 3) pa_nil)))
  (pss_one (ps_if (PW.pt (pw_and (pt_cmpR (op_eqK K (hu64 hr)) (pe_op op_modU (pv 3) pe_int) pe_int (nomark _)) (pw_and (pt_cmpR (op_eqK K (hu64 hr)) (pe_ix (ix_K K) (pv 4) pe_int (fun _ _ => rfl)) (pe_un un_neg pe_int) (nomark _)) (pw_and (pt_cmpR (op_eqK K (hu64 hr)) (pe_ix (ix_K K) (pv 4) pe_int (fun _ _ => rfl)) pe_int (nomark _)) (pw_and1 (pt_not (pt_truK K (pv 5) (by intro _; rfl)))))))) (pss_one (ps_asg (pe_mkIK (W := W_Node4 aNode aNil) c_Node_init4 hr (by decide) (by rfl) (pa_cons (pe_ix (ix_K K) (pv 4) pe_int (fun _ _ => rfl)) (pa_cons (pe_ix (ix_K K) (pv 4) pe_int (fun _ _ => rfl)) pa_nil)) (pk_cons (pe_ix (ix_K K) (pv 4) pe_int (fun _ _ => rfl)) (pk_cons (pe_ix (ix_K K) (pv 4) pe_int (fun _ _ => rfl)) (pk_cons (pe_ix (ix_K K) (pv 4) pe_int (fun _ _ => rfl)) (pk_cons (pe_ix (ix_K K) (pv 4) pe_int (fun _ _ => rfl)) pk_nil)))) (mk_Node4 nil_Node)) (pg_sub (pv 1) (pv 3) set_list))) (pss_cons (ps_set (i := 5) sc_law_made.nd rfl (.inl rfl) (pe_callTy (call_tupleK K) (by rfl) T.n_tuple (by decide +kernel) (pa_cons (pv 5) pa_nil)))
  (pss_one (ps_asg (pe_mkIK (W := W_Node7 K aNode) c_Node_init7 hr (by decide) (by rfl) (pa_cons (pe_ix (ix_K K) (pv 4) pe_int (fun _ _ => rfl)) (pa_cons (pe_ix (ix_K K) (pv 4) pe_int (fun _ _ => rfl)) pa_nil)) (pk_cons (pe_ix (ix_K K) (pv 4) pe_int (fun _ _ => rfl)) (pk_cons (pe_ix (ix_K K) (pv 4) pe_int (fun _ _ => rfl)) (pk_cons (pe_ix (ix_K K) (pv 4) pe_int (fun _ _ => rfl)) (pk_cons (pe_ix (ix_K K) (pv 4) pe_int (fun _ _ => rfl)) (pk_cons (pe_ix (ix_K K) (pv 4) pe_int (fun _ _ => rfl)) (pk_cons (pv 5) (pk_cons (pe_ix (ix_K K) (pv 4) pe_int (fun _ _ => rfl)) pk_nil))))))) mk_Node7) (pg_sub (pv 1) (pv 3) set_list)))))))))))
  (pss_one (ps_ret (pv 1)))))), ?_⟩
    show (_ : TS) _ [some (.ref p), none, none, none, none, none] H
    have hvl := Paired.len hrw
    walk_at "rd"
    refine newO_gen fun t0 H1 g1 s1 h1 => ?_
    walk_at "rd"
    refine mul_rep h1 (by omega) (sz_le (by show 1 * _ ≤ _; omega)) ?_
    refine newO_gen fun m H2 g2 s2 h2 => ?_
    have e2 : (List.replicate ((vs.length : Int)).toNat [V.non]).flatten = List.replicate rows.length V.non := by
      rw [Int.toNat_natCast, hvl]
      induction rows.length with
      | zero => rfl
      | succ n ih => rw [List.replicate_succ, List.flatten_cons, ih, List.replicate_succ]; rfl
    rw [e2] at h2
    walk_at "rd"
    refine newO_gen fun wt H3 g3 s3 h3 => ?_
    have s03 : Same H H3 := Same.trans (Same.trans s1 s2) s3
    have gm : Frs H m := Same.fre s1 g2
    have gw : Frs H wt := Same.fre (Same.trans s1 s2) g3
    have hmw : m ≠ wt := g3.ne h2
    walk_at "rd"
    rw [show ((vs.length : Int) - 1 - -1).toNat = rows.length by omega]
    refine loopC_by (fun i σ' H' => ∃ (us : List V) (o3 o4 o5 : Option V), σ' = [some (.ref p), some (.ref m), some (.ref wt), o3, o4, o5] ∧ Same H H' ∧ H' m = some (.lst us) ∧ us.length = rows.length ∧
      H' wt = some (.lst ((stkI (rows.length - i) (rows.drop (rows.length - i))).map fun e => V.int e.2).reverse) ∧ ∀ j, rows.length - i ≤ j → j < rows.length → LnkAt K aNode H' us rows j) ?_ ?_ ?_
    · refine ⟨_, none, none, none, rfl, s03, s3 _ _ h2, by rw [List.length_replicate], ?_, fun j h1 h2 => by omega⟩
      rw [Nat.sub_zero, List.drop_eq_nil_of_le (Nat.le_refl _)]
      exact h3
    · rintro i σ' H4 hi ⟨us, o3, o4, o5, rfl, s4, h4m, hul, h4w, hlk⟩
      obtain ⟨j, hj⟩ : ∃ j, rows.length - i = j + 1 := ⟨rows.length - i - 1, by omega⟩
      rw [hj] at h4w hlk
      have hj0 : rows.length - (i + 1) = j := by omega
      rw [hj0]
      have hji : (vs.length : Int) - 1 + (i : Int) * -1 = (j : Int) := by omega
      have hjl : j < rows.length := by omega
      obtain ⟨x, hx⟩ : ∃ x, rows[j]? = some x := ⟨_, List.getElem?_eq_getElem hjl⟩
      obtain ⟨va, hva, pa, rfl, hpa⟩ := Paired.at' hrw hx
      have hatj : atI vs (j : Int) = some (.ref pa) := atI_nat hva
      replace hpa : H pa = some (.tup [.int x.lv, .str x.d.k, .str x.d.s, .int x.d.st, .int x.d.ld, .int x.d.wd, .int x.d.lk, .int x.d.al, .int x.d.pp]) := hpa
      rw [hji]
      have hp4 : H4 p = some (.lst vs) := s4 _ _ hp
      walk_at "rd"
      refine newO_gen fun bl H5 g5 s5 h5 => ?_
      have gb : Frs H bl := Same.fre s4 g5
      have hmb : m ≠ bl := g5.ne h4m
      have hwb : wt ≠ bl := g5.ne h4w
      have h5m := s5 _ _ h4m
      have h5w := s5 _ _ h4w
      generalize hS : stkI (j + 1) (rows.drop (j + 1)) = S at h4w h5w
      have hSm : ∀ e ∈ S, j < e.2 ∧ ∃ y, rows[e.2]? = some y ∧ y.lv = e.1 := fun e he => by
        rw [← hS] at he
        obtain ⟨h1, h2⟩ := stkI_drop he
        exact ⟨h1, h2⟩
      have hSl : S.length ≤ 1000000 := by
        rw [← hS]
        have := stkI_len (xs := rows.drop (j + 1)) (o := j + 1)
        rw [List.length_drop] at this
        omega
      walk_at "rd"
      refine whileC (fun mm σ' H' => ∃ B R, S = B ++ R ∧ (∀ e ∈ B, e.1 = x.lv + 1) ∧ mm = R.length ∧ σ' = [some (.ref p), some (.ref m), some (.ref wt), some (.int j), some (.ref pa), some (.ref bl)] ∧ Same H H' ∧ KpS H5 H' ∧ H' m = some (.lst us) ∧
        H' wt = some (.lst (R.map fun e => V.int e.2).reverse) ∧ H' bl = some (.lst (nodesOf us (B.map (·.2)))))
        (fun σ' H' => ∃ R, σ' = [some (.ref p), some (.ref m), some (.ref wt), some (.int j), some (.ref pa), some (.ref bl)] ∧ Same H H' ∧ KpS H5 H' ∧ H' m = some (.lst us) ∧
        H' wt = some (.lst (R.map fun e => V.int e.2).reverse) ∧ H' bl = some (.lst (nodesOf us (cix rows j x.lv))) ∧ R.length ≤ S.length ∧ stkI j (rows.drop j) = (x.lv, j) :: R) (m := S.length) ⟨[], S, rfl, (fun _ h => nomatch h), rfl, rfl, Same.trans s4 s5, KpS.same (Same.refl _), h5m, h5w, h5⟩ ?_ ?_
      · rintro nx' hnx mm σ' H6 ⟨B, R, hBR, hB, rfl, rfl, s6, k6, h6m, h6w, h6b⟩
        have hp6 : H6 p = some (.lst vs) := s6 _ _ hp
        have hpa6 := s6 _ _ hpa
        have hBl : B.length + R.length = S.length := by rw [hBR, List.length_append]
        have fin : (∀ e, R.head? = some e → ¬ e.1 = x.lv + 1) → nx' [some (.ref p), some (.ref m), some (.ref wt), some (.int j), some (.ref pa), some (.ref bl)] H6 := fun hh => by
          obtain ⟨t1, t2⟩ := tw_of (p := fun e : Int × Nat => decide (e.1 = x.lv + 1)) (B := B) (R := R) (fun e he => decide_eq_true (hB e he)) (fun e he => decide_eq_false (hh e he))
          rw [← hBR] at t1 t2
          refine hnx _ _ ⟨R, rfl, s6, k6, h6m, h6w, ?_, by omega, ?_⟩
          · unfold cix
            rw [hS, t1]
            exact h6b
          · rw [stkI_at hx, hS, t2]
        cases R with
        | nil =>
          walk_at "rd"
          exact fin fun e h => nomatch h
        | cons e R' =>
          have he := hSm e (by rw [hBR]; exact List.mem_append.mpr (.inr (List.mem_cons_self ..)))
          obtain ⟨hej, y, hy, hyl⟩ := he
          rw [show ((e :: R').map fun e => V.int e.2).reverse = (R'.map fun e => V.int e.2).reverse ++ [V.int e.2] by rw [List.map_cons, List.reverse_cons]] at h6w
          have hey := (List.getElem?_eq_some_iff.mp hy).1
          obtain ⟨vy, hvy, py, rfl, hpy⟩ := Paired.at' hrw hy
          have haty : atI vs (e.2 : Int) = some (.ref py) := atI_nat hvy
          replace hpy : H6 py = some (.tup [.int y.lv, .str y.d.k, .str y.d.s, .int y.d.st, .int y.d.ld, .int y.d.wd, .int y.d.lk, .int y.d.al, .int y.d.pp]) := s6 _ _ hpy
          have hlen : ((R'.map fun e => V.int e.2).reverse ++ [V.int e.2]).length = R'.length + 1 := by rw [List.length_append, List.length_reverse, List.length_map]; rfl
          have hlast : ((R'.map fun e => V.int e.2).reverse ++ [V.int e.2])[((R'.map fun e => V.int e.2).reverse ++ [V.int e.2]).length - 1]? = some (V.int e.2) := by
            rw [hlen, List.getElem?_append_right (by rw [List.length_reverse, List.length_map]; omega), List.length_reverse, List.length_map]
            rw [show R'.length + 1 - 1 - R'.length = 0 by omega]
            rfl
          have hatw : atI ((R'.map fun e => V.int e.2).reverse ++ [V.int e.2]) ((((R'.map fun e => V.int e.2).reverse ++ [V.int e.2]).length : Int) - 1) = some (V.int e.2) := at_of (j := ((R'.map fun e => V.int e.2).reverse ++ [V.int e.2]).length - 1) (by omega) hlast
          walk_at "rd"
          rw [show (!((R'.map fun e => V.int e.2).reverse ++ [V.int e.2]).isEmpty) = true by simp]
          walk_at "rd"
          refine ifD (fun hc => ?_) (fun hc => ?_)
          · refine wGo ?_
            obtain ⟨z, pz, dxz, qz, hz1, hz2, hz3, hz4⟩ := hlk e.2 (by omega) hey
            have hatz : atI us (e.2 : Int) = some (.ref pz) := atI_nat hz2
            walk_at "rd"
            refine pop_lst h6w hlast ?_
            refine putO_gen h6w fun H7 s7 h7w => ?_
            have h7m := s7.at hmw h6m
            have h7b := s7.at hwb.symm h6b
            have hbl : (nodesOf us (B.map (·.2))).length = B.length := by unfold nodesOf; rw [List.length_map, List.length_map]
            have hcl : (e :: R').length = R'.length + 1 := rfl
            walk_at "rd"
            refine putO_gen h7b fun H8 s8 h8b => ?_
            refine ⟨R'.length, by omega, B ++ [e], R', by rw [hBR]; simp, fun e' he' => ?_, rfl, rfl, SL.same (SL.same s6 s7 gw) s8 gb, KpS.trans (KpS.trans k6 (KpS.sl s7)) (KpS.sl s8), s8.at hmb h7m, ?_, ?_⟩
            · rcases List.mem_append.mp he' with h | h
              · exact hB e' h
              · rw [List.mem_singleton.mp h, ← hyl]; exact hc
            · rw [List.dropLast_concat] at h7w
              exact s8.at hwb h7w
            · rw [h8b]
              unfold nodesOf
              rw [List.map_append, List.map_append, List.map_singleton, List.map_singleton, hz2]
              rfl
          · walk_at "rd"
            exact fin fun e' h => by cases h; rw [← hyl]; exact hc
      · rintro σ' H6 ⟨R, rfl, s6, k6, h6m, h6w, h6b, hRl, hst⟩
        have hwl : (R.map fun e => V.int e.2).reverse.length = R.length := by rw [List.length_reverse, List.length_map]
        walk_at "rd"
        refine putO_gen h6w fun H7 s7 h7w => ?_
        rw [show (R.map fun e => V.int e.2).reverse ++ [V.int (j : Int)] = ((stkI j (rows.drop j)).map fun e => V.int e.2).reverse by rw [hst, List.map_cons, List.reverse_cons]] at h7w
        have h7m := s7.at hmw h6m
        have h7b := s7.at hwb.symm h6b
        have s07 : Same H H7 := SL.same s6 s7 gw
        have k7 : KpS H5 H7 := KpS.trans k6 (KpS.sl s7)
        have hpa7 := s07 _ _ hpa
        have fin : ∀ (H10 : Hp) (pn dx tb : Addr) (o5 : Option V), Same H H10 → H10 m = some (.lst (us.set j (.ref pn))) → H10 wt = some (.lst ((stkI j (rows.drop j)).map fun e => V.int e.2).reverse) → H10 pn = some (.ins aNode dx (nodF x.d (.ref tb))) → SqT K H10 tb (nodesOf us (cix rows j x.lv)) → KpS H5 H10 →
            ∃ (us : List V) (o3 o4 o5' : Option V), [some (V.ref p), some (V.ref m), some (V.ref wt), some (V.int j), some (V.ref pa), o5] = [some (.ref p), some (.ref m), some (.ref wt), o3, o4, o5'] ∧ Same H H10 ∧ H10 m = some (.lst us) ∧ us.length = rows.length ∧
              H10 wt = some (.lst ((stkI j (rows.drop j)).map fun e => V.int e.2).reverse) ∧ ∀ j', j ≤ j' → j' < rows.length → LnkAt K aNode H10 us rows j' := by
          intro H10 pn dx tb o5 g1 g2 g3 g4 g5 g6
          refine ⟨us.set j (.ref pn), _, _, _, rfl, g1, g2, by rw [List.length_set]; exact hul, g3, fun j' hj1 hj2 => ?_⟩
          rcases Nat.lt_or_ge j j' with c | c
          · exact ((hlk j' (by omega) hj2).kp (KpS.trans (KpS.same s5) g6)).set c
          · have : j' = j := by omega
            subst this
            refine ⟨x, pn, dx, tb, hx, by rw [List.getElem?_set_self (by omega)], g4, ?_⟩
            rw [nodesOf_set fun i hi => (cix_gt hi).1]
            exact g5
        have hix : ixN us.length (j : Int) = some j := by unfold ixN; rw [if_pos (by omega), if_pos (by omega), Int.toNat_natCast]
        refine rIfC (fun H' => H' = H7 ∧ x.d.al = -1 ∧ x.d.pp = 0 ∧ nodesOf us (cix rows j x.lv) = []) (fun H' => H' = H7) ?_ ?_ ?_
        · intro TA TB hA hB
          walk_at "rd"
          refine ifD (fun c1 => ?_) (fun c1 => ?_)
          · walk_at "rd"
            refine ifD (fun c2 => ?_) (fun c2 => ?_)
            · walk_at "rd"
              refine ifD (fun c3 => ?_) (fun c3 => ?_)
              · walk_at "rd"
                cases hE : nodesOf us (cix rows j x.lv) with
                | nil => exact hA _ ⟨rfl, c2, c3, hE⟩
                | cons a l => exact hB _ rfl
              · walk_at "rd"
                exact hB _ rfl
            · walk_at "rd"
              exact hB _ rfl
          · walk_at "rd"
            exact hB _ rfl
        · rintro H' ⟨rfl, hal, hpp, hE⟩
          walk_at "rd"
          refine ⟨x.d, rfl, rfl, hal, hpp, ?_⟩
          refine newI_gen fun pn dx H9 g9 s9 h9 => ?_
          have h9m := s9 _ _ h7m
          have h9w := s9 _ _ h7w
          walk_at "rd"
          refine putO_gen h9m fun H10 s10 h10 => ?_
          refine fin H10 pn dx aNil _ (SL.same (Same.trans s07 s9) s10 gm) h10 (s10.at hmw.symm h9w) (s10.ins h9) (by rw [hE]; exact nil_Node _) ?_
          exact KpS.trans (KpS.trans k7 (KpS.same s9)) (KpS.sl s10)
        · rintro H' rfl
          walk_at "rd"
          refine newO_gen fun tb H8 g8 s8 h8 => ?_
          have h8m := s8 _ _ h7m
          have h8w := s8 _ _ h7w
          have s08 : Same H H8 := Same.trans s07 s8
          walk_at "rd"
          refine ⟨x.d, tb, _, rfl, rfl, SqT.of h8, ?_⟩
          refine newI_gen fun pn dx H9 g9 s9 h9 => ?_
          have h9m := s9 _ _ h8m
          have h9w := s9 _ _ h8w
          walk_at "rd"
          refine putO_gen h9m fun H10 s10 h10 => ?_
          refine fin H10 pn dx tb _ (SL.same (Same.trans s08 s9) s10 gm) h10 (s10.at hmw.symm h9w) (s10.ins h9) (.inl (.inl (s10.tup (s9 _ _ h8)))) ?_
          exact KpS.trans (KpS.trans (KpS.trans k7 (KpS.same s8)) (KpS.same s9)) (KpS.sl s10)
    · rintro σ' H4 ⟨us, o3, o4, o5, rfl, s4, h4m, hul, h4w, hlk⟩
      walk_at "rd"
      exact k m us H4 s4 gm h4m ⟨hul, fun j hj => hlk j (by omega) hj⟩
end
end Z
namespace Z
open PySem PySem.Spec L2
/-! ## lists of edits as data -/
theorem eds_dp {K : PySem.W.Frag} {H : Hp} : ∀ {us : List V} {es : List Ed}, Edits H us es → DpAll K H us (es.map edD)
  | _, _, .nil => .nil
  | _, _, .cons r t => .cons (ed_dp r) (eds_dp t)
theorem eds_lay : ∀ {es : List Ed}, (∀ x ∈ es, Ok x.n) → PyData.canLayAll0 (es.map edD) = true ∧ PyData.depthAll (es.map edD) ≤ 1
  | [], _ => ⟨rfl, Nat.zero_le _⟩
  | x :: es, h => by
    obtain ⟨h1, h2⟩ := eds_lay (es := es) fun y hy => h y (List.mem_cons_of_mem _ hy)
    have hx := (h x (List.mem_cons_self ..)).strOk
    have e1 : PyData.canLay0 (edD x) = true := by
      unfold edD
      simp [PyData.canLay0, PyData.canLayAll0, hx]
    have e2 : PyData.depth (edD x) ≤ 1 := by
      unfold edD
      simp [PyData.depth, PyData.depthAll]
    refine ⟨?_, ?_⟩
    · show (PyData.canLay0 (edD x) && PyData.canLayAll0 (es.map edD)) = true
      rw [e1, h1]
      rfl
    · show max (PyData.depth (edD x)) (PyData.depthAll (es.map edD)) ≤ 1
      omega
theorem eds_shaped {es : List Ed} (h : ∀ x ∈ es, Ok x.n) (hl : es.length ≤ 400) : SeqAt.shaped (.list (es.map edD)) = true := by
  obtain ⟨h1, h2⟩ := eds_lay h
  unfold SeqAt.shaped
  simp [PyData.canLay0, PyData.depth, h1]
  omega
theorem eds_eqv : ∀ es : List Ed, PyData.eqvAll (es.map edD) (es.map edD) = true
  | [] => by simp only [List.map_nil, PyData.eqvAll]
  | x :: es => by
    simp only [List.map_cons, PyData.eqvAll]
    rw [eds_eqv es, edD_eqv, decide_eq_true rfl]
    rfl
/-- == of a list of edits with itself, as it stands at two places -/
theorem ne_eds {K : PySem.W.Frag} {H : Hp} {p q : Addr} {us ws : List V} {es : List Ed} {Q : VK} (hp : H p = some (.lst us)) (hq : H q = some (.lst ws)) (h1 : Edits H us es) (h2 : Edits H ws es) (hk : ∀ x ∈ es, Ok x.n) (hl : es.length ≤ 400) (h : Q (.bl false) H) : rNeU K (.ref p) (.ref q) H Q := by
  refine ne_deep (.lst (SqL.of hp) (eds_dp h1)) (.lst (SqL.of hq) (eds_dp h2)) (eds_shaped hk hl) (eds_shaped hk hl) ?_
  have e : PyData.eqv (.list (es.map edD)) (.list (es.map edD)) = true := by
    simp only [PyData.eqv]
    exact eds_eqv es
  rw [e]
  exact h
/-- == of two lists of edits -/
theorem eq_eds {K : PySem.W.Frag} {H : Hp} {p q : Addr} {us ws : List V} {es : List Ed} {Q : VK} (hp : H p = some (.lst us)) (hq : H q = some (.lst ws)) (h1 : Edits H us es) (h2 : Edits H ws es) (hk : ∀ x ∈ es, Ok x.n) (hl : es.length ≤ 400) (h : Q (.bl true) H) : rEqU K (.ref p) (.ref q) H Q := by
  refine eq_deep (.lst (SqL.of hp) (eds_dp h1)) (.lst (SqL.of hq) (eds_dp h2)) (eds_shaped hk hl) (eds_shaped hk hl) ?_
  have e : PyData.eqv (.list (es.map edD)) (.list (es.map edD)) = true := by
    simp only [PyData.eqv]
    exact eds_eqv es
  rw [e]
  exact h
theorem fits_fu {sz : Int} {es : List Ed} (h : fu sz es = -1) : fits sz es := by
  rcases fu_cases sz es with ⟨_, h2⟩ | ⟨j, _, e, _, _⟩
  · exact h2
  · omega
/-- the first k fit exactly if all do, or the first that does not stands behind them -/
theorem fu_take {sz : Int} {es : List Ed} (k : Nat) : fu sz (es.take k) = -1 ↔ (fu sz es = -1 ∨ (k : Int) ≤ fu sz es) ∨ (es.length < k ∧ fu sz es = -1) := by
  constructor
  · intro h
    have hf := fits_fu h
    rcases fu_cases sz es with ⟨e, _⟩ | ⟨j, hj, e, _, h3⟩
    · exact .inl (.inl e)
    · refine .inl (.inr ?_)
      rw [e]
      by_cases c : k ≤ j
      · omega
      · exfalso
        refine h3 ?_
        have := fits_take hf (j + 1)
        rw [List.take_take, Nat.min_eq_left (by omega)] at this
        exact this
  · rintro ((e | e) | ⟨_, e⟩)
    · exact fu_fits (fits_take (fits_fu e) k)
    · rcases fu_cases sz es with ⟨e2, h2⟩ | ⟨j, hj, e2, h2, _⟩
      · exact fu_fits (fits_take h2 k)
      · have := fits_take h2 k
        rw [List.take_take, Nat.min_eq_left (by omega)] at this
        exact fu_fits this
    · exact fu_fits (fits_take (fits_fu e) k)
theorem not_bad {sz : Int} {es : List Ed} {P : Nat → Prop} (hf : fits sz es) : ∀ n : Nat, fu sz es = n → n ≤ 1000 → P n := fun n h _ => by
  rw [fu_fits hf] at h
  omega
end Z
namespace Z
open PySem PySem.Spec L2
/-! ## data that is compared -/
section
variable {α : Type} {f : α → PyData}
theorem eqvAll_map [DecidableEq α] (h : ∀ x y, PyData.eqv (f x) (f y) = decide (x = y)) : ∀ l l' : List α, PyData.eqvAll (l.map f) (l'.map f) = decide (l = l')
  | [], [] => by simp [PyData.eqvAll]
  | [], y :: l' => by simp [PyData.eqvAll]
  | x :: l, [] => by simp [PyData.eqvAll]
  | x :: l, y :: l' => by
    rw [Bool.eq_iff_iff]
    simp only [List.map_cons, PyData.eqvAll, eqvAll_map h l l', h, Bool.and_eq_true, decide_eq_true_eq, List.cons.injEq]
theorem eqvL_map [DecidableEq α] (h : ∀ x y, PyData.eqv (f x) (f y) = decide (x = y)) (l l' : List α) : PyData.eqv (.list (l.map f)) (.list (l'.map f)) = decide (l = l') := by
  simp only [PyData.eqv]
  exact eqvAll_map h l l'
theorem eqvT_map [DecidableEq α] (h : ∀ x y, PyData.eqv (f x) (f y) = decide (x = y)) (l l' : List α) : PyData.eqv (.tuple (l.map f)) (.tuple (l'.map f)) = decide (l = l') := by
  simp only [PyData.eqv]
  exact eqvAll_map h l l'
theorem lay_map {n : Nat} : ∀ {l : List α}, (∀ x ∈ l, PyData.canLay0 (f x) = true ∧ PyData.depth (f x) ≤ n) → PyData.canLayAll0 (l.map f) = true ∧ PyData.depthAll (l.map f) ≤ n
  | [], _ => ⟨by simp [PyData.canLayAll0], by simp [PyData.depthAll]⟩
  | x :: l, h => by
    obtain ⟨h1, h2⟩ := lay_map (l := l) fun y hy => h y (List.mem_cons_of_mem _ hy)
    obtain ⟨e1, e2⟩ := h x (List.mem_cons_self ..)
    refine ⟨?_, ?_⟩
    · show (PyData.canLay0 (f x) && PyData.canLayAll0 (l.map f)) = true
      rw [e1, h1]
      rfl
    · show max (PyData.depth (f x)) (PyData.depthAll (l.map f)) ≤ n
      omega
theorem shapedL {n : Nat} {l : List α} (hn : n ≤ 60) (h : ∀ x ∈ l, PyData.canLay0 (f x) = true ∧ PyData.depth (f x) ≤ n) : SeqAt.shaped (.list (l.map f)) = true := by
  obtain ⟨h1, h2⟩ := lay_map h
  unfold SeqAt.shaped
  simp [PyData.canLay0, PyData.depth, h1]
  omega
theorem shapedT {n : Nat} {l : List α} (hn : n ≤ 60) (h : ∀ x ∈ l, PyData.canLay0 (f x) = true ∧ PyData.depth (f x) ≤ n) : SeqAt.shaped (.tuple (l.map f)) = true := by
  obtain ⟨h1, h2⟩ := lay_map h
  unfold SeqAt.shaped
  simp [PyData.canLay0, PyData.depth, h1]
  omega
theorem dp_map {K : PySem.W.Frag} {H : Hp} {R : V → α → Prop} (h : ∀ v x, R v x → Dp K H v (f x)) : ∀ {vs : List V} {l : List α}, Paired R vs l → DpAll K H vs (l.map f)
  | _, _, .nil => .nil
  | _, _, .cons r t => .cons (h _ _ r) (dp_map h t)
end
/-! ### rows -/
def rwD (r : Rw) : PyData := .tuple [.int r.lv, .str r.d.k, .str r.d.s, .int r.d.st, .int r.d.ld, .int r.d.wd, .int r.d.lk, .int r.d.al, .int r.d.pp]
theorem rwD_eqv (x y : Rw) : PyData.eqv (rwD x) (rwD y) = decide (x = y) := by
  obtain ⟨l, a, b, c, d, e, f, g, h⟩ := x
  obtain ⟨l', a', b', c', d', e', f', g', h'⟩ := y
  rw [Bool.eq_iff_iff]
  simp [rwD, PyData.eqv, PyData.eqvAll, and_assoc]
theorem rwD_lay {r : Rw} (h : DtOk r.d) : PyData.canLay0 (rwD r) = true ∧ PyData.depth (rwD r) ≤ 1 := by
  unfold rwD
  refine ⟨?_, ?_⟩
  · simp [PyData.canLay0, PyData.canLayAll0, h.k.2.strOk, h.s.2.strOk]
  · simp [PyData.depth, PyData.depthAll]
/-! ### what two nodes are compared by -/
structure Cm where
  k : Str
  s : Str
  st : Int
  al : Int
  ld : Int
  pp : Int
  n : Int
  w : Int
deriving DecidableEq
def cmOf (d : Dt) (n : Nat) : Cm := ⟨d.k, d.s, d.st, d.al, d.ld, d.pp, n, if n = 0 then d.wd else 0⟩
/-- the order in which each def puts them -/
def cmD (c : Cm) : PyData := .tuple [.str c.k, .str c.s, .int c.st, .int c.al, .int c.ld, .int c.pp, .int c.n, .int c.w]
def cmE (c : Cm) : PyData := .tuple [.str c.k, .str c.s, .int c.st, .int c.ld, .int c.al, .int c.pp, .int c.n, .int c.w]
theorem cmD_eqv (x y : Cm) : PyData.eqv (cmD x) (cmD y) = decide (x = y) := by
  obtain ⟨a, b, c, d, e, f, g, h⟩ := x
  obtain ⟨a', b', c', d', e', f', g', h'⟩ := y
  rw [Bool.eq_iff_iff]
  simp [cmD, PyData.eqv, PyData.eqvAll, and_assoc]
theorem cmE_eqv (x y : Cm) : PyData.eqv (cmE x) (cmE y) = decide (x = y) := by
  obtain ⟨a, b, c, d, e, f, g, h⟩ := x
  obtain ⟨a', b', c', d', e', f', g', h'⟩ := y
  rw [Bool.eq_iff_iff]
  simp [cmE, PyData.eqv, PyData.eqvAll, and_assoc]
  intros
  constructor <;> (rintro ⟨h1, h2, h3⟩; exact ⟨h2, h1, h3⟩)
theorem cmD_shaped {c : Cm} (h1 : Ok c.k) (h2 : Ok c.s) : SeqAt.shaped (cmD c) = true := by
  unfold cmD SeqAt.shaped
  simp [PyData.canLay0, PyData.canLayAll0, PyData.depth, PyData.depthAll, h1.strOk, h2.strOk]
theorem cmE_shaped {c : Cm} (h1 : Ok c.k) (h2 : Ok c.s) : SeqAt.shaped (cmE c) = true := by
  unfold cmE SeqAt.shaped
  simp [PyData.canLay0, PyData.canLayAll0, PyData.depth, PyData.depthAll, h1.strOk, h2.strOk]
/-! ### paths -/
def paD (p : List Int) : PyData := .tuple (p.map PyData.int)
theorem int_eqv (x y : Int) : PyData.eqv (.int x) (.int y) = decide (x = y) := by
  rw [Bool.eq_iff_iff]
  simp [PyData.eqv]
theorem paD_eqv (x y : List Int) : PyData.eqv (paD x) (paD y) = decide (x = y) := eqvT_map int_eqv x y
theorem int_lay {x : Int} : PyData.canLay0 (.int x) = true ∧ PyData.depth (.int x) ≤ 0 := ⟨by simp [PyData.canLay0], by simp [PyData.depth]⟩
theorem paD_lay (p : List Int) : PyData.canLay0 (paD p) = true ∧ PyData.depth (paD p) ≤ 1 := by
  obtain ⟨h1, h2⟩ := lay_map (f := PyData.int) (n := 0) (l := p) fun _ _ => int_lay
  unfold paD
  refine ⟨?_, ?_⟩
  · simp [PyData.canLay0, h1]
  · simp [PyData.depth]
    omega
end Z
namespace Z
open PySem PySem.Spec L2 ItX
local macro_rules | `(tactic| walk_at "ne") => `(tactic| first
  | with_reducible assumption
  | with_reducible exact Ne.symm (by assumption)
  | exact Frs.ne (by with_reducible assumption) (by walk_at "hp")
  | exact Frs.ne' (by with_reducible assumption) (by walk_at "hp"))
local macro_rules | `(tactic| walk_at "hp") => `(tactic| first
  | with_reducible assumption
  | (with_reducible refine Same.at (by assumption) ?_; walk_at "hp")
  | (with_reducible refine SL.tup (by assumption) ?_; walk_at "hp")
  | (with_reducible refine SL.at (by assumption) (by walk_at "ne") ?_; walk_at "hp"))
local macro_rules | `(tactic| walk_at "sz") => `(tactic| first
  | with_reducible assumption
  | exact Nat.le_of_ble_eq_true rfl
  | (refine sz_le ?_; omega)
  | (refine sz_lt ?_; omega)
  | decide +kernel)
local macro_rules | `(tactic| walk_at "at") => `(tactic| first
  | with_reducible assumption
  | with_reducible exact at0
  | with_reducible exact at1
  | with_reducible exact at2
  | with_reducible exact ixN0)
local macro_rules | `(tactic| walk_at "nn") => `(tactic| first
  | omega
  | decide
  | exact ⟨by decide, by decide⟩
  | exact ⟨by omega, by omega⟩
  | exact ⟨by omega, by omega, by omega, by omega⟩)
local macro_rules | `(tactic| walk_at "rdv") => `(tactic| first
  | (with_reducible refine add_int ?_)
  | (with_reducible refine sub_int ?_)
  | (with_reducible refine neg_int ?_)
  | ((with_reducible refine ix_tpl (xs := ?xs) (v := ?v) ?h1 ?h2 ?_); (case h1 => walk_at "hp"); (case h2 => walk_at "at"))
  | ((with_reducible refine ix_lst (xs := ?xs) (v := ?v) ?h1 ?h2 ?_); (case h1 => walk_at "hp"); (case h2 => walk_at "at"))
  | (with_reducible refine eq_int ?_)
  | (with_reducible refine ne_int ?_)
  | (with_reducible refine lt_int ?_)
  | (with_reducible refine le_int ?_)
  | (with_reducible refine gt_int ?_)
  | (with_reducible refine ge_int ?_)
  | (with_reducible refine eq_str ?_)
  | (with_reducible refine ne_str ?_)
  | (with_reducible refine eq_bl ?_)
  | (with_reducible refine ne_bl ?_)
  | ((with_reducible refine mod_int ?hc ?_); (case hc => walk_at "nn"))
  | ((with_reducible refine div_int ?hc ?_); (case hc => walk_at "nn"))
  | ((with_reducible refine mul_intR ?hc ?_); (case hc => exact ⟨by decide, by decide⟩))
  | ((with_reducible refine mul_intR ?hc ?_); (case hc => exact ⟨by omega, by omega⟩))
  | ((with_reducible refine mul_intL ?hc ?_); (case hc => exact ⟨by omega, by omega⟩))
  | ((with_reducible refine pow_int ?hc ?_); (case hc => exact ⟨by decide, by decide, by decide⟩))
  | ((with_reducible refine add_str ?hc ?_); (case hc => walk_at "sz"))
  | ((with_reducible refine add_lst (xs := ?xs) (ys := ?ys) ?h1 ?h2 ?hc ?_); (case h1 => walk_at "hp"); (case h2 => walk_at "hp"); (case hc => walk_at "sz"))
  | ((with_reducible refine sl_strU ?hc ?_); (case hc => walk_at "sz"))
  | ((with_reducible refine sl_lst (xs := ?xs) ?h1 ?_); (case h1 => walk_at "hp"))
  | (with_reducible refine is_bl ?_)
  | (with_reducible refine isnt_bl ?_)
  | (with_reducible refine is_non ?_)
  | (with_reducible refine isnt_non ?_))
local macro_rules | `(tactic| walk_at "rdc") => `(tactic| first
  | ((with_reducible refine len_lst (xs := ?xs) ?h1 ?_); (case h1 => walk_at "hp"))
  | ((with_reducible refine len_tup (xs := ?xs) ?h1 ?_); (case h1 => walk_at "hp"))
  | ((with_reducible refine len_str ?hc ?_); (case hc => walk_at "sz"))
  | (with_reducible refine int_int ?_)
  | (with_reducible refine max_int ?_)
  | (with_reducible refine min_int ?_)
  | (with_reducible refine abs_int ?_)
  | (with_reducible refine isi_ii ?_)
  | (with_reducible refine isi_ib ?_)
  | (with_reducible refine isi_ss ?_)
  | (with_reducible refine isi_bb ?_)
  | ((with_reducible refine isi_tt (xs := ?xs) ?h1 ?_); (case h1 => walk_at "hp"))
  | ((with_reducible refine isi_ll (xs := ?xs) ?h1 ?_); (case h1 => walk_at "hp"))
  | ((with_reducible refine list_lst (xs := ?xs) ?h1 ?_); (case h1 => walk_at "hp"))
  | ((with_reducible refine list_tup (xs := ?xs) ?h1 ?_); (case h1 => walk_at "hp"))
  | ((with_reducible refine tuple_lst (xs := ?xs) ?h1 ?_); (case h1 => walk_at "hp"))
  | ((with_reducible refine tuple_tup (xs := ?xs) ?h1 ?_); (case h1 => walk_at "hp"))
  | ((with_reducible refine append_lst (xs := ?xs) ?h1 ?hc ?_); (case h1 => walk_at "hp"); (case hc => walk_at "sz"))
  | ((with_reducible refine clear_lst (xs := ?xs) ?h1 ?_); (case h1 => walk_at "hp"))
  | ((with_reducible refine set_lst (xs := ?xs) (k := ?k) ?h1 ?h2 ?_); (case h1 => walk_at "hp"); (case h2 => walk_at "at")))
local macro_rules | `(tactic| walk_at "rd1") => `(tactic| first
  | ((with_reducible refine rVar (v := ?v) ?h ?_); (case h => exact rfl))
  | (with_reducible refine rC ?_)
  | (with_reducible refine rCons ?_)
  | (with_reducible refine rNil ?_)
  | (with_reducible refine rOp ?_)
  | (with_reducible refine rSeq ?_)
  | (with_reducible refine rAsgN ?_)
  | (with_reducible refine rAsgT ?_)
  | (with_reducible refine rAsgS ?_)
  | (with_reducible refine rTest ?_)
  | (with_reducible refine rBl ?_)
  | (with_reducible refine rBl' ?_)
  | (with_reducible refine rInt ?_)
  | (with_reducible refine rInt' ?_)
  | (with_reducible refine rCall ?_)
  | (with_reducible refine rCB ?_)
  | (with_reducible refine rRet ?_)
  | (with_reducible refine rDrop ?_)
  | (with_reducible refine rIfS ?_)
  | (with_reducible refine rTup ?_)
  | (with_reducible refine rLst ?_)
  | (with_reducible refine ⟨Nat.le_of_ble_eq_true rfl, ?_⟩)
  | (with_reducible refine rSl ?_)
  | (with_reducible refine rPart ?_)
  | (with_reducible refine rNoPart ?_)
  | (with_reducible refine rBM ?_)
  | (with_reducible refine rBM0 ?_)
  | ((with_reducible refine tyL (xs := ?xs) ?h1 ?_); (case h1 => walk_at "hp"))
  | (with_reducible refine rM1 ?_)
  | (with_reducible refine rM0 ?_)
  | (with_reducible refine rStr ?_)
  | (with_reducible refine rTru ?_)
  | (with_reducible refine tru_bl ?_)
  | (with_reducible refine tru_int ?_)
  | ((with_reducible refine tru_lst (xs := ?xs) ?h1 ?_); (case h1 => walk_at "hp"))
  | ((with_reducible refine tru_tup (xs := ?xs) ?h1 ?_); (case h1 => walk_at "hp"))
  | ((with_reducible refine tru_str ?hc ?_); (case hc => walk_at "sz"))
  | (with_reducible refine rAnd ?_)
  | (with_reducible refine rOr ?_)
  | (with_reducible refine rNot ?_)
  | (with_reducible refine rAndV ?_)
  | (with_reducible refine rOrV ?_)
  | (with_reducible refine rNotV ?_)
  | (with_reducible refine rIfE ?_)
  | (with_reducible refine rChain ?_)
  | (with_reducible refine rChain3 ?_)
  | (with_reducible refine ifT ?_)
  | (with_reducible refine ifF ?_)
  | (with_reducible refine ifNF ?_)
  | (with_reducible refine ifNT ?_)
  | (with_reducible refine rNext ?_)
  | (with_reducible refine rBrk ?_)
  | (with_reducible refine rCnt ?_)
  | (with_reducible refine rRetN ?_)
  | (with_reducible refine rForR1 ?_)
  | (with_reducible refine rForR2 ?_)
  | (with_reducible refine rForL ?_)
  | ((with_reducible refine rRg1 ?hb ?_); (case hb => walk_at "nn"))
  | ((with_reducible refine rRg2 ?hb ?_); (case hb => walk_at "nn"))
  | ((with_reducible refine rRf (xs := ?xs) ?h1 ?_); (case h1 => walk_at "hp"))
  | (with_reducible refine rLcR1 ?_)
  | (with_reducible refine rLcR2 ?_)
  | (with_reducible refine rLcL ?_)
  | (with_reducible refine gN ?_)
  | (with_reducible refine gNl ?_)
  | (with_reducible refine gC ?_)
  | ((with_reducible refine gT (xs := ?xs) ?h1 ?h2 ?_); (case h1 => walk_at "hp"); (case h2 => exact rfl))
  | (with_reducible refine rUn ?_)
  | walk_at "rdv"
  | walk_at "rdc")
local macro_rules | `(tactic| walk_at "rd") => `(tactic| repeat walk_at "rd1")

local macro_rules | `(tactic| walk_at "rd1") => `(tactic| first
  | (with_reducible refine rCallS ?_)
  | (with_reducible refine rRaise ?_)
  | (with_reducible refine rXf ?_)
  | (with_reducible refine rXi ?_)
  | (with_reducible refine rOst ?_)
  | (with_reducible refine rRevL ?_)
  | ((with_reducible refine revL_end (xs := ?xs) ?h1 ?_); (case h1 => walk_at "hp")))

local macro_rules | `(tactic| walk_at "rd1") => `(tactic| first
  | (with_reducible refine rForR3 ?_)
  | ((with_reducible refine rRgD ?hb ?_); (case hb => walk_at "nn"))
  | (with_reducible refine gS ?_))

local macro_rules | `(tactic| walk_at "rd1") => `(tactic| first
  | (with_reducible refine rFld ?_)
  | (with_reducible refine rSFld ?_)
  | (with_reducible refine rMake ?_)
  | (with_reducible refine rMeth ?_)
  | (with_reducible refine rForT ?_)
  | (with_reducible refine rLcT ?_)
  | (with_reducible refine rLcO ?_)
  | (with_reducible refine rForO ?_)
  | (with_reducible refine rLstY ?_)
  | ((with_reducible refine rRt (xs := ?xs) ?h1 ?_); (case h1 => walk_at "hp"))
  | ((with_reducible refine listY_lst (xs := ?xs) ?h1 ?_); (case h1 => walk_at "hp"))
  | ((with_reducible refine listY_tup (xs := ?xs) ?h1 ?_); (case h1 => walk_at "hp")))

local macro_rules | `(tactic| walk_at "hp") => `(tactic| first
  | (with_reducible refine SL.ins (by assumption) ?_; walk_at "hp"))
local macro_rules | `(tactic| walk_at "at") => `(tactic| first
  | with_reducible exact at3
  | with_reducible exact at4
  | with_reducible exact at5
  | with_reducible exact at6
  | with_reducible exact at7
  | with_reducible exact at8)
local macro_rules | `(tactic| walk_at "rd1") => `(tactic| first
  | (with_reducible refine rMkWK ?_)
  | (with_reducible refine rForS ?_)
  | (with_reducible refine rDGet ?_)
  | (with_reducible refine rDPut ?_)
  | (with_reducible refine rIts ?_)
  | (with_reducible refine rLstRg ?_)
  | ((with_reducible refine reverse_lst (xs := ?xs) ?h1 ?_); (case h1 => walk_at "hp"))
  | ((with_reducible refine extend_lst (xs := ?xs) (ys := ?ys) ?h1 ?h2 ?hc ?_); (case h1 => walk_at "hp"); (case h2 => walk_at "hp"); (case hc => walk_at "sz"))
  | ((with_reducible refine fN_kind (mg := ?mg) (C := ?C) (dx := ?dx) (d := ?d) (ns := ?ns) ?hu ?hp ?_); (case hu => with_reducible assumption); (case hp => walk_at "hp"))
  | ((with_reducible refine fN_symbol (mg := ?mg) (C := ?C) (dx := ?dx) (d := ?d) (ns := ?ns) ?hu ?hp ?_); (case hu => with_reducible assumption); (case hp => walk_at "hp"))
  | ((with_reducible refine fN_state (mg := ?mg) (C := ?C) (dx := ?dx) (d := ?d) (ns := ?ns) ?hu ?hp ?_); (case hu => with_reducible assumption); (case hp => walk_at "hp"))
  | ((with_reducible refine fN_lead (mg := ?mg) (C := ?C) (dx := ?dx) (d := ?d) (ns := ?ns) ?hu ?hp ?_); (case hu => with_reducible assumption); (case hp => walk_at "hp"))
  | ((with_reducible refine fN_width (mg := ?mg) (C := ?C) (dx := ?dx) (d := ?d) (ns := ?ns) ?hu ?hp ?_); (case hu => with_reducible assumption); (case hp => walk_at "hp"))
  | ((with_reducible refine fN_look (mg := ?mg) (C := ?C) (dx := ?dx) (d := ?d) (ns := ?ns) ?hu ?hp ?_); (case hu => with_reducible assumption); (case hp => walk_at "hp"))
  | ((with_reducible refine fN_alternative (mg := ?mg) (C := ?C) (dx := ?dx) (d := ?d) (ns := ?ns) ?hu ?hp ?_); (case hu => with_reducible assumption); (case hp => walk_at "hp"))
  | ((with_reducible refine fN_nodes (mg := ?mg) (C := ?C) (dx := ?dx) (d := ?d) (ns := ?ns) ?hu ?hp ?_); (case hu => with_reducible assumption); (case hp => walk_at "hp"))
  | ((with_reducible refine fN_popped (mg := ?mg) (C := ?C) (dx := ?dx) (d := ?d) (ns := ?ns) ?hu ?hp ?_); (case hu => with_reducible assumption); (case hp => walk_at "hp")))

theorem isi_sqt {K : PySem.W.Frag} {H : Hp} {Q : VK} {p : Addr} {xs : List V} (h1 : SqT K H p xs) (h : Q (.bl true) H) : rIsiU K [.ref p, .ty "tuple"] H Q := by
  rcases h1 with (h1 | ⟨o, h1⟩) | ⟨o, its, n, h1, h2, _⟩
  · exact isi_tt h1 h
  · exact isi_ty (.fTuple h1) kb_tt h
  · exact isi_ty (.kTuple h1 h2) kb_tt h
/-- what waits to be told -/
def PendAt (K : PySem.W.Frag) (C : Addr) (H : Hp) (v : V) (e : Rt) : Prop := ∃ (t : Addr) (u : V), v = .ref t ∧ H t = some (.tup [.int e.1, u]) ∧ NodeAt K C H u e.2.1 e.2.2
theorem PendAt.kp {K : PySem.W.Frag} {C : Addr} {H H' : Hp} (s : KpS H H') {v : V} {e : Rt} (h : PendAt K C H v e) : PendAt K C H' v e := let ⟨t, u, h1, h2, h3⟩ := h; ⟨t, u, h1, s.tp _ _ h2, h3.kp s⟩
def pendR : List Rt → List Rw
  | [] => []
  | e :: t => ⟨e.1, e.2.1⟩ :: (rowsF (e.1 + 1) e.2.2 ++ pendR t)
theorem pendR_app : ∀ a b : List Rt, pendR (a ++ b) = pendR a ++ pendR b
  | [], _ => rfl
  | e :: a, b => by
    show _ :: (_ ++ pendR (a ++ b)) = _ :: (_ ++ pendR a) ++ pendR b
    rw [pendR_app a b]
    simp
theorem pendR_roots (L : Int) : ∀ f : Fo, pendR (rootsF L f) = rowsF L f
  | .nil => rfl
  | .cons d k r => by
    show ⟨L, d⟩ :: (rowsF (L + 1) k ++ pendR (rootsF L r)) = _
    rw [pendR_roots L r]
    rfl
theorem roots_len (L : Int) : ∀ f : Fo, (rootsF L f).length = f.len
  | .nil => rfl
  | .cons d k r => congrArg (· + 1) (roots_len L r)
theorem pend_len : ∀ s : List Rt, s.length ≤ (pendR s).length
  | [] => Nat.le_refl _
  | e :: s => by
    have := pend_len s
    show s.length + 1 ≤ (_ ++ pendR s).length + 1
    rw [List.length_append]
    omega
/-- the i-th of a row of nodes -/
theorem NodesAt.at {K : PySem.W.Frag} {C : Addr} {H : Hp} (L : Int) : ∀ {f : Fo} {vs : List V} {i : Nat}, NodesAt K C H vs f → i < f.len → ∃ v e, vs[i]? = some v ∧ (rootsF L f)[i]? = some e ∧ e.1 = L ∧ NodeAt K C H v e.2.1 e.2.2
  | .nil, _, _, _, h => absurd h (Nat.not_lt_zero _)
  | .cons d k r, vs, 0, h, _ => by
    obtain ⟨p, dx, q, us, t, rfl, h1, h2, h3, h4⟩ := h
    exact ⟨.ref p, (L, d, k), rfl, rfl, rfl, p, dx, q, us, rfl, h1, h2, h3⟩
  | .cons d k r, vs, i + 1, h, hi => by
    obtain ⟨p, dx, q, us, t, rfl, h1, h2, h3, h4⟩ := h
    obtain ⟨v, e, a, b, c⟩ := NodesAt.at L (i := i) h4 (by have : i + 1 < r.len + 1 := hi; omega)
    exact ⟨v, e, a, b, c⟩
def sp_law_told (K : PySem.W.Frag) (C : Addr) : Sp := fun vs H Q _ => ∃ (v : V) (d : Dt) (k : Fo) (n : Int), vs = [v, .int n] ∧ NodeAt K C H v d k ∧ n = k.cnt + 2 ∧ k.cnt ≤ 1000000 ∧ ∀ (p : Addr) (H' : Hp), Same H H' → Frs H p → RowsIn H' p (⟨0, d⟩ :: rowsF 1 k) → Q (.ref p) H'
theorem use_told {K : PySem.W.Frag} {C : Addr} {v : V} {d : Dt} {k : Fo} {n : Int} {H : Hp} {Q : VK} {E : XK} (hv : NodeAt K C H v d k) (hn : n = k.cnt + 2) (hl : k.cnt ≤ 1000000) (h : ∀ (p : Addr) (H' : Hp), Same H H' → Frs H p → RowsIn H' p (⟨0, d⟩ :: rowsF 1 k) → Q (.ref p) H') : sp_law_told K C [v, .int n] H Q E := ⟨v, d, k, n, rfl, hv, hn, hl, h⟩
section
variable {P : Program} {w : World} {K : PySem.W.Frag} {mg : Str → Option Value} {base : Heap} {aNode aNil : Addr}
theorem cal_law_told {f : Addr} {fd : FuncData} (T : Txt mg) (FD : C8.Def K mg "_law_told" s_law_told f fd) (b : Binds K fd ["root", "most"] [])
    (u_Node : F_Node K mg aNode) : C8.Cal P w K mg base 1 "_law_told" (sp_law_told K aNode) [] := by
  refine C8.cal0 FD b .nil sc_law_told (fun vs H Q E h => ?_) (fun cdv A outer s H vs Q E hr h => ?_)
  · obtain ⟨v, d, k, n, rfl, _⟩ := h; rfl
  · obtain ⟨v, d, k, n, rfl, hv, rfl, hl, kk⟩ := h
    refine ⟨_, (pss_cons (ps_set (i := 2) sc_law_told.nd rfl (.inl rfl) (pe_lst pa_nil))
  (pss_cons (ps_set (i := 3) sc_law_told.nd rfl (.inl rfl) (pe_lst (pa_cons (pe_tup (pa_cons pe_int (pa_cons (pv 0) pa_nil))) pa_nil)))
  (pss_cons (ps_for PassesOwn.never rfl (pi_range1 rfl T.n_range (pa_cons (pv 1) pa_nil)) (pg_name (i := 4) sc_law_told.nd rfl (.inl rfl)) (pss_cons (ps_if (pt_not (pt_truK K (pv 3) (by intro _; rfl))) (pss_one (ps_ret (pv 2))) pss_nil)
  (pss_cons (ps_asg (pe_bm0 F.plainAttrs_list F.slot_list_pop F.type_list_pop mt_pop (pv 3)) (pg_tup rfl (pgs_cons (pg_name (i := 5) sc_law_told.nd rfl (.inl rfl)) (pgs_cons (pg_name (i := 6) sc_law_told.nd rfl (.inl rfl)) pgs_nil))))
  (pss_cons (ps_if (PW.pt (pw_or (pt_not (pt_truK K (pe_callB (call_isiK' K) (by rfl) T.n_isinstance (by decide +kernel) (pa_cons (pv 6) (pa_cons (pe_cls (by rfl) u_Node.u.mgC) pa_nil))) (by intro _; rfl))) (pw_or1 (pt_not (pt_truK K (pe_callB (call_isiK' K) (by rfl) T.n_isinstance (by decide +kernel) (pa_cons (pe_fldK (K := K) (pv 6) rfl) (pa_cons (pe_bltn (v := .ty "tuple") (by rfl) T.n_tuple (by decide +kernel) rfl) pa_nil))) (by intro _; rfl)))))) (pss_one (ps_ret (pe_lst pa_nil))) pss_nil)
  (pss_cons (ps_set (i := 7) sc_law_told.nd rfl (.inl rfl) (pe_tup (pa_cons (pe_fldK (K := K) (pv 6) rfl) (pa_cons (pe_fldK (K := K) (pv 6) rfl) (pa_cons (pe_fldK (K := K) (pv 6) rfl) (pa_cons (pe_fldK (K := K) (pv 6) rfl) (pa_cons (pe_fldK (K := K) (pv 6) rfl) (pa_cons (pe_fldK (K := K) (pv 6) rfl) pa_nil))))))))
  (pss_cons (ps_for PassesOwn.never rfl (pi_tupK K (pv 7)) (pg_name (i := 8) sc_law_told.nd rfl (.inl rfl)) (pss_one (ps_if (PW.pt (pw_or (pt_not (pt_truK K (pe_callB (call_isiK' K) (by rfl) T.n_isinstance (by decide +kernel) (pa_cons (pv 8) (pa_cons (pe_bltn (v := .ty "int") (by rfl) T.n_int (by decide +kernel) rfl) pa_nil))) (by intro _; rfl))) (pw_or1 (pt_truK K (pe_callB (call_isiK' K) (by rfl) T.n_isinstance (by decide +kernel) (pa_cons (pv 8) (pa_cons (pe_bltn (v := .ty "bool") (by rfl) T.n_bool (by decide +kernel) rfl) pa_nil))) (by intro _; rfl))))) (pss_one (ps_ret (pe_lst pa_nil))) pss_nil)))
  (pss_cons (ps_if (PW.pt (pw_or (pt_not (pt_truK K (pe_callB (call_isiK' K) (by rfl) T.n_isinstance (by decide +kernel) (pa_cons (pe_fldK (K := K) (pv 6) rfl) (pa_cons (pe_bltn (v := .ty "str") (by rfl) T.n_str (by decide +kernel) rfl) pa_nil))) (by intro _; rfl))) (pw_or1 (pt_not (pt_truK K (pe_callB (call_isiK' K) (by rfl) T.n_isinstance (by decide +kernel) (pa_cons (pe_fldK (K := K) (pv 6) rfl) (pa_cons (pe_bltn (v := .ty "str") (by rfl) T.n_str (by decide +kernel) rfl) pa_nil))) (by intro _; rfl)))))) (pss_one (ps_ret (pe_lst pa_nil))) pss_nil)
  (pss_cons (ps_expr (pe_bm F.plainAttrs_list F.slot_list_append F.type_list_append mt_append (pv 2) (pa_cons (pe_op (op_addK K) (pe_tup (pa_cons (pv 5) (pa_cons (pe_fldK (K := K) (pv 6) rfl) (pa_cons (pe_fldK (K := K) (pv 6) rfl) pa_nil)))) (pv 7)) pa_nil)))
  (pss_one (ps_for PassesOwn.never rfl (pi_range3 rfl T.n_range (pa_cons (pe_op op_subU (pe_callB (call_lenK K) (by rfl) T.n_len PySem.boot_len (pa_cons (pe_fldK (K := K) (pv 6) rfl) pa_nil)) pe_int) (pa_cons (pe_un un_neg pe_int) (pa_cons (pe_un un_neg pe_int) pa_nil)))) (pg_name (i := 9) sc_law_told.nd rfl (.inl rfl)) (pss_one (ps_expr (pe_bm F.plainAttrs_list F.slot_list_append F.type_list_append mt_append (pv 3) (pa_cons (pe_tup (pa_cons (pe_op (op_addK K) (pv 5) pe_int) (pa_cons (pe_ix (ix_K K) (pe_fldK (K := K) (pv 6) rfl) (pv 9) (fun _ _ => rfl)) pa_nil))) pa_nil))))))))))))))
  (pss_one (ps_ret (pe_lst pa_nil)))))), ?_⟩
    show (_ : TS) _ [some v, some (.int (k.cnt + 2)), none, none, none, none, none, none, none, none] H
    walk_at "rd"
    refine newO_gen fun t0 H1 g1 s1 h1 => ?_
    walk_at "rd"
    refine newO_gen fun t1 H2 g2 s2 h2 => ?_
    walk_at "rd"
    refine newO_gen fun t2 H3 g3 s3 h3 => ?_
    have s02 : Same H H2 := Same.trans s1 s2
    have s03 : Same H H3 := Same.trans s02 s3
    have gt1 : Frs H t1 := Same.fre s1 g2
    have gt2 : Frs H t2 := Same.fre s02 g3
    walk_at "rd"
    have hall : (⟨0, d⟩ :: rowsF 1 k : List Rw).length = k.cnt + 1 := by rw [List.length_cons, rowsF_len]
    refine loopR_by (fun i σ' H' => ∃ (ts S : List V) (dn : List Rw) (es : List Rt) (o4 o5 o6 o7 o8 o9 : Option V), σ' = [some v, some (.int (k.cnt + 2)), some (.ref t0), some (.ref t2), o4, o5, o6, o7, o8, o9] ∧ Same H H' ∧ H' t0 = some (.lst ts) ∧ Rows H' ts dn ∧ dn.length = i ∧
      H' t2 = some (.lst S.reverse) ∧ Paired (PendAt K aNode H') S es ∧ dn ++ pendR es = ⟨0, d⟩ :: rowsF 1 k) ?_ ?_ ?_
    · refine ⟨[], [.ref t1], [], [(0, d, k)], none, none, none, none, none, none, rfl, s03, s3 _ _ (s2 _ _ h1), .nil, rfl, h3, .cons ⟨t1, v, rfl, s3 _ _ h2, hv.kp (KpS.same s03)⟩ .nil, ?_⟩
      show (⟨0, d⟩ : Rw) :: (rowsF (0 + 1) k ++ []) = _
      rw [List.append_nil]
      rfl
    · rintro i σ' H4 hi ⟨ts, S, dn, es, o4, o5, o6, o7, o8, o9, rfl, s4, h4t, hdn, hdl, h4s, hS, hE⟩
      have htl := Paired.len hdn
      have hdn2 : dn.length + (pendR es).length = k.cnt + 1 := by rw [← List.length_append, hE, hall]
      have hel := pend_len es
      have htt : t0 ≠ t2 := by
        intro e
        have q := s3 _ _ (s2 _ _ h1)
        rw [e, h3] at q
        cases q
      cases hS with
      | nil =>
        replace h4s : H4 t2 = some (.lst []) := h4s
        walk_at "rd"
        rw [show (!(([] : List V)).isEmpty) = false from rfl]
        walk_at "rd"
        refine kk t0 H4 s4 g1 ⟨ts, h4t, ?_⟩
        rw [← hE]
        show Rows H4 ts (dn ++ [])
        rw [List.append_nil]
        exact hdn
      | @cons u e S' es' hu hS' =>
        obtain ⟨pu, nd, rfl, hpu, pn, dx, q, us, rfl, hpn, hq, hus⟩ := hu
        rw [List.reverse_cons] at h4s
        have hSl := Paired.len hS'
        have hlast : (S'.reverse ++ [V.ref pu])[(S'.reverse ++ [V.ref pu]).length - 1]? = some (V.ref pu) := by
          rw [List.length_append, List.getElem?_append_right (by show S'.reverse.length ≤ S'.reverse.length + 1 - 1; omega)]
          rw [show S'.reverse.length + [V.ref pu].length - 1 - S'.reverse.length = 0 by show S'.reverse.length + 1 - 1 - _ = 0; omega]
          rfl
        walk_at "rd"
        rw [show (!(S'.reverse ++ [V.ref pu]).isEmpty) = true by simp]
        walk_at "rd"
        refine pop_lst h4s hlast ?_
        refine putO_gen h4s fun H5 s5 h5s => ?_
        rw [List.dropLast_concat] at h5s
        have h5t := s5.at htt h4t
        have s05 : Same H H5 := SL.same s4 s5 gt2
        have hpu5 := s5.tup hpu
        have hpn5 := s5.ins hpn
        have k5 : KpS H4 H5 := KpS.sl s5
        have hq5 := sqt_kp k5 hq
        have hdn5 : Rows H5 ts dn := hdn.ts (TpS.sl s5)
        have hS5 : Paired (PendAt K aNode H5) S' es' := Paired.imp (fun _ _ r => r.kp k5) hS'
        have hus5 := NodesAt.kp k5 hus
        walk_at "rd"
        refine isi_own hpn5 u_Node.u kit_self ?_
        walk_at "rd"
        refine isi_sqt hq5 ?_
        walk_at "rd"
        refine newO_gen fun nt H6 g6 s6 h6 => ?_
        have h6t := s6 _ _ h5t
        have h6s := s6 _ _ h5s
        have hpn6 := s6 _ _ hpn5
        have hq6 := sqt_kp (KpS.same s6) hq5
        have s06 : Same H H6 := Same.trans s05 s6
        have hdn6 : Rows H6 ts dn := hdn5.ts (TpS.same s6)
        have hS6 : Paired (PendAt K aNode H6) S' es' := Paired.imp (fun _ _ r => r.kp (KpS.same s6)) hS5
        have hus6 := NodesAt.kp (KpS.same s6) hus5
        walk_at "rd"
        refine loopT_by (xs := [.int e.2.1.st, .int e.2.1.ld, .int e.2.1.wd, .int e.2.1.lk, .int e.2.1.al, .int e.2.1.pp]) (fun j σ' H' => ∃ o8, σ' = [some v, some (.int (k.cnt + 2)), some (.ref t0), some (.ref t2), some (.int (0 + (i : Int))), some (.int e.1), some (.ref pn), some (.ref nt), o8, o9] ∧ H' = H6) ⟨o8, rfl, rfl⟩ ?_ ?_ ?_
        · rintro j σ' H' _ ⟨o8, rfl, rfl⟩
          exact h6
        · rintro j x σ' H' hx ⟨o8, rfl, rfl⟩
          have hx' : ∃ n : Int, x = .int n := by
            have hm := List.mem_of_getElem? hx
            simp only [List.mem_cons, List.not_mem_nil, or_false] at hm
            rcases hm with h | h | h | h | h | h <;> exact ⟨_, h⟩
          obtain ⟨n, rfl⟩ := hx'
          walk_at "rd"
          exact ⟨_, rfl, rfl⟩
        · rintro σ' H' ⟨o8, rfl, rfl⟩
          walk_at "rd"
          refine newO_gen fun ta H7 g7 s7 h7 => ?_
          have h7n := s7 _ _ h6
          have hpn7 := s7 _ _ hpn6
          walk_at "rd"
          refine add_tup h7 h7n (by simp) (by simp) (by walk_at "sz") ?_
          refine newO_gen fun tr H8 g8 s8 h8 => ?_
          have s68 : Same H' H8 := Same.trans s7 s8
          have h8t := s68 _ _ h6t
          have h8s := s68 _ _ h6s
          have hq8 := sqt_kp (KpS.same s68) hq6
          have hpn8 := s68 _ _ hpn6
          have s08 : Same H H8 := Same.trans s06 s68
          walk_at "rd"
          refine putO_gen h8t fun H9 s9 h9t => ?_
          have h9s := s9.at htt.symm h8s
          have hpn9 := s9.ins hpn8
          have hq9 := sqt_kp (KpS.sl s9) hq8
          have s09 : Same H H9 := SL.same s08 s9 g1
          have k69 : KpS H' H9 := KpS.trans (KpS.same s68) (KpS.sl s9)
          have hS9 : Paired (PendAt K aNode H9) S' es' := Paired.imp (fun _ _ r => r.kp k69) hS6
          have hus9 := NodesAt.kp k69 hus6
          have hdn9 : Rows H9 (ts ++ [.ref tr]) (dn ++ [⟨e.1, e.2.1⟩]) := Paired.snoc (hdn6.ts ((TpS.same s68).trans (TpS.sl s9))) ⟨tr, rfl, s9.tup h8⟩
          have hul := hus9.len
          have hpl : (pendR (e :: es')).length = 1 + e.2.2.cnt + (pendR es').length := by
            show (_ ++ pendR es').length + 1 = _
            rw [List.length_append, rowsF_len]
            omega
          have hfl : e.2.2.len ≤ e.2.2.cnt := by
            rw [← roots_len 0, ← rowsF_len 0, ← pendR_roots]
            exact pend_len _
          walk_at "rd"
          refine len_sqt hq9 ?_
          walk_at "rd"
          rw [show ((us.length : Int) - 1 - -1).toNat = us.length by omega]
          have hpe := pend_len es'
          refine loopC_by (fun j σ' H' => ∃ (ws : List V) (o9 : Option V), σ' = [some v, some (.int (k.cnt + 2)), some (.ref t0), some (.ref t2), some (.int (0 + (i : Int))), some (.int e.1), some (.ref pn), some (.ref nt), o8, o9] ∧ Same H H' ∧ KpS H9 H' ∧ H' t0 = some (.lst (ts ++ [.ref tr])) ∧
            H' t2 = some (.lst (ws ++ S').reverse) ∧ Paired (PendAt K aNode H') ws ((rootsF (e.1 + 1) e.2.2).drop (us.length - j)) ∧ ws.length = j) ?_ ?_ ?_
          · refine ⟨[], o9, rfl, s09, KpS.same (Same.refl _), h9t, h9s, ?_, rfl⟩
            rw [List.drop_eq_nil_of_le (by rw [roots_len]; omega)]
            exact .nil
          · rintro j σ' H10 hj ⟨ws, o9', rfl, s10, k10, h10t, h10s, hws, hwl⟩
            have hji : (us.length : Int) - 1 + (j : Int) * -1 = ((us.length - 1 - j : Nat) : Int) := by omega
            rw [hji]
            obtain ⟨vv, ee, hv1, hv2, hv3, hv4⟩ := NodesAt.at (e.1 + 1) (i := us.length - 1 - j) hus9 (by omega)
            have hat : atI us ((us.length - 1 - j : Nat) : Int) = some vv := atI_nat hv1
            have hpn10 := k10.ins hpn9
            have hq10 := sqt_kp k10 hq9
            have hrl : (ws ++ S').reverse.length = j + es'.length := by rw [List.length_reverse, List.length_append, hwl, hSl]
            walk_at "rd"
            refine ix_sqt hq10 hat ?_
            walk_at "rd"
            refine newO_gen fun tn H11 g11 s11 h11 => ?_
            have h11s := s11 _ _ h10s
            walk_at "rd"
            refine putO_gen h11s fun H12 s12 h12s => ?_
            refine ⟨.ref tn :: ws, _, rfl, SL.same (Same.trans s10 s11) s12 gt2, KpS.trans k10 (KpS.trans (KpS.same s11) (KpS.sl s12)), s12.at htt (s11 _ _ h10t), ?_, ?_, by rw [List.length_cons, hwl]⟩
            · rw [h12s, List.cons_append, List.reverse_cons]
            · have kk12 : KpS H10 H12 := KpS.trans (KpS.same s11) (KpS.sl s12)
              rw [show us.length - (j + 1) = us.length - 1 - j by omega, List.drop_eq_getElem_cons (by rw [roots_len]; omega)]
              have hee : (rootsF (e.1 + 1) e.2.2)[us.length - 1 - j]'(by rw [roots_len]; omega) = ee := by
                rw [List.getElem?_eq_getElem (by rw [roots_len]; omega)] at hv2
                exact Option.some.inj hv2
              rw [hee, show us.length - 1 - j + 1 = us.length - j by omega]
              refine .cons ⟨tn, vv, rfl, ?_, hv4.kp (KpS.trans k10 kk12)⟩ (Paired.imp (fun _ _ r => r.kp kk12) hws)
              rw [hv3]
              exact s12.tup h11
          · rintro σ' H10 ⟨ws, o9', rfl, s10, k10, h10t, h10s, hws, hwl⟩
            rw [Nat.sub_self, List.drop_zero] at hws
            refine ⟨_, ws ++ S', dn ++ [⟨e.1, e.2.1⟩], rootsF (e.1 + 1) e.2.2 ++ es', _, _, _, _, _, _, rfl, s10, h10t, hdn9.ts k10.tp, by rw [List.length_append, hdl]; rfl, h10s, Paired.app hws (Paired.imp (fun _ _ r => r.kp k10) hS9), ?_⟩
            rw [← hE, pendR_app, pendR_roots, List.append_assoc]
            rfl
    · rintro σ' H4 ⟨ts, S, dn, es, o4, o5, o6, o7, o8, o9, rfl, s4, h4t, hdn, hdl, h4s, hS, hE⟩
      exfalso
      have : dn.length + (pendR es).length = k.cnt + 1 := by rw [← List.length_append, hE, hall]
      omega
end
end Z
namespace Z
open PySem PySem.Spec PyProof.Rows L2 ItX
/-! ## a pair of tuples drawn while the pair before it is kept -/
section
variable {prog : Program} {w : World} {A : Around} {E : Value → Shared → Prop} {s : Shared} {z ti to t j1 j2 l1 l2 : Addr} {f : Bool} {ot : Obj} {m1 m2 : Nat} {as bs : Array Value}
theorem zk_item {x y : Value} {Q : Option Value → Shared → Prop} (D : ZipApart z ti to j1 j2 l1 l2) (hz : IsZipHeld s.heap z ti to t f) (ht : s.heap.get? t = some ot) (hi : IsPair s.heap ti (.ref j1) (.ref j2))
    (n1 : s.heap.IsTupleIter j1 l1 m1) (n2 : s.heap.IsTupleIter j2 l2 m2) (p1 : s.heap.IsTuple l1 as) (p2 : s.heap.IsTuple l2 bs) (ex : as[m1]? = some x) (ey : bs[m2]? = some y)
    (k : ∀ h', IsZipHeld h' z ti to t true → h'.IsTupleIter j1 l1 (m1 + 1) → h'.IsTupleIter j2 l2 (m2 + 1) → IsPair h' s.heap.objs.size x y → h'.objs.size = s.heap.objs.size + 1 →
      (∀ c o, c ≠ z → c ≠ j1 → c ≠ j2 → s.heap.get? c = some o → h'.get? c = some o) → Q (some (.ref s.heap.objs.size)) { s with heap := h' }) :
    wpAny (model prog w) A (pyNext (.ref z)) Q E s := by
  have ty : s.TypeIs (.ref z) "zip" := ⟨_, hz, rfl⟩
  unfold pyNext
  refine wpAny_bind (wpAny_attempt (wpAny_callSpecial?_slot (name := Str.ofString "__next__") ty PySem.F.slot_zip_next (wpAny_call_entry PySem.F.slot_zip_next ty PySem.F.entry_zip_next ?_ (PySem.F.args_zip_next_1 _))))
  show wpAny _ _ (field (.ref z) 2 >>= fun _ => _) _ _ _
  refine wpAny_bind (wpAny_field hz rfl (x := Value.bool false) rfl ?_)
  show wpAny _ _ (field (.ref z) 3 >>= fun _ => _) _ _ _
  refine wpAny_bind (wpAny_field hz rfl (x := Value.ref ti) rfl (?_ : wpAny _ _ _ _ _ s))
  refine wpAny_bind (wpAny_seqItems hi rfl (?_ : wpAny _ _ _ _ _ s))
  show wpAny _ _ (Builtin.SmallTypes.ownedTupleIsFree (.ref z) >>= fun _ => _) _ _ _
  refine wpAny_bind (wpAny_tupleHeld_zip hz ht fun g1 y1 c1 => ?_)
  simp only [Bool.false_eq_true, if_false]
  refine wpAny_bind (?_ : wpAny _ _ _ _ _ _)
  rw [← Array.forIn_toList]; simp only [List.forIn_cons, List.forIn_nil]
  refine wpAny_bind (wpAny_bind (wpAny_holding (?_ : wpAny _ _ _ _ _ _)))
  show wpAny _ _ (Builtin.SmallTypes.nextOf (.ref j1) >>= fun _ => _) _ _ _
  refine wpAny_bind (RZ.nextOf_tuple_item (s := { s with heap := g1 }) (n1.extBut c1.extBut D.i1z) (p1.extBut c1.extBut D.l1z) ex fun g2 n12 c2 => wpAny_pure (wpAny_pure ?_))
  refine wpAny_bind (wpAny_bind (wpAny_holding (?_ : wpAny _ _ _ _ _ _)))
  show wpAny _ _ (Builtin.SmallTypes.nextOf (.ref j2) >>= fun _ => _) _ _ _
  refine wpAny_bind (RZ.nextOf_tuple_item (s := { s with heap := g2 }) ((n2.extBut c1.extBut D.i2z).extBut c2.extBut D.i12.symm) ((p2.extBut c1.extBut D.l2z).extBut c2.extBut D.l2i1) ey fun g3 n23 c3 => wpAny_pure (wpAny_pure (wpAny_pure ?_)))
  show wpAny _ _ (newTuple [x, y] >>= fun _ => _) _ _ _
  refine wpAny_bind (wpAny_newTuple (?_ : wpAny _ _ _ _ _ _))
  have e3 : g3.objs.size = s.heap.objs.size := (c3.1.trans c2.1).trans c1.1
  have z3 : IsZipHeld g3 z ti to t true := c3.extBut _ _ D.i2z.symm (c2.extBut _ _ D.i1z.symm y1)
  have v : ∀ c o, c ≠ z → c ≠ j1 → c ≠ j2 → s.heap.get? c = some o → g3.get? c = some o := fun c o q1 q2 q3 e => c3.extBut _ _ q3 (c2.extBut _ _ q2 (c1.extBut _ _ q1 e))
  have n13 : g3.IsTupleIter j1 l1 (m1 + 1) := n12.extBut c3.extBut D.i12
  have pr : IsPair (g3.push { cls := .type "tuple", data := .seq #[x, y] }) g3.objs.size x y := Heap.get?_push_size _ rfl
  have sz : (g3.push { cls := .type "tuple", data := .seq #[x, y] }).objs.size = g3.objs.size + 1 := Heap.size_push ..
  refine wpAny_pure ⟨_, rfl, wpAny_pure (?_ : Q (some (.ref g3.objs.size)) _)⟩
  rw [e3] at pr sz ⊢
  exact k _ (Heap.get?_push_of_some _ z3) (n13.at fun o e => Heap.get?_push_of_some _ e) (n23.at fun o e => Heap.get?_push_of_some _ e) pr sz fun c o q1 q2 q3 e => Heap.get?_push_of_some _ (v c o q1 q2 q3 e)
theorem zk_end {Q : Option Value → Shared → Prop} (hh : A.handled = none) (D : ZipApart z ti to j1 j2 l1 l2) (hz : IsZipHeld s.heap z ti to t f) (ht : s.heap.get? t = some ot) (hi : IsPair s.heap ti (.ref j1) (.ref j2))
    (n1 : s.heap.IsTupleIter j1 l1 m1) (p1 : s.heap.IsTuple l1 as) (ex : as[m1]? = none)
    (k : ∀ h', (∀ c o, c ≠ z → c ≠ j1 → c ≠ j2 → s.heap.get? c = some o → h'.get? c = some o) → Q none { s with heap := h' }) :
    wpAny (model prog w) A (pyNext (.ref z)) Q E s := by
  have ty : s.TypeIs (.ref z) "zip" := ⟨_, hz, rfl⟩
  unfold pyNext
  refine wpAny_bind (wpAny_attempt (wpAny_callSpecial?_slot (name := Str.ofString "__next__") ty PySem.F.slot_zip_next (wpAny_call_entry PySem.F.slot_zip_next ty PySem.F.entry_zip_next ?_ (PySem.F.args_zip_next_1 _))))
  show wpAny _ _ (field (.ref z) 2 >>= fun _ => _) _ _ _
  refine wpAny_bind (wpAny_field hz rfl (x := Value.bool false) rfl ?_)
  show wpAny _ _ (field (.ref z) 3 >>= fun _ => _) _ _ _
  refine wpAny_bind (wpAny_field hz rfl (x := Value.ref ti) rfl (?_ : wpAny _ _ _ _ _ s))
  refine wpAny_bind (wpAny_seqItems hi rfl (?_ : wpAny _ _ _ _ _ s))
  show wpAny _ _ (Builtin.SmallTypes.ownedTupleIsFree (.ref z) >>= fun _ => _) _ _ _
  refine wpAny_bind (wpAny_tupleHeld_zip hz ht fun g1 y1 c1 => ?_)
  simp only [Bool.false_eq_true, if_false]
  refine wpAny_bind (?_ : wpAny _ _ _ _ _ _)
  rw [← Array.forIn_toList]; simp only [List.forIn_cons, List.forIn_nil]
  refine wpAny_bind (wpAny_bind (wpAny_holding (?_ : wpAny _ _ _ _ _ _)))
  show wpAny _ _ (Builtin.SmallTypes.nextOf (.ref j1) >>= fun _ => _) _ _ _
  refine wpAny_bind (RZ.nextOf_tuple_end (s := { s with heap := g1 }) hh (n1.extBut c1.extBut D.i1z) (p1.extBut c1.extBut D.l1z) ex fun g2 e c2 he => ?_)
  obtain ⟨o, ho, hc⟩ := he
  refine wpAny_bind (wpAny_isInstance (T := "StopIteration") (b := true) ⟨o, ho, hc⟩ isSubtype_stop ?_)
  exact wpAny_pure (k g2 fun c o q1 q2 _ e => c2 _ _ q2 (c1.extBut _ _ q1 e))
end
/-! ## list(zip(a, b)), a and b tuples of one length -/
/-- how far the zip is -/
structure ZAt (z ti to j1 j2 a b q i : Nat) (h : Heap) : Prop where
  pr : IsPair h ti (.ref j1) (.ref j2)
  at0 : i = 0 → IsZip h z ti to .none ∧ ∃ x y, IsPair h to x y
  at1 : 0 < i → ∃ t f o, IsZipHeld h z ti to t f ∧ h.get? t = some o ∧ t ∉ [z, ti, to, j1, j2] ∧ t ≠ q
  n1 : h.IsTupleIter j1 a i
  n2 : h.IsTupleIter j2 b i
  lt : ∀ c ∈ [z, ti, to, j1, j2], c < h.objs.size
/-- the list so far -/
structure ZIn (H0 Hc : Hp) (q : Addr) (xs ys : List V) (i : Nat) : Prop where
  lst : ∃ ts, Hc q = some (.lst ts) ∧ ts.length = i ∧ ∀ (j : Nat) t, ts[j]? = some t → ∃ T x y, t = .ref T ∧ Hc T = some (.tup [x, y]) ∧ xs[j]? = some x ∧ ys[j]? = some y
  keep : ∀ c o, c ≠ q → H0 c = some o → Hc c = some o
section
variable {X : Cx} {pins : List (Addr × Obj)} {σ : L2.St} {A1 : Around}
theorem FpOk.upd {H : Hp} {b q : Addr} {o : HO} (h : FpOk X pins H b) (n : b ≠ q) : FpOk X pins (upd H q o) b := ⟨(upd_ne n).trans h.1, h.2⟩
theorem zip_fill {xs ys : List V} {q a b z ti to j1 j2 : Addr} {H0 : Hp} {Rs : Result → Shared → Prop} (hh : A1.in1.handled = none) (ha : SqT X.K H0 a xs) (hb : SqT X.K H0 b ys) (hxy : xs.length = ys.length) (hl : xs.length ≤ sizeLine) (hqa : ∀ Hc : Hp, (∀ c o, c ≠ q → H0 c = some o → Hc c = some o) → SqT X.K Hc a xs ∧ SqT X.K Hc b ys)
    (D : ZipApart z ti to j1 j2 a b) (hd : ∀ s Hc, Inv X pins σ Hc s → ZIn H0 Hc q xs ys xs.length → Rs (.ok (.ret .none)) s) :
    ∀ (n i : Nat) (Hc : Hp) (s : Shared), n + i = xs.length → Inv X pins σ Hc s → ZIn H0 Hc q xs ys i → (∀ c ∈ [z, ti, to, j1, j2], c ≠ q ∧ FpOk X pins Hc c) → ZAt z ti to j1 j2 a b q i s.heap → codeAny (model X.prog X.w) A1 (.builtin "list.extend.loop" ⟨[.ref q, .ref z, .none], []⟩) Rs s := by
  intro n
  induction n with
  | zero =>
    intro i Hc s e I g fp st
    obtain ⟨hta, htb⟩ := hqa Hc g.keep
    obtain ⟨its, rv, pl, hz1⟩ := I.tuple hta
    obtain ⟨its2, rv2, pl2, hz2⟩ := I.tuple htb
    have hlen := rv.length
    have hlen2 := rv2.length
    apply codeAny_builtin PySem.F.entry_extend_loop
    rw [Around.under_plainId PySem.F.plain_extend_loop _]
    show wpAny _ _ (pyNext (.ref z) >>= _) _ _ _
    apply wpAny_bind
    have fin : ∀ h' : Heap, (∀ c o, c ∉ [z, ti, to, j1, j2] → s.heap.get? c = some o → h'.get? c = some o) → Rs (.ok (.ret .none)) { s with heap := h' } := fun h' hk => by
      have I2 : Inv X pins σ Hc { s with heap := h' } := I.turnedL (t' := s.toks) (ch := [z, ti, to, j1, j2]) hk fun c hc => (fp c hc).2
      refine hd _ Hc I2 ?_
      rw [← e, Nat.zero_add]
      exact g
    obtain ⟨hi, hto, hheld, n1, n2, hlt⟩ := st
    rcases Nat.eq_zero_or_pos i with c | c
    · obtain ⟨h2, x0, y0, h1⟩ := hto c
      exact RZ.pyNext_zipT_end hh D h2 hi h1 n1 n2 (show s.heap.IsTuple a its.toArray from pl) (show s.heap.IsTuple b its2.toArray from pl2) (.inl (by simp; omega)) fun h' hk => wpAny_pure (fin h' fun c o hc => hk c o (fun q => hc (by simp [q])) (fun q => hc (by simp [q])) (fun q => hc (by simp [q])) (fun q => hc (by simp [q])))
    · obtain ⟨t, f, o, h1, h2, _⟩ := hheld c
      exact zk_end hh D h1 h2 hi n1 (show s.heap.IsTuple a its.toArray from pl) (by simp; omega) fun h' hk => wpAny_pure (fin h' fun c o hc => hk c o (fun q => hc (by simp [q])) (fun q => hc (by simp [q])) (fun q => hc (by simp [q])))
  | succ n ih =>
    intro i Hc s e I g fp st
    obtain ⟨hta, htb⟩ := hqa Hc g.keep
    obtain ⟨its, rv, pl, hz1⟩ := I.tuple hta
    obtain ⟨its2, rv2, pl2, hz2⟩ := I.tuple htb
    have hx : xs[i]? = some (xs[i]'(by omega)) := List.getElem?_eq_getElem (by omega)
    have hy : ys[i]? = some (ys[i]'(by omega)) := List.getElem?_eq_getElem (by omega)
    obtain ⟨u, hu, ru⟩ := rv.get hx
    obtain ⟨v, hv, rv'⟩ := rv2.get hy
    apply codeAny_builtin PySem.F.entry_extend_loop
    rw [Around.under_plainId PySem.F.plain_extend_loop _]
    show wpAny _ _ (pyNext (.ref z) >>= _) _ _ _
    apply wpAny_bind
    obtain ⟨hi, hto, hheld, n1, n2, hlt⟩ := st
    have go : ∀ (h' : Heap) (f : Bool) (t : Addr) (ot : Obj), IsZipHeld h' z ti to t f → h'.get? t = some ot → t ∉ [z, ti, to, j1, j2] → t ≠ q → h'.objs.size = s.heap.objs.size + 1 → IsPair h' ti (.ref j1) (.ref j2) → h'.IsTupleIter j1 a (i + 1) → h'.IsTupleIter j2 b (i + 1) → IsPair h' s.heap.objs.size u v →
        (∀ c o, c ∉ [z, ti, to, j1, j2] → s.heap.get? c = some o → h'.get? c = some o) →
        wpAny (model X.prog X.w) A1.in1 (updateSeq q (·.push (.ref s.heap.objs.size)) >>= fun _ => again (.builtin "list.extend.loop" ⟨[.ref q, .ref z, .none], []⟩)) (fun fin s' => match fin with | PySem.Fin.done f => Rs (.ok f) s' | PySem.Fin.again c' => c'.quiet = true ∧ codeAny (model X.prog X.w) A1 c' Rs s') (fun e s' => Rs (.error e) s') { s with heap := h' } := by
      intro h' f t ot k1 k0 kt kq ks k2 k3 k4 k5 k6
      have hn : Hc s.heap.objs.size = none := I.hok.fresh (Nat.le_refl _)
      have I1 : Inv X pins σ (upd Hc s.heap.objs.size (.tup [xs[i]'(by omega), ys[i]'(by omega)])) { s with heap := h' } :=
        I.turnedNew (t' := s.toks) (ch := [z, ti, to, j1, j2]) k6 (fun c hc => (fp c hc).2) (Nat.le_refl _) ⟨by show 2 ≤ sizeLine; decide, [u, v], .cons ru (.cons rv' .nil), ⟨_, k5, rfl, _, rfl⟩⟩
      obtain ⟨ts, g1, g2, g3⟩ := g.lst
      have hqn : q ≠ s.heap.objs.size := fun e => by rw [e, hn] at g1; cases g1
      have hq1 : upd Hc s.heap.objs.size (.tup [xs[i]'(by omega), ys[i]'(by omega)]) q = some (.lst ts) := (upd_ne hqn).trans g1
      obtain ⟨zz, ws, kk, r2, hl2, e2⟩ := I1.lstM hq1
      have hw := r2.length
      apply wpAny_bind
      refine wpAny_updateSeq e2 rfl ?_ (by rw [List.size_toArray]; omega) (by rw [Array.size_push, List.size_toArray]; omega)
      have I3 := I1.lset (its' := ws ++ [Value.ref s.heap.objs.size]) (f := (·.push (Value.ref s.heap.objs.size))) (ys := ts ++ [V.ref s.heap.objs.size]) (t' := s.toks) hq1 e2 (by simp) (r2.append (.cons rfl .nil)) (by rw [List.length_append]; show _ + 1 ≤ _; omega)
      have keepQ : ∀ c o, c ≠ q → h'.get? c = some o → (h'.update q (Obj.mapSeq (·.push (Value.ref s.heap.objs.size)))).get? c = some o := fun c o hc e => ((Heap.SameBut.update ..).2 c hc).trans e
      have nq : ∀ c ∈ [z, ti, to, j1, j2], c ≠ q := fun c hc => (fp c hc).1
      have nn : ∀ c ∈ [z, ti, to, j1, j2], c ≠ s.heap.objs.size := fun c hc e => by
        have h1 := hlt c hc
        exact Nat.lt_irrefl _ (e ▸ h1)
      refine wpAny_pure ⟨plainId_quiet PySem.F.plain_extend_loop _, ih (i + 1) _ _ (by omega) I3 ⟨⟨_, upd_same, by rw [List.length_append, g2]; rfl, fun j t ht => ?_⟩, fun c o hc ho => ?_⟩ (fun c hc => ⟨nq c hc, FpOk.upd (FpOk.upd (fp c hc).2 (nn c hc)) (nq c hc)⟩) ?_⟩
      · rcases Nat.lt_or_ge j i with c | c
        · rw [List.getElem?_append_left (by omega)] at ht
          obtain ⟨T, x, y, a1, a2, a3⟩ := g3 j t ht
          refine ⟨T, x, y, a1, ?_, a3⟩
          rw [upd_ne (fun e => by rw [e, g1] at a2; cases a2), upd_ne (ne_of_none a2 hn)]
          exact a2
        · rw [List.getElem?_append_right (by omega)] at ht
          have hj : j = i := by
            have := (List.getElem?_eq_some_iff.mp ht).1
            have : j - ts.length < 1 := this
            omega
          rw [hj, g2, Nat.sub_self] at ht
          cases ht
          rw [hj]
          exact ⟨_, _, _, rfl, (upd_ne hqn.symm).trans upd_same, hx, hy⟩
      · rw [upd_ne hc, upd_ne (ne_of_none (g.keep c o hc ho) hn)]
        exact g.keep c o hc ho
      · refine ⟨keepQ _ _ (nq ti (by simp)) k2, fun h => absurd h (by omega), fun _ => ⟨t, f, ot, keepQ _ _ (nq z (by simp)) k1, keepQ _ _ kq k0, kt, kq⟩, k3.at fun o e => keepQ _ _ (nq j1 (by simp)) e, k4.at fun o e => keepQ _ _ (nq j2 (by simp)) e, fun c hc => ?_⟩
        have h1 := hlt c hc
        show c < (h'.update q (Obj.mapSeq (·.push (Value.ref s.heap.objs.size)))).objs.size
        rw [(Heap.SameBut.update (h := h') (a := q) (f := Obj.mapSeq (·.push (Value.ref s.heap.objs.size)))).1, ks]
        omega
    have nw : s.heap.objs.size ∉ [z, ti, to, j1, j2] := fun h => Nat.lt_irrefl _ (hlt _ h)
    have nwq : s.heap.objs.size ≠ q := fun e => by
      obtain ⟨ts, g1, _⟩ := g.lst
      rw [← e, I.hok.fresh (Nat.le_refl _)] at g1
      cases g1
    rcases Nat.eq_zero_or_pos i with c | c
    · obtain ⟨h2, x0, y0, h1⟩ := hto c
      exact RZ.pyNext_zipT_item D h2 hi h1 n1 n2 (show s.heap.IsTuple a its.toArray from pl) (show s.heap.IsTuple b its2.toArray from pl2) (x := u) (y := v) (by simpa using hu) (by simpa using hv) fun h' b1 b2 b3 b4 b5 b6 b7 =>
        go h' false _ _ b1 b5 nw nwq b6 (b7 _ _ D.TIz D.TITO D.TIi1 D.TIi2 hi) b3 b4 b5 fun c o hc => b7 c o (fun q => hc (by simp [q])) (fun q => hc (by simp [q])) (fun q => hc (by simp [q])) (fun q => hc (by simp [q]))
    · obtain ⟨t, f, o, h1, h2, h3, h4⟩ := hheld c
      exact zk_item D h1 h2 hi n1 n2 (show s.heap.IsTuple a its.toArray from pl) (show s.heap.IsTuple b its2.toArray from pl2) (x := u) (y := v) (by simpa using hu) (by simpa using hv) fun h' b1 b3 b4 b5 b6 b7 =>
        go h' true t o b1 (b7 t o (fun q => h3 (by simp [q])) (fun q => h3 (by simp [q])) (fun q => h3 (by simp [q])) h2) h3 h4 b6 (b7 _ _ D.TIz D.TIi1 D.TIi2 hi) b3 b4 b5 fun c o hc => b7 c o (fun q => hc (by simp [q])) (fun q => hc (by simp [q])) (fun q => hc (by simp [q]))
theorem zip_no_length : typeLookup (.type "zip") "__len__" = pure none := am_miss_of_fast (by decide +kernel)
theorem zip_no_hints : typeLookup (.type "zip") "__length_hint__" = pure none := am_miss_of_fast (by decide +kernel)
theorem list_of_zip {xs ys : List V} {a b z ti to j1 j2 : Addr} {H : Hp} {s : Shared} {Q : Value → Shared → Prop} {E : Value → Shared → Prop} (hc : X.calm = true) (I : Inv X pins σ H s) (ha : SqT X.K H a xs) (hb : SqT X.K H b ys) (hxy : xs.length = ys.length) (hl : xs.length ≤ sizeLine)
    (D : ZipApart z ti to j1 j2 a b) (hz : IsZip s.heap z ti to .none) (hi : IsPair s.heap ti (.ref j1) (.ref j2)) (ho : ∃ x y, IsPair s.heap to x y) (h1 : s.heap.IsTupleIter j1 a 0) (h2 : s.heap.IsTupleIter j2 b 0) (fp : ∀ c ∈ [z, ti, to, j1, j2], FpOk X pins H c) (lt : ∀ c ∈ [z, ti, to, j1, j2], c < s.heap.objs.size)
    (hq : ∀ q Hc s', H q = none → Inv X pins σ Hc s' → ZIn H Hc q xs ys xs.length → Q (.ref q) s') : wpAny (model X.prog X.w) X.A (call (.type "list") [.ref z]) Q E s := by
  refine callType_codes (Q₁ := fun obj s1 => obj = .ref s.heap.objs.size ∧ s1 = { s with heap := s.heap.push { cls := .type "list", data := .seq #[] } }) PySem.F.called_list (PySem.F.typeCall_list_1 _) PySem.F.entry_list_init
    (code_list_new _ ⟨rfl, rfl⟩) ?_
  rintro obj s1 ⟨rfl, rfl⟩
  have hS : (s.heap.push { cls := .type "list", data := .seq #[] }).get? s.heap.objs.size = some { cls := .type "list", data := .seq #[] } := Heap.get?_push_size _ rfl
  refine ⟨⟨_, hS, rfl⟩, PySem.F.args_list_init_2 _ _, ?_⟩
  have fr : H s.heap.objs.size = none := I.hok.fresh (Nat.le_refl _)
  have I1 : Inv X pins σ (upd H s.heap.objs.size (.lst [])) { s with heap := s.heap.push { cls := .type "list", data := .seq #[] } } := I.lnew (its := []) (t' := s.toks) .nil (Nat.zero_le _)
  have nq : ∀ c ∈ [z, ti, to, j1, j2], c ≠ s.heap.objs.size := fun c hc => Nat.ne_of_lt (lt c hc)
  have up : ∀ c o, s.heap.get? c = some o → (s.heap.push { cls := .type "list", data := .seq #[] }).get? c = some o := fun c o e => Heap.get?_push_of_some _ e
  have psz : (s.heap.push { cls := .type "list", data := .seq #[] }).objs.size = s.heap.objs.size + 1 := Heap.size_push ..
  have hq0 := hq s.heap.objs.size
  generalize hqq : s.heap.objs.size = q at hS fr I1 nq psz hq0 ⊢
  show wpAny _ _ (do let old ← Builtin.List.listItems (.ref q); Builtin.List.listUpdate (.ref q) (fun _ => #[]); letGo old.toList.reverse; Builtin.List.listExtendWith (.ref q) (.ref z) .none) _ _ _
  apply wpAny_bind
  unfold Builtin.List.listItems
  apply wpAny_bind
  refine wpAny_seqItems hS rfl (wpAny_pure ?_)
  show wpAny _ _ (updateSeq q (fun _ => #[]) >>= fun _ => letGo (#[] : Array Value).toList.reverse >>= fun _ => Builtin.List.listExtendWith (.ref q) (.ref z) .none) _ _ _
  apply wpAny_bind
  refine wpAny_updateSeq hS rfl ?_
  have I2 := I1.lset (f := fun _ => #[]) (its := []) (its' := []) (ys := []) (t' := s.toks) upd_same hS rfl .nil (Nat.zero_le _)
  rw [upd_upd] at I2
  apply wpAny_bind
  apply wpAny_letGo
  have up2 : ∀ c o, c ≠ q → s.heap.get? c = some o → ((s.heap.push { cls := .type "list", data := .seq #[] }).update q (Obj.mapSeq fun _ => #[])).get? c = some o := fun c o hc e => ((Heap.SameBut.update ..).2 c hc).trans (up c o e)
  have hz2 := up2 z _ (nq z (by simp)) hz
  have ty : (⟨_, hz2, rfl⟩ : Shared.TypeIs { s with heap := (s.heap.push { cls := .type "list", data := .seq #[] }).update q (Obj.mapSeq fun _ => #[]) } (.ref z) "zip") = ⟨_, hz2, rfl⟩ := rfl
  have tyz : Shared.TypeIs { s with heap := (s.heap.push { cls := .type "list", data := .seq #[] }).update q (Obj.mapSeq fun _ => #[]) } (.ref z) "zip" := ⟨_, hz2, rfl⟩
  unfold Builtin.List.listExtendWith
  apply wpAny_bind
  refine wpAny_typeOf tyz ?_
  have d1 : Builtin.List.listSameRef (.ref q) (.ref z) = false := by simp [Builtin.List.listSameRef, (nq z (by simp)).symm]
  have d2 : (Value.type "zip" == Value.type "list") = false := by decide
  have d3 : (Value.type "zip" == Value.type "tuple") = false := by decide
  simp only [d1, d2, d3, Bool.or_false, Bool.false_eq_true, if_false]
  apply wpAny_bind
  refine wpAny_pyIter_zip hz2 ?_
  apply wpAny_bind
  refine wpAny_holding ?_
  unfold Builtin.List.listLengthHint
  refine wpAny_bind (wpAny_specialOf tyz zip_no_length ?_)
  show wpAny _ _ (specialOf (Value.ref z) (Str.ofString "__length_hint__") >>= fun _ => _) _ _ _
  refine wpAny_bind (wpAny_specialOf tyz zip_no_hints (wpAny_pure ?_))
  show wpAny _ _ (rule "list.extend.makes-room" >>= fun _ => Builtin.List.listTouch (.ref q) >>= fun _ => again (.builtin "list.extend.loop" ⟨[.ref q, .ref z, .none], []⟩)) _ _ _
  apply wpAny_bind
  apply wpAny_rule
  apply wpAny_bind
  show wpAny _ _ (updateSeq q (·.push .none) >>= fun _ => updateSeq q (·.pop)) _ _ _
  obtain ⟨z3, its, kk, r3, hl3, e3⟩ := I2.lstM upd_same
  cases r3
  apply wpAny_bind
  refine wpAny_updateSeq e3 rfl ?_
  have I5 := I2.lset (f := (·.push Value.none)) (its' := [Value.none]) (ys := [.non]) (t' := s.toks) upd_same e3 (by simp) (.cons rfl .nil) (by show 1 ≤ _; rw [sizeLine_eq]; decide)
  obtain ⟨z4, its4, k4, r4, hl4, e4⟩ := I5.lstM upd_same
  obtain ⟨u4, rfl, ru4⟩ := r4.one
  refine wpAny_updateSeq e4 rfl ?_ (by show 1 ≤ sizeLine; rw [sizeLine_eq]; decide) (Nat.zero_le _)
  have I6 := I5.lset (f := (·.pop)) (its := [u4]) (its' := []) (ys := []) (t' := s.toks) upd_same e4 (by rfl) .nil (Nat.zero_le _)
  rw [upd_upd, upd_upd] at I6
  have up3 : ∀ c o, c ≠ q → s.heap.get? c = some o → (((((s.heap.push { cls := .type "list", data := .seq #[] }).update q (Obj.mapSeq fun _ => #[])).update q (Obj.mapSeq (·.push Value.none))).update q (Obj.mapSeq (·.pop)))).get? c = some o :=
    fun c o hc e => ((Heap.SameBut.update ..).2 c hc).trans (((Heap.SameBut.update ..).2 c hc).trans (up2 c o hc e))
  have ts : ∀ {c : Addr} {ws : List V}, SqT X.K H c ws → ∀ Hc : Hp, (∀ d o, d ≠ q → upd H q (.lst []) d = some o → Hc d = some o) → SqT X.K Hc c ws := fun h Hc kp => by
    refine sqt_kp (H := H) (fun d o e _ => ?_) h
    exact kp d o (ne_of_none e fr) (by rw [upd_ne (ne_of_none e fr)]; exact e)
  refine wpAny_pure ⟨plainId_quiet PySem.F.plain_extend_loop _, zip_fill (A1 := X.A.in1) (H0 := upd H q (.lst [])) (xs := xs) (ys := ys) (by exact I6.ok.hd hc) (ts ha _ fun d o _ e => e) (ts hb _ fun d o _ e => e) hxy hl (fun Hc kp => ⟨ts ha Hc kp, ts hb Hc kp⟩) D
    (fun s' Hc I7 g => ⟨rfl, hq0 Hc s' fr I7 ⟨g.lst, fun c o hc e => g.keep c o hc (by rw [upd_ne hc]; exact e)⟩⟩) xs.length 0 _ _ (by omega) I6 ⟨⟨[], upd_same, rfl, fun j t h => by simp at h⟩, fun c o _ e => e⟩ (fun c hc => ⟨nq c hc, FpOk.upd (fp c hc) (nq c hc)⟩) ?_⟩
  obtain ⟨x0, y0, ho⟩ := ho
  refine ⟨up3 _ _ (nq ti (by simp)) hi, fun _ => ⟨up3 _ _ (nq z (by simp)) hz, x0, y0, up3 _ _ (nq to (by simp)) ho⟩, fun h => absurd h (Nat.lt_irrefl _), h1.at fun o e => up3 _ _ (nq j1 (by simp)) e, h2.at fun o e => up3 _ _ (nq j2 (by simp)) e, fun c hc => ?_⟩
  have h1 := lt c hc
  have e1 := (Heap.SameBut.update (h := s.heap.push { cls := .type "list", data := .seq #[] }) (a := q) (f := Obj.mapSeq fun _ => #[])).1
  have e2 := (Heap.SameBut.update (h := (s.heap.push { cls := .type "list", data := .seq #[] }).update q (Obj.mapSeq fun _ => #[])) (a := q) (f := Obj.mapSeq (·.push Value.none))).1
  have e3 := (Heap.SameBut.update (h := ((s.heap.push { cls := .type "list", data := .seq #[] }).update q (Obj.mapSeq fun _ => #[])).update q (Obj.mapSeq (·.push Value.none))) (a := q) (f := Obj.mapSeq (·.pop))).1
  show c < (((((s.heap.push { cls := .type "list", data := .seq #[] }).update q (Obj.mapSeq fun _ => #[])).update q (Obj.mapSeq (·.push Value.none))).update q (Obj.mapSeq (·.pop)))).objs.size
  refine Nat.lt_of_lt_of_le h1 ?_
  rw [hqq]
  exact Nat.le_of_lt (Nat.lt_of_lt_of_eq (Nat.lt_succ_self q) (((e3.trans e2).trans e1).trans psz).symm)
/-- list(zip(e, f)) -/
def tLZip (K : PySem.W.Frag) (ta : TA) : TE := fun σ H Q => ta σ H fun vs H1 => ∃ a b xs ys, vs = [.ref a, .ref b] ∧ SqT K H1 a xs ∧ SqT K H1 b ys ∧ xs.length = ys.length ∧ xs.length ≤ sizeLine ∧ ∀ q H2, H1 q = none → ZIn H1 H2 q xs ys xs.length → Q (.ref q) H2
theorem pe_listZip {e e2 : Expr} {ta : TA} {p p2 pos pos2 : Pos} {K : PySem.W.Frag} (hc : X.calm = true) (hg : Gl X "list") (hm : X.mg "list" = none) (hg2 : Gl X "zip") (hm2 : X.mg "zip" = none) (ha : PA X [e, e2] ta) (hK : X.K = K := by rfl)
    (na : starEach [.Call (.Name "zip" p2) [e, e2] [] pos2] X.env = (false, eval (.Call (.Name "zip" p2) [e, e2] [] pos2) X.env) :: starEach [] X.env := by rfl)
    (hs : starEach [e, e2] X.env = (false, eval e X.env) :: starEach [e2] X.env := by rfl) (hpl : (backTo pos2 (starEach [e2] X.env)).any (·.1) = false := by rfl) :
    PE X (.Call (.Name "list" p) [.Call (.Name "zip" p2) [e, e2] [] pos2] [] pos) (tLZip K ta) := by
  subst hK
  refine ⟨fun pins s σ H Q I h => ?_⟩
  refine Call_ (ld_blt I hg hm boot_list (PyProof.Rows.callWith_type1 (args_cons (Call_ (ld_blt I hg2 hm2 PyProof.Rows.boot_zip (PyProof.Rows.callWith_type1 (thn (ha.run pos2 pins s σ H _ I h) fun us s1 ⟨vs, H1, I1, r1, q1⟩ => ?_) hs hpl))) na) na))
  obtain ⟨a, b, xs, ys, rfl, hx, hy, hxy, hl, q1⟩ := q1
  cases r1 with
  | cons r rr =>
    cases rr with
    | cons r' rr =>
      cases rr
      cases r
      cases r'
      obtain ⟨its, rv, p1, _⟩ := I1.tuple hx
      obtain ⟨its2, rv2, p2', _⟩ := I1.tuple hy
      obtain ⟨o1, ho1, _⟩ := id p1
      obtain ⟨o2, ho2, _⟩ := id p2'
      refine RZ.call_zipT (show s1.heap.IsTuple a its.toArray from p1) (show s1.heap.IsTuple b its2.toArray from p2') fun h' hz hTI hTO h1 h2 hsz hk => args_nil ?_
      have I2 : Inv X pins σ H1 { s1 with heap := h' } := I1.kept (t' := s1.toks) hk
      refine list_of_zip hc I2 hx hy hxy hl (PySem.W.ktu_apart s1.heap.objs.size a b (Heap.lt_size ho1) (Heap.lt_size ho2)) hz hTI ⟨_, _, hTO⟩ h1 h2 (fun c hcm => ?_) (fun c hcm => ?_) fun q Hc s' f I3 g => ⟨.ref q, Hc, I3, rfl, q1 q Hc f g⟩
      · have hle : s1.heap.objs.size ≤ c := by
          simp only [List.mem_cons, List.not_mem_nil, or_false] at hcm
          rcases hcm with z | z | z | z | z <;> (rw [z]; first | exact Nat.le_refl _ | exact Nat.le_add_right _ _)
        exact I1.fpOk hle (I1.hok.fresh hle)
      · simp only [List.mem_cons, List.not_mem_nil, or_false] at hcm
        show c < h'.objs.size
        rw [hsz]
        rcases hcm with z | z | z | z | z <;> (rw [z]; first | exact Nat.add_lt_add_left (by decide) _ | exact Nat.lt_add_of_pos_right (by decide))
end
/-! ## a list made longer by a tuple -/
theorem ext_anyT (l : Addr) (is : Array Value) (n : Nat) (t : Addr) (js : Array Value) (m : Nat) (dd : Option Addr) (sl : Array (Option Value)) (q0 : ¬ (!is.isEmpty && Builtin.List.listTooLong (is.size + js.size)) = true) (q1 : is.size ≤ sizeLine) (q2 : is.size + js.size ≤ sizeLine + 1) :
    Meets (Builtin.«list.extend» ⟨[.ref l, .ref t], []⟩) (fun _ R s => s.heap.get? l = some { cls := .type "list", dict := none, data := .seq is n, slots := #[] } ∧ s.heap.get? t = some { cls := .type "tuple", dict := dd, data := .seq js m, slots := sl } ∧
      R (.ok (.ret Value.none)) { s with heap := s.heap.update l (Obj.mapSeq fun x => x ++ js), toks := s.toks }) :=
  .of_wp fun prog w A R s h => by
    obtain ⟨hp, g, d, tk, os⟩ := s
    obtain ⟨e1, e2, h⟩ := h
    have g1 := AutoSeq1.idx_int
    have g2 := AutoSeq1.sub_tuple_tuple; have g3 := AutoSeq1.sub_list_list
    have g4 := AutoSeq1.sub_tuple_list; have g5 := AutoSeq1.sub_list_tuple
    have q2' : (is ++ js).size ≤ sizeLine + 1 := by rw [Array.size_append]; omega
    wp_walk using (wpAny_updateSeq e1 rfl (hz := q1) (_hz' := q2')), AutoSeq1.wpAny_loadPart' e1, AutoSeq1.wpAny_loadPart' e2
    exact ⟨_, rfl, h⟩
def rExtT (K : PySem.W.Frag) : V → List V → Hp → VK → Prop := fun x vs H Q => ∃ l b xs zs, x = .ref l ∧ vs = [.ref b] ∧ H l = some (.lst xs) ∧ SqT K H b zs ∧ xs.length + zs.length ≤ sizeLine ∧ Q .non (upd H l (.lst (xs ++ zs)))
theorem mt_extT {X : Cx} {K : PySem.W.Frag} (hK : X.K = K := by rfl) : MtM X "list.extend" (rExtT K) := by
  subst hK
  intro pins s σ H x vs v us Q I rx rv h
  obtain ⟨l, b, xs, zs, rfl, rfl, hl, hb, hz, q⟩ := h
  cases rx
  obtain ⟨u, rfl, ru⟩ := rv.one
  cases ru
  obtain ⟨z1, is, n, ri, el, eo⟩ := I.lstM hl
  obtain ⟨js, rj, ⟨⟨cls, dd, dat, sl⟩, ho, hc, n2, hd⟩, h2⟩ := I.tuple hb
  have ej := rj.length
  simp only at hc hd
  subst hc hd
  have sz : is.toArray.size + js.toArray.size ≤ sizeLine := by rw [List.size_toArray, List.size_toArray]; omega
  have nl : ¬ (!is.toArray.isEmpty && Builtin.List.listTooLong (is.toArray.size + js.toArray.size)) = true := by
    rw [notLongL sz, Bool.and_false]; exact Bool.false_ne_true
  refine call_meets PySem.F.slot_list_extend ⟨_, eo, rfl⟩ PySem.F.entry_list_extend (PySem.F.args_list_extend_2 _ _) (ext_anyT l is.toArray n b js.toArray n2 dd sl nl (by rw [List.size_toArray]; omega) (by omega)) ⟨eo, ho, ?_⟩
  exact ⟨.non, _, I.lset (its' := is ++ js) hl eo (by simp) (ri.append rj) (by rw [List.length_append]; omega), rfl, q⟩
theorem ext_tup {K : PySem.W.Frag} {H : Hp} {Q : VK} {p q : Addr} {xs ys : List V} (h1 : H p = some (.lst xs)) (h2 : SqT K H q ys) (hl : xs.length + ys.length ≤ sizeLine) (h : putO p (xs ++ ys) H (Q .non)) : rExtT K (.ref p) [.ref q] H Q := ⟨p, q, xs, ys, rfl, rfl, h1, h2, hl, h⟩
theorem rLZip {K : PySem.W.Frag} {ta : TA} {σ : L2.St} {H : Hp} {Q : VK} (h : ta σ H fun vs H1 => ∃ a b xs ys, vs = [.ref a, .ref b] ∧ SqT K H1 a xs ∧ SqT K H1 b ys ∧ xs.length = ys.length ∧ xs.length ≤ sizeLine ∧ ∀ q H2, H1 q = none → ZIn H1 H2 q xs ys xs.length → Q (.ref q) H2) : tLZip K ta σ H Q := h
theorem ZIn.same {H0 Hc : Hp} {q : Addr} {xs ys : List V} {i : Nat} (g : ZIn H0 Hc q xs ys i) (f : H0 q = none) : Same H0 Hc := fun c o e => g.keep c o (ne_of_none e f) e
/-! ## a row of two lists, place by place -/
theorem Paired.of_at {α β : Type} {F : α → β → Prop} : ∀ {xs : List α} {ys : List β}, xs.length = ys.length → (∀ (j : Nat) x y, xs[j]? = some x → ys[j]? = some y → F x y) → Paired F xs ys
  | [], [], _, _ => .nil
  | [], _ :: _, h, _ => by cases h
  | _ :: _, [], h, _ => by cases h
  | x :: xs, y :: ys, h, f => .cons (f 0 x y rfl rfl) (Paired.of_at (Nat.succ.inj h) fun j a b h1 h2 => f (j + 1) a b h1 h2)
theorem zip_all {α : Type} : ∀ {xs ys : List α}, xs.length = ys.length → ((∀ e ∈ xs.zip ys, e.1 = e.2) ↔ xs = ys)
  | [], [], _ => ⟨fun _ => rfl, fun _ e h => nomatch h⟩
  | [], _ :: _, h => by cases h
  | _ :: _, [], h => by cases h
  | x :: xs, y :: ys, h => by
    rw [List.zip_cons_cons, List.forall_mem_cons, zip_all (Nat.succ.inj h)]
    exact ⟨fun ⟨a, b⟩ => by rw [show x = y from a, b], fun e => by injection e with a b; exact ⟨a, b⟩⟩
/-! ## the greatest of a list -/
theorem max_lst {K : PySem.W.Frag} {H : Hp} {Q : VK} {p : Addr} {ns : List Int} {m : Int} (h1 : H p = some (.lst (ns.map V.int))) (hm : m ∈ ns) (hg : ∀ y ∈ ns, y ≤ m) (h : Q (.int m) H) : rMax K [.ref p] H Q := by
  refine ⟨p, ns, rfl, SqL.of h1, List.length_pos_of_mem hm, fun m' h1 h2 => ?_⟩
  have := hg m' h1
  have := h2 m hm
  rw [show m' = m by omega]
  exact h
/-! ## dicts by tuples -/
section
variable {td ty tv : TE} {σ : L2.St} {H : Hp} {Q : VK} {QT : Bool → Hp → Prop} {a b : Addr} {kvs : List (List L2.Key × V)} {k : List L2.Key} {v : V}
theorem rDNewT (h : ∀ (p : Addr) (H' : Hp), Frs H p → Same H H' → H' p = some (.dT []) → Q (.ref p) H') : tDNewT σ H Q := fun p hp => h p _ hp (fun b u e => by rw [upd_ne (ne_of_none e hp)]; exact e) upd_same
theorem rDNotIn (h : ty σ H fun y H1 => td σ H1 fun x H2 => ∃ a o, x = .ref a ∧ DGet H2 a y o ∧ Q (.bl (!o.isSome)) H2) : tDNotIn ty td σ H Q := h
theorem dnot_t {R : Option V → Prop} (h1 : H a = some (.dT kvs)) (h2 : H b = some (.tup (k.map kV))) (h : R (valV kvs k)) : ∃ a' o, V.ref a = .ref a' ∧ DGet H a' (.ref b) o ∧ R o := ⟨a, _, rfl, DGet.t h1 h2, h⟩
theorem dget_t {R : V → Prop} (h1 : H a = some (.dT kvs)) (h2 : H b = some (.tup (k.map kV))) (h3 : valV kvs k = some v) (h : R v) : ∃ a' w, V.ref a = .ref a' ∧ DGet H a' (.ref b) (some w) ∧ R w := by
  refine ⟨a, v, rfl, ?_, h⟩
  rw [← h3]
  exact DGet.t h1 h2
theorem dput_t {R : Hp → Prop} (h1 : H a = some (.dT kvs)) (h2 : H b = some (.tup (k.map kV))) (hl : kvs.length < sizeLine) (h : R (upd H a (.dT (putK kvs k v)))) : ∃ a' H4, V.ref a = .ref a' ∧ DPut H a' (.ref b) v H4 ∧ R H4 := ⟨a, _, rfl, DPut.t h1 h2 hl, h⟩
end
/-! ## a comprehension over a tuple, read or in the text -/
theorem rRtK {K : PySem.W.Frag} {H : Hp} {p : Addr} {xs : List V} {R : Addr → Prop} (h1 : SqT K H p xs) (h : R p) : ∃ a, V.ref p = V.ref a ∧ (∃ xs, SqT K H a xs) ∧ R a := ⟨p, rfl, ⟨xs, h1⟩, h⟩
theorem compTK_pure {K : PySem.W.Frag} {a : Addr} {xs : List V} {i : Nat} {te : TE} {σ : L2.St} {H : Hp} {Q : VK} (ha : SqT K H a xs) (Pa : List V → Hp → Prop) (h0 : ∀ H2, Same H H2 → Pa [] H2)
    (hs : ∀ acc x H2 D, pIn H D xs.length acc H2 → xs[acc.length]? = some x → Pa acc H2 → te ((σ.set i none).set i (some x)) H2 (fun y H3 => pD H D Pa acc.length y H3))
    (hd : ∀ acc H2 D, acc.length = xs.length → Pa acc H2 → Same H H2 → H2 D = some (.lst acc) → Frs H D → Q (.ref D) H2) : compJ (Itt K a) (gName i) tYes te [i] σ H Q := by
  intro D hD
  refine lc_tup (K := K) (a := a) (xs := xs) (Qd := fun H' => Q (.ref D) H') (fun k H' => ∃ acc, acc.length = k ∧ Pa acc H' ∧ Same H H' ∧ H' D = some (.lst acc)) ⟨[], rfl, h0 _ (Same.upd_new (Same.refl H) hD), Same.upd_new (Same.refl H) hD, upd_same⟩ (fun i H' _ ⟨_, _, _, s, _⟩ => sqt_kp (KpS.same s) ha) ?_ ?_
  · rintro k x H' hx ⟨acc, rfl, pa, s, hDl⟩
    exact ⟨wipe1 σ i _, (hs acc x H' D ⟨hDl, hD, s, (List.getElem?_eq_some_iff.mp hx).1⟩ hx pa)⟩
  · rintro H' ⟨acc, e, pa, s, hDl⟩
    exact hd acc H' D e pa s hDl hD
theorem call_maxK {X : Cx} {K : PySem.W.Frag} (hc : X.calm = true) (hK : X.K = K := by rfl) : CallR X (.builtin "max") (rMax K) := by
  subst hK
  exact cr_max hc
theorem sl_tupc {K : PySem.W.Frag} {H : Hp} {Q : VK} {p : Addr} {xs : List V} {lo hi : Option Int} (h1 : H p = some (.tup xs)) (hn : ¬ (HT.sIx xs.length 0 lo = 0 ∧ HT.sIx xs.length xs.length hi = xs.length)) (h : newO (.tup (cutV xs lo hi)) H Q) : rSlU K (.ref p) lo hi H Q :=
  .inr (.inr ⟨p, xs, rfl, SqT.of h1, fun e => absurd e hn, fun _ => h⟩)
theorem SL.dT {l p : Addr} {H H' : Hp} {kvs : List (List L2.Key × V)} (s : SL l H H') (h : H p = some (.dT kvs)) : H' p = some (.dT kvs) := KpS.sl s p _ h fun _ z => nomatch z
theorem add_tupC {K : PySem.W.Frag} {p q : Addr} {xs ys : List V} {H : Hp} {Q : VK} (h1 : H p = some (.tup xs)) (h2 : H q = some (.tup ys)) (n1 : xs ≠ []) (hl : xs.length + ys.length ≤ sizeLine) (h : ∀ r H', Same H H' → H' r = some (.tup (xs ++ ys)) → Q (.ref r) H') : rAddU K (.ref p) (.ref q) H Q :=
  .inr (.inr (.inr ⟨p, q, xs, ys, rfl, rfl, SqT.of h1, SqT.of h2, hl, fun e => absurd e n1, fun _ e => h p H (Same.refl _) (by rw [e, List.append_nil]; exact h1), fun _ _ => newO_gen fun r H' _ s e => h r H' s e⟩))
end Z
namespace Z
open PySem PySem.Spec L2 ItX
local macro_rules | `(tactic| walk_at "ne") => `(tactic| first
  | with_reducible assumption
  | with_reducible exact Ne.symm (by assumption)
  | exact Frs.ne (by with_reducible assumption) (by walk_at "hp")
  | exact Frs.ne' (by with_reducible assumption) (by walk_at "hp"))
local macro_rules | `(tactic| walk_at "hp") => `(tactic| first
  | with_reducible assumption
  | (with_reducible refine Same.at (by assumption) ?_; walk_at "hp")
  | (with_reducible refine SL.tup (by assumption) ?_; walk_at "hp")
  | (with_reducible refine SL.at (by assumption) (by walk_at "ne") ?_; walk_at "hp"))
local macro_rules | `(tactic| walk_at "sz") => `(tactic| first
  | with_reducible assumption
  | exact Nat.le_of_ble_eq_true rfl
  | (refine sz_le ?_; omega)
  | (refine sz_lt ?_; omega)
  | decide +kernel)
local macro_rules | `(tactic| walk_at "at") => `(tactic| first
  | with_reducible assumption
  | with_reducible exact at0
  | with_reducible exact at1
  | with_reducible exact at2
  | with_reducible exact ixN0)
local macro_rules | `(tactic| walk_at "nn") => `(tactic| first
  | omega
  | decide
  | exact ⟨by decide, by decide⟩
  | exact ⟨by omega, by omega⟩
  | exact ⟨by omega, by omega, by omega, by omega⟩)
local macro_rules | `(tactic| walk_at "rdv") => `(tactic| first
  | (with_reducible refine add_int ?_)
  | (with_reducible refine sub_int ?_)
  | (with_reducible refine neg_int ?_)
  | ((with_reducible refine ix_tpl (xs := ?xs) (v := ?v) ?h1 ?h2 ?_); (case h1 => walk_at "hp"); (case h2 => walk_at "at"))
  | ((with_reducible refine ix_lst (xs := ?xs) (v := ?v) ?h1 ?h2 ?_); (case h1 => walk_at "hp"); (case h2 => walk_at "at"))
  | (with_reducible refine eq_int ?_)
  | (with_reducible refine ne_int ?_)
  | (with_reducible refine lt_int ?_)
  | (with_reducible refine le_int ?_)
  | (with_reducible refine gt_int ?_)
  | (with_reducible refine ge_int ?_)
  | (with_reducible refine eq_str ?_)
  | (with_reducible refine ne_str ?_)
  | (with_reducible refine eq_bl ?_)
  | (with_reducible refine ne_bl ?_)
  | ((with_reducible refine mod_int ?hc ?_); (case hc => walk_at "nn"))
  | ((with_reducible refine div_int ?hc ?_); (case hc => walk_at "nn"))
  | ((with_reducible refine mul_intR ?hc ?_); (case hc => exact ⟨by decide, by decide⟩))
  | ((with_reducible refine mul_intR ?hc ?_); (case hc => exact ⟨by omega, by omega⟩))
  | ((with_reducible refine mul_intL ?hc ?_); (case hc => exact ⟨by omega, by omega⟩))
  | ((with_reducible refine pow_int ?hc ?_); (case hc => exact ⟨by decide, by decide, by decide⟩))
  | ((with_reducible refine add_str ?hc ?_); (case hc => walk_at "sz"))
  | ((with_reducible refine add_lst (xs := ?xs) (ys := ?ys) ?h1 ?h2 ?hc ?_); (case h1 => walk_at "hp"); (case h2 => walk_at "hp"); (case hc => walk_at "sz"))
  | ((with_reducible refine sl_strU ?hc ?_); (case hc => walk_at "sz"))
  | ((with_reducible refine sl_lst (xs := ?xs) ?h1 ?_); (case h1 => walk_at "hp"))
  | (with_reducible refine is_bl ?_)
  | (with_reducible refine isnt_bl ?_)
  | (with_reducible refine is_non ?_)
  | (with_reducible refine isnt_non ?_))
local macro_rules | `(tactic| walk_at "rdc") => `(tactic| first
  | ((with_reducible refine len_lst (xs := ?xs) ?h1 ?_); (case h1 => walk_at "hp"))
  | ((with_reducible refine len_tup (xs := ?xs) ?h1 ?_); (case h1 => walk_at "hp"))
  | ((with_reducible refine len_str ?hc ?_); (case hc => walk_at "sz"))
  | (with_reducible refine int_int ?_)
  | (with_reducible refine max_int ?_)
  | (with_reducible refine min_int ?_)
  | (with_reducible refine abs_int ?_)
  | (with_reducible refine isi_ii ?_)
  | (with_reducible refine isi_ib ?_)
  | (with_reducible refine isi_ss ?_)
  | (with_reducible refine isi_bb ?_)
  | ((with_reducible refine isi_tt (xs := ?xs) ?h1 ?_); (case h1 => walk_at "hp"))
  | ((with_reducible refine isi_ll (xs := ?xs) ?h1 ?_); (case h1 => walk_at "hp"))
  | ((with_reducible refine list_lst (xs := ?xs) ?h1 ?_); (case h1 => walk_at "hp"))
  | ((with_reducible refine list_tup (xs := ?xs) ?h1 ?_); (case h1 => walk_at "hp"))
  | ((with_reducible refine tuple_lst (xs := ?xs) ?h1 ?_); (case h1 => walk_at "hp"))
  | ((with_reducible refine tuple_tup (xs := ?xs) ?h1 ?_); (case h1 => walk_at "hp"))
  | ((with_reducible refine append_lst (xs := ?xs) ?h1 ?hc ?_); (case h1 => walk_at "hp"); (case hc => walk_at "sz"))
  | ((with_reducible refine clear_lst (xs := ?xs) ?h1 ?_); (case h1 => walk_at "hp"))
  | ((with_reducible refine set_lst (xs := ?xs) (k := ?k) ?h1 ?h2 ?_); (case h1 => walk_at "hp"); (case h2 => walk_at "at")))
local macro_rules | `(tactic| walk_at "rd1") => `(tactic| first
  | ((with_reducible refine rVar (v := ?v) ?h ?_); (case h => exact rfl))
  | (with_reducible refine rC ?_)
  | (with_reducible refine rCons ?_)
  | (with_reducible refine rNil ?_)
  | (with_reducible refine rOp ?_)
  | (with_reducible refine rSeq ?_)
  | (with_reducible refine rAsgN ?_)
  | (with_reducible refine rAsgT ?_)
  | (with_reducible refine rAsgS ?_)
  | (with_reducible refine rTest ?_)
  | (with_reducible refine rBl ?_)
  | (with_reducible refine rBl' ?_)
  | (with_reducible refine rInt ?_)
  | (with_reducible refine rInt' ?_)
  | (with_reducible refine rCall ?_)
  | (with_reducible refine rCB ?_)
  | (with_reducible refine rRet ?_)
  | (with_reducible refine rDrop ?_)
  | (with_reducible refine rIfS ?_)
  | (with_reducible refine rTup ?_)
  | (with_reducible refine rLst ?_)
  | (with_reducible refine ⟨Nat.le_of_ble_eq_true rfl, ?_⟩)
  | (with_reducible refine rSl ?_)
  | (with_reducible refine rPart ?_)
  | (with_reducible refine rNoPart ?_)
  | (with_reducible refine rBM ?_)
  | (with_reducible refine rBM0 ?_)
  | ((with_reducible refine tyL (xs := ?xs) ?h1 ?_); (case h1 => walk_at "hp"))
  | (with_reducible refine rM1 ?_)
  | (with_reducible refine rM0 ?_)
  | (with_reducible refine rStr ?_)
  | (with_reducible refine rTru ?_)
  | (with_reducible refine tru_bl ?_)
  | (with_reducible refine tru_int ?_)
  | ((with_reducible refine tru_lst (xs := ?xs) ?h1 ?_); (case h1 => walk_at "hp"))
  | ((with_reducible refine tru_tup (xs := ?xs) ?h1 ?_); (case h1 => walk_at "hp"))
  | ((with_reducible refine tru_str ?hc ?_); (case hc => walk_at "sz"))
  | (with_reducible refine rAnd ?_)
  | (with_reducible refine rOr ?_)
  | (with_reducible refine rNot ?_)
  | (with_reducible refine rAndV ?_)
  | (with_reducible refine rOrV ?_)
  | (with_reducible refine rNotV ?_)
  | (with_reducible refine rIfE ?_)
  | (with_reducible refine rChain ?_)
  | (with_reducible refine rChain3 ?_)
  | (with_reducible refine ifT ?_)
  | (with_reducible refine ifF ?_)
  | (with_reducible refine ifNF ?_)
  | (with_reducible refine ifNT ?_)
  | (with_reducible refine rNext ?_)
  | (with_reducible refine rBrk ?_)
  | (with_reducible refine rCnt ?_)
  | (with_reducible refine rRetN ?_)
  | (with_reducible refine rForR1 ?_)
  | (with_reducible refine rForR2 ?_)
  | (with_reducible refine rForL ?_)
  | ((with_reducible refine rRg1 ?hb ?_); (case hb => walk_at "nn"))
  | ((with_reducible refine rRg2 ?hb ?_); (case hb => walk_at "nn"))
  | ((with_reducible refine rRf (xs := ?xs) ?h1 ?_); (case h1 => walk_at "hp"))
  | (with_reducible refine rLcR1 ?_)
  | (with_reducible refine rLcR2 ?_)
  | (with_reducible refine rLcL ?_)
  | (with_reducible refine gN ?_)
  | (with_reducible refine gNl ?_)
  | (with_reducible refine gC ?_)
  | ((with_reducible refine gT (xs := ?xs) ?h1 ?h2 ?_); (case h1 => walk_at "hp"); (case h2 => exact rfl))
  | (with_reducible refine rUn ?_)
  | walk_at "rdv"
  | walk_at "rdc")
local macro_rules | `(tactic| walk_at "rd") => `(tactic| repeat walk_at "rd1")

local macro_rules | `(tactic| walk_at "rd1") => `(tactic| first
  | (with_reducible refine rCallS ?_)
  | (with_reducible refine rRaise ?_)
  | (with_reducible refine rXf ?_)
  | (with_reducible refine rXi ?_)
  | (with_reducible refine rOst ?_)
  | (with_reducible refine rRevL ?_)
  | ((with_reducible refine revL_end (xs := ?xs) ?h1 ?_); (case h1 => walk_at "hp")))

local macro_rules | `(tactic| walk_at "rd1") => `(tactic| first
  | (with_reducible refine rForR3 ?_)
  | ((with_reducible refine rRgD ?hb ?_); (case hb => walk_at "nn"))
  | (with_reducible refine gS ?_))

local macro_rules | `(tactic| walk_at "rd1") => `(tactic| first
  | (with_reducible refine rFld ?_)
  | (with_reducible refine rSFld ?_)
  | (with_reducible refine rMake ?_)
  | (with_reducible refine rMeth ?_)
  | (with_reducible refine rForT ?_)
  | (with_reducible refine rLcT ?_)
  | (with_reducible refine rLcO ?_)
  | (with_reducible refine rForO ?_)
  | (with_reducible refine rLstY ?_)
  | ((with_reducible refine rRt (xs := ?xs) ?h1 ?_); (case h1 => walk_at "hp"))
  | ((with_reducible refine listY_lst (xs := ?xs) ?h1 ?_); (case h1 => walk_at "hp"))
  | ((with_reducible refine listY_tup (xs := ?xs) ?h1 ?_); (case h1 => walk_at "hp")))

local macro_rules | `(tactic| walk_at "hp") => `(tactic| first
  | (with_reducible refine SL.ins (by assumption) ?_; walk_at "hp"))
local macro_rules | `(tactic| walk_at "at") => `(tactic| first
  | with_reducible exact at3
  | with_reducible exact at4
  | with_reducible exact at5
  | with_reducible exact at6
  | with_reducible exact at7
  | with_reducible exact at8)
local macro_rules | `(tactic| walk_at "rd1") => `(tactic| first
  | (with_reducible refine rMkWK ?_)
  | (with_reducible refine rForS ?_)
  | (with_reducible refine rDGet ?_)
  | (with_reducible refine rDPut ?_)
  | (with_reducible refine rIts ?_)
  | (with_reducible refine rLstRg ?_)
  | ((with_reducible refine reverse_lst (xs := ?xs) ?h1 ?_); (case h1 => walk_at "hp"))
  | ((with_reducible refine extend_lst (xs := ?xs) (ys := ?ys) ?h1 ?h2 ?hc ?_); (case h1 => walk_at "hp"); (case h2 => walk_at "hp"); (case hc => walk_at "sz"))
  | ((with_reducible refine fN_kind (mg := ?mg) (C := ?C) (dx := ?dx) (d := ?d) (ns := ?ns) ?hu ?hp ?_); (case hu => with_reducible assumption); (case hp => walk_at "hp"))
  | ((with_reducible refine fN_symbol (mg := ?mg) (C := ?C) (dx := ?dx) (d := ?d) (ns := ?ns) ?hu ?hp ?_); (case hu => with_reducible assumption); (case hp => walk_at "hp"))
  | ((with_reducible refine fN_state (mg := ?mg) (C := ?C) (dx := ?dx) (d := ?d) (ns := ?ns) ?hu ?hp ?_); (case hu => with_reducible assumption); (case hp => walk_at "hp"))
  | ((with_reducible refine fN_lead (mg := ?mg) (C := ?C) (dx := ?dx) (d := ?d) (ns := ?ns) ?hu ?hp ?_); (case hu => with_reducible assumption); (case hp => walk_at "hp"))
  | ((with_reducible refine fN_width (mg := ?mg) (C := ?C) (dx := ?dx) (d := ?d) (ns := ?ns) ?hu ?hp ?_); (case hu => with_reducible assumption); (case hp => walk_at "hp"))
  | ((with_reducible refine fN_look (mg := ?mg) (C := ?C) (dx := ?dx) (d := ?d) (ns := ?ns) ?hu ?hp ?_); (case hu => with_reducible assumption); (case hp => walk_at "hp"))
  | ((with_reducible refine fN_alternative (mg := ?mg) (C := ?C) (dx := ?dx) (d := ?d) (ns := ?ns) ?hu ?hp ?_); (case hu => with_reducible assumption); (case hp => walk_at "hp"))
  | ((with_reducible refine fN_nodes (mg := ?mg) (C := ?C) (dx := ?dx) (d := ?d) (ns := ?ns) ?hu ?hp ?_); (case hu => with_reducible assumption); (case hp => walk_at "hp"))
  | ((with_reducible refine fN_popped (mg := ?mg) (C := ?C) (dx := ?dx) (d := ?d) (ns := ?ns) ?hu ?hp ?_); (case hu => with_reducible assumption); (case hp => walk_at "hp")))

local macro_rules | `(tactic| walk_at "hp") => `(tactic| first
  | (with_reducible refine SL.dT (by assumption) ?_; walk_at "hp"))
local macro_rules | `(tactic| walk_at "rd1") => `(tactic| first
  | (with_reducible refine rB ?_)
  | (with_reducible refine rLZip ?_)
  | (with_reducible refine rDNotIn ?_)
  | ((with_reducible refine max_lst (ns := ?ns) (m := ?m) ?h1 ?h2 ?h3 ?_); (case h1 => with_reducible assumption); (case h2 => with_reducible assumption); (case h3 => with_reducible assumption)))

/-! ## trees that are the same -/
def treeR (d : Dt) (k : Fo) : List Rw := ⟨0, d⟩ :: rowsF 1 k
theorem treeR_len (d : Dt) (k : Fo) : (treeR d k).length = k.cnt + 1 := by
  show (rowsF 1 k).length + 1 = _
  rw [rowsF_len]
theorem treeR_inj {d d' : Dt} {k k' : Fo} : treeR d k = treeR d' k' ↔ d = d' ∧ k = k' := by
  constructor
  · intro e
    have h := congrArg stk e
    rw [show stk (treeR d k) = [(0, d, k)] from stk_tree d k, show stk (treeR d' k') = [(0, d', k')] from stk_tree d' k'] at h
    injection h with h _
    injection h with _ h
    injection h with h1 h2
    exact ⟨h1, h2⟩
  · rintro ⟨rfl, rfl⟩; rfl
def FoOk : Fo → Prop
  | .nil => True
  | .cons d k r => DtOk d ∧ FoOk k ∧ FoOk r
theorem foOk_of : ∀ {f : Fo} {L : Int}, (∀ x ∈ rowsF L f, DtOk x.d) → FoOk f
  | .nil, _, _ => trivial
  | .cons d k r, L, h => ⟨h ⟨L, d⟩ (List.mem_cons_self ..), foOk_of fun x hx => h x (List.mem_cons_of_mem _ (List.mem_append.mpr (.inl hx))), foOk_of fun x hx => h x (List.mem_cons_of_mem _ (List.mem_append.mpr (.inr hx)))⟩
theorem roots_ok {L : Int} : ∀ {f : Fo}, FoOk f → ∀ e ∈ rootsF L f, DtOk e.2.1 ∧ FoOk e.2.2
  | .nil, _, e, h => nomatch h
  | .cons d k r, h, e, he => by
    rcases List.mem_cons.mp he with rfl | he
    · exact ⟨h.1, h.2.1⟩
    · exact roots_ok h.2.2 e he
def cntE (e : Rt) : Nat := 1 + e.2.2.cnt
theorem roots_cnt (L : Int) : ∀ f : Fo, ((rootsF L f).map cntE).sum = f.cnt
  | .nil => rfl
  | .cons d k r => by
    show (1 + k.cnt) + ((rootsF L r).map cntE).sum = 1 + k.cnt + r.cnt
    rw [roots_cnt L r]
theorem roots_lv {L : Int} : ∀ (f : Fo) (e : Rt), e ∈ rootsF L f → e.1 = L
  | .nil, e, h => nomatch h
  | .cons d k r, e, h => by
    rcases List.mem_cons.mp h with rfl | h
    · rfl
    · exact roots_lv r e h
theorem roots_inj {L : Int} {f g : Fo} : rootsF L f = rootsF L g ↔ f = g := ⟨fun e => by rw [← toFo_roots L f, e, toFo_roots], fun e => by rw [e]⟩
/-- what two nodes are compared by: the numbers in a tuple of their own -/
structure Ca where
  d : Dt
  n : Nat
deriving DecidableEq
def caEq (d : Dt) (n : Nat) (d' : Dt) (n' : Nat) : Bool := decide (d.k = d'.k ∧ d.s = d'.s ∧ (d.st = d'.st ∧ d.ld = d'.ld ∧ d.wd = d'.wd ∧ d.lk = d'.lk ∧ d.al = d'.al ∧ d.pp = d'.pp) ∧ n = n')
theorem caEq_iff {d d' : Dt} {n n' : Nat} : caEq d n d' n' = true ↔ d = d' ∧ n = n' := by
  obtain ⟨a, b, c, e, f, g, h, i⟩ := d
  obtain ⟨a', b', c', e', f', g', h', i'⟩ := d'
  unfold caEq
  rw [decide_eq_true_iff]
  simp [and_assoc]
def caD (d : Dt) (n : Nat) : PyData := .tuple [.str d.k, .str d.s, .tuple [.int d.st, .int d.ld, .int d.wd, .int d.lk, .int d.al, .int d.pp], .int n]
theorem caD_eqv (d d' : Dt) (n n' : Nat) : PyData.eqv (caD d n) (caD d' n') = caEq d n d' n' := by
  rw [Bool.eq_iff_iff]
  unfold caEq
  rw [decide_eq_true_iff]
  simp [caD, PyData.eqv, PyData.eqvAll, and_assoc]
  omega
theorem caD_shaped {d : Dt} {n : Nat} (h : DtOk d) : SeqAt.shaped (caD d n) = true := by
  unfold caD SeqAt.shaped
  simp [PyData.canLay0, PyData.canLayAll0, PyData.depth, PyData.depthAll, h.k.2.strOk, h.s.2.strOk]
def CaAt (H : Hp) (p : Addr) (d : Dt) (n : Nat) : Prop := ∃ m, H p = some (.tup [.str d.k, .str d.s, .ref m, .int n]) ∧ H m = some (.tup [.int d.st, .int d.ld, .int d.wd, .int d.lk, .int d.al, .int d.pp])
theorem CaAt.sm {H H' : Hp} {p : Addr} {d : Dt} {n : Nat} (s : Same H H') (h : CaAt H p d n) : CaAt H' p d n := let ⟨m, h1, h2⟩ := h; ⟨m, s _ _ h1, s _ _ h2⟩
theorem ca_dp {K : PySem.W.Frag} {H : Hp} {p : Addr} {d : Dt} {n : Nat} (h : CaAt H p d n) : Dp K H (.ref p) (caD d n) := by
  obtain ⟨m, h1, h2⟩ := h
  exact .tup (SqT.of h1) (.cons (.str _) (.cons (.str _) (.cons (.tup (SqT.of h2) (.cons (.int _) (.cons (.int _) (.cons (.int _) (.cons (.int _) (.cons (.int _) (.cons (.int _) .nil))))))) (.cons (.int _) .nil))))
theorem ne_ca {K : PySem.W.Frag} {H : Hp} {p q : Addr} {d d' : Dt} {n n' : Nat} {Q : VK} (hp : CaAt H p d n) (hq : CaAt H q d' n') (o1 : DtOk d) (o2 : DtOk d') (h : Q (.bl (!caEq d n d' n')) H) : rNeU K (.ref p) (.ref q) H Q := by
  refine ne_deep (ca_dp hp) (ca_dp hq) (caD_shaped o1) (caD_shaped o2) ?_
  rw [caD_eqv]
  exact h
def PrAt (K : PySem.W.Frag) (C : Addr) (H : Hp) (v : V) (e : Rt × Rt) : Prop := ∃ (t : Addr) (u w : V), v = .ref t ∧ H t = some (.tup [u, w]) ∧ NodeAt K C H u e.1.2.1 e.1.2.2 ∧ NodeAt K C H w e.2.2.1 e.2.2.2
theorem PrAt.kp {K : PySem.W.Frag} {C : Addr} {H H' : Hp} (s : KpS H H') {v : V} {e : Rt × Rt} (h : PrAt K C H v e) : PrAt K C H' v e := let ⟨t, u, w, h1, h2, h3, h4⟩ := h; ⟨t, u, w, h1, s.tp _ _ h2, h3.kp s, h4.kp s⟩
def szR (S : List (Rt × Rt)) : Nat := (S.map fun e => cntE e.1).sum
theorem szR_zip : ∀ (a b : List Rt), szR (a.zip b) ≤ (a.map cntE).sum
  | [], _ => by simp [szR]
  | _ :: _, [] => by simp [szR]
  | x :: a, y :: b => by
    have := szR_zip a b
    unfold szR at this ⊢
    simp only [List.zip_cons_cons, List.map_cons, List.sum_cons]
    omega
theorem szR_app (a b : List (Rt × Rt)) : szR (a ++ b) = szR a + szR b := by unfold szR; rw [List.map_append, List.sum_append]
theorem szR_rev (a : List (Rt × Rt)) : szR a.reverse = szR a := by unfold szR; rw [List.map_reverse, List.sum_reverse]
theorem szR_len (a : List (Rt × Rt)) : a.length ≤ szR a := by
  induction a with
  | nil => exact Nat.zero_le _
  | cons e a ih =>
    unfold szR cntE at ih ⊢
    simp only [List.map_cons, List.sum_cons, List.length_cons]
    omega
theorem Prd.mem {α β : Type} {F : α → β → Prop} {P : β → Prop} : ∀ {xs : List α} {ys : List β}, Paired F xs ys → (∀ y ∈ ys, P y) → Paired (fun a b => F a b ∧ P b) xs ys
  | _, _, .nil, _ => .nil
  | _, _, .cons r t, h => .cons ⟨r, h _ (List.mem_cons_self ..)⟩ (Prd.mem t fun y hy => h y (List.mem_cons_of_mem _ hy))
def sp_attributes_of (K : PySem.W.Frag) (C : Addr) : Sp := fun vs H Q _ => ∃ (v : V) (d : Dt) (k : Fo), vs = [v] ∧ NodeAt K C H v d k ∧ ∀ (p : Addr) (H' : Hp), Same H H' → CaAt H' p d k.len → Q (.ref p) H'
theorem use_attr {K : PySem.W.Frag} {C : Addr} {v : V} {d : Dt} {k : Fo} {H : Hp} {Q : VK} {E : XK} (hv : NodeAt K C H v d k) (h : ∀ (p : Addr) (H' : Hp), Same H H' → CaAt H' p d k.len → Q (.ref p) H') : sp_attributes_of K C [v] H Q E := ⟨v, d, k, rfl, hv, h⟩
def sp_same (K : PySem.W.Frag) (C : Addr) : Sp := fun vs H Q _ => ∃ (v u : V) (d d' : Dt) (k k' : Fo), vs = [v, u] ∧ NodeAt K C H v d k ∧ NodeAt K C H u d' k' ∧ DtOk d ∧ FoOk k ∧ DtOk d' ∧ FoOk k' ∧ k.cnt ≤ 1000000 ∧ ∀ (H' : Hp), Same H H' → Q (.bl (decide (treeR d k = treeR d' k'))) H'
theorem use_same {K : PySem.W.Frag} {C : Addr} {v u : V} {d d' : Dt} {k k' : Fo} {H : Hp} {Q : VK} {E : XK} (h1 : NodeAt K C H v d k) (h2 : NodeAt K C H u d' k') (o1 : DtOk d ∧ FoOk k) (o2 : DtOk d' ∧ FoOk k') (hl : k.cnt ≤ 1000000) (h : ∀ (H' : Hp), Same H H' → Q (.bl (decide (treeR d k = treeR d' k'))) H') : sp_same K C [v, u] H Q E := ⟨v, u, d, d', k, k', rfl, h1, h2, o1.1, o1.2, o2.1, o2.2, hl, h⟩
def sp_count_nodes (K : PySem.W.Frag) (C : Addr) : Sp := fun vs H Q _ => ∃ (v : V) (d : Dt) (k : Fo), vs = [v] ∧ NodeAt K C H v d k ∧ k.cnt ≤ 1000000 ∧ ∀ (H' : Hp), Same H H' → Q (.int (k.cnt + 1 : Nat)) H'
theorem use_count_nodes {K : PySem.W.Frag} {C : Addr} {v : V} {d : Dt} {k : Fo} {H : Hp} {Q : VK} {E : XK} (hv : NodeAt K C H v d k) (hl : k.cnt ≤ 1000000) (h : ∀ (H' : Hp), Same H H' → Q (.int (k.cnt + 1 : Nat)) H') : sp_count_nodes K C [v] H Q E := ⟨v, d, k, rfl, hv, hl, h⟩
def sp_height (K : PySem.W.Frag) (C : Addr) : Sp := fun vs H Q _ => ∃ (v : V) (d : Dt) (k : Fo), vs = [v] ∧ NodeAt K C H v d k ∧ k.cnt ≤ 1000000 ∧ ∀ (H' : Hp), Same H H' → Q (.int (k.dep + 1 : Nat)) H'
theorem use_height {K : PySem.W.Frag} {C : Addr} {v : V} {d : Dt} {k : Fo} {H : Hp} {Q : VK} {E : XK} (hv : NodeAt K C H v d k) (hl : k.cnt ≤ 1000000) (h : ∀ (H' : Hp), Same H H' → Q (.int (k.dep + 1 : Nat)) H') : sp_height K C [v] H Q E := ⟨v, d, k, rfl, hv, hl, h⟩
/-- the greatest level of what waits -/
def mxE : List Rt → Int
  | [] => 0
  | e :: t => max (e.1 + e.2.2.dep) (mxE t)
theorem mxE_app : ∀ a b : List Rt, mxE (a ++ b) = max (mxE a) (mxE b) ∨ mxE b < 0 := by
  intro a b
  induction a with
  | nil => show mxE b = max 0 (mxE b) ∨ _; omega
  | cons e a ih =>
    show max _ (mxE (a ++ b)) = max (max _ (mxE a)) (mxE b) ∨ _
    omega
theorem mxE_nn : ∀ {a : List Rt}, 0 ≤ mxE a
  | [] => Int.le_refl _
  | e :: a => by
    have := mxE_nn (a := a)
    show 0 ≤ max _ (mxE a)
    omega
theorem mxE_ap (a b : List Rt) : mxE (a ++ b) = max (mxE a) (mxE b) := by
  have := mxE_app a b
  have := mxE_nn (a := b)
  omega
theorem mxE_rev (a : List Rt) : mxE a.reverse = mxE a := by
  induction a with
  | nil => rfl
  | cons e a ih =>
    rw [List.reverse_cons, mxE_ap, ih]
    show max (mxE a) (max _ 0) = max _ (mxE a)
    have := mxE_nn (a := a)
    omega
theorem mxE_roots {l : Int} (hl : 0 ≤ l) : ∀ f : Fo, max l (mxE (rootsF (l + 1) f)) = l + f.dep
  | .nil => by show max l 0 = l + ((0 : Nat) : Int); omega
  | .cons d k r => by
    have ih := mxE_roots hl r
    show max l (max (l + 1 + (k.dep : Int)) (mxE (rootsF (l + 1) r))) = l + ((max (1 + k.dep) r.dep : Nat) : Int)
    omega
section
variable {P : Program} {w : World} {K : PySem.W.Frag} {mg : Str → Option Value} {base : Heap} {aNode aNil : Addr}
theorem cal_attributes_of {f : Addr} {fd : FuncData} (T : Txt mg) (FD : C8.Def K mg "attributes_of" s_attributes_of f fd) (b : Binds K fd ["node"] [])
    (u_Node : F_Node K mg aNode) : C8.Cal P w K mg base 1 "attributes_of" (sp_attributes_of K aNode) [] := by
  refine C8.cal0 FD b .nil sc_attributes_of (fun vs H Q E h => ?_) (fun cdv A outer s H vs Q E hr h => ?_)
  · obtain ⟨v, d, k, rfl, _⟩ := h; rfl
  · obtain ⟨v, d, k, rfl, ⟨p, dx, q, us, rfl, hp, hq, hus⟩, kk⟩ := h
    refine ⟨_, (pss_cons (ps_set (i := 1) sc_attributes_of.nd rfl (.inl rfl) (pe_tup (pa_cons (pe_fldK (K := K) (pv 0) rfl) (pa_cons (pe_fldK (K := K) (pv 0) rfl) (pa_cons (pe_fldK (K := K) (pv 0) rfl) (pa_cons (pe_fldK (K := K) (pv 0) rfl) (pa_cons (pe_fldK (K := K) (pv 0) rfl) (pa_cons (pe_fldK (K := K) (pv 0) rfl) pa_nil))))))))
  (pss_one (ps_ret (pe_tup (pa_cons (pe_fldK (K := K) (pv 0) rfl) (pa_cons (pe_fldK (K := K) (pv 0) rfl) (pa_cons (pv 1) (pa_cons (pe_callB (call_lenK K) (by rfl) T.n_len PySem.boot_len (pa_cons (pe_fldK (K := K) (pv 0) rfl) pa_nil)) pa_nil)))))))), ?_⟩
    show (_ : TS) _ [some (.ref p), none] H
    have hul := hus.len
    walk_at "rd"
    refine newO_gen fun t H1 g1 s1 h1 => ?_
    have hp1 := s1 _ _ hp
    have hq1 := sqt_kp (KpS.same s1) hq
    walk_at "rd"
    refine len_sqt hq1 ?_
    walk_at "rd"
    refine newO_gen fun t2 H2 g2 s2 h2 => ?_
    refine kk t2 H2 (Same.trans s1 s2) ⟨t, ?_, s2 _ _ h1⟩
    rw [h2, hul]
theorem cal_same {f : Addr} {fd : FuncData} (T : Txt mg) (FD : C8.Def K mg "same" s_same f fd) (b : Binds K fd ["first", "second"] [])
    (c_attributes_of : C8.Cal P w K mg base 1 "attributes_of" (sp_attributes_of K aNode) [])
    (u_Node : F_Node K mg aNode) : C8.Cal P w K mg base 2 "same" (sp_same K aNode) [] := by
  refine C8.cal0 FD b .nil sc_same (fun vs H Q E h => ?_) (fun cdv A outer s H vs Q E hr h => ?_)
  · obtain ⟨v, u, d, d', k, k', rfl, _⟩ := h; rfl
  · obtain ⟨v, u, d, d', k, k', rfl, hv, hu, o1, o2, o3, o4, hl, kk⟩ := h
    refine ⟨_, (pss_cons (ps_set (i := 2) sc_same.nd rfl (.inl rfl) (pe_lst (pa_cons (pe_tup (pa_cons (pv 0) (pa_cons (pv 1) pa_nil))) pa_nil)))
  (pss_cons (ps_while PassesOwn.never (pt_truK K (pv 2) (by intro _; rfl)) (pss_cons (ps_asg (pe_bm0 F.plainAttrs_list F.slot_list_pop F.type_list_pop mt_pop (pv 2)) (pg_tup rfl (pgs_cons (pg_name (i := 3) sc_same.nd rfl (.inl rfl)) (pgs_cons (pg_name (i := 4) sc_same.nd rfl (.inl rfl)) pgs_nil))))
  (pss_cons (ps_if (pt_cmpR (op_neK K (hu64 hr)) (C8.pe_c c_attributes_of hr (by decide) (by rfl) (pa_cons (pv 3) pa_nil)) (C8.pe_c c_attributes_of hr (by decide) (by rfl) (pa_cons (pv 4) pa_nil)) (nomark _)) (pss_one (ps_ret pe_bl)) pss_nil)
  (pss_one (ps_expr (pe_bm F.plainAttrs_list F.slot_list_extend F.type_list_extend mt_extend (pv 2) (pa_cons (pe_listZip (K := K) rfl (by rfl) T.n_list (by rfl) T.n_zip (pa_cons (pe_fldK (K := K) (pv 3) rfl) (pa_cons (pe_fldK (K := K) (pv 4) rfl) pa_nil))) pa_nil)))))))
  (pss_one (ps_ret pe_bl)))), ?_⟩
    show (_ : TS) _ [some v, some u, none, none, none] H
    walk_at "rd"
    refine newO_gen fun t0 H1 g1 s1 h1 => ?_
    walk_at "rd"
    refine newO_gen fun td H2 g2 s2 h2 => ?_
    have s02 : Same H H2 := Same.trans s1 s2
    have gt : Frs H td := Same.fre s1 g2
    walk_at "rd"
    refine whileC (fun m σ' H' => ∃ (S : List V) (es : List (Rt × Rt)) (o3 o4 : Option V), σ' = [some v, some u, some (.ref td), o3, o4] ∧ Same H H' ∧ H' td = some (.lst S.reverse) ∧ Paired (PrAt K aNode H') S es ∧ (∀ e ∈ es, (DtOk e.1.2.1 ∧ FoOk e.1.2.2) ∧ (DtOk e.2.2.1 ∧ FoOk e.2.2.2) ∧ e.1.1 = 0 ∧ e.2.1 = 0) ∧
        (treeR d k = treeR d' k' ↔ ∀ e ∈ es, e.1 = e.2) ∧ szR es ≤ k.cnt + 1 ∧ m = szR es)
      (fun σ' H' => ∃ (o3 o4 : Option V), σ' = [some v, some u, some (.ref td), o3, o4] ∧ Same H H' ∧ treeR d k = treeR d' k') (m := szR [((0, d, k), (0, d', k'))]) ?_ ?_ ?_
    · refine ⟨[.ref t0], [((0, d, k), (0, d', k'))], none, none, rfl, s02, h2, .cons ⟨t0, v, u, rfl, s2 _ _ h1, hv.kp (KpS.same s02), hu.kp (KpS.same s02)⟩ .nil, ?_, ?_, ?_, rfl⟩
      · intro e he
        rw [List.mem_singleton.mp he]
        exact ⟨⟨o1, o2⟩, ⟨o3, o4⟩, rfl, rfl⟩
      · rw [treeR_inj]
        constructor
        · rintro ⟨rfl, rfl⟩ e he
          rw [List.mem_singleton.mp he]
        · intro h
          have h := h _ (List.mem_singleton.mpr rfl)
          injection h with _ h
          injection h with h1 h2
          exact ⟨h1, h2⟩
      · show (1 + k.cnt) + 0 ≤ _; omega
    · rintro nx' hnx m σ' H3 ⟨S, es, p3, p4, rfl, s3, h3, hS, hok, hE, hsz, rfl⟩
      cases hS with
      | nil =>
        replace h3 : H3 td = some (.lst []) := h3
        walk_at "rd"
        rw [show (!(([] : List V)).isEmpty) = false from rfl]
        walk_at "rd"
        exact hnx _ _ ⟨_, _, rfl, s3, hE.mpr fun _ h => nomatch h⟩
      | @cons x e S' es' hx hS' =>
        obtain ⟨pt, ul, ur, rfl, hpt, hL, hRr⟩ := hx
        obtain ⟨⟨a1, a2⟩, ⟨a3, a4⟩, a5, a6⟩ := hok e (List.mem_cons_self ..)
        have hSl := Paired.len hS'
        rw [List.reverse_cons] at h3
        have hlast : (S'.reverse ++ [V.ref pt])[(S'.reverse ++ [V.ref pt]).length - 1]? = some (V.ref pt) := by
          rw [List.length_append, List.getElem?_append_right (by show S'.reverse.length ≤ S'.reverse.length + 1 - 1; omega)]
          rw [show S'.reverse.length + [V.ref pt].length - 1 - S'.reverse.length = 0 by show S'.reverse.length + 1 - 1 - _ = 0; omega]
          rfl
        have hsze : szR (e :: es') = 1 + e.1.2.2.cnt + szR es' := by unfold szR cntE; simp
        walk_at "rd"
        rw [show (!(S'.reverse ++ [V.ref pt]).isEmpty) = true by simp]
        refine ifT (wGo ?_)
        walk_at "rd"
        refine pop_lst h3 hlast ?_
        refine putO_gen h3 fun H4 s4 h4 => ?_
        rw [List.dropLast_concat] at h4
        have s04 : Same H H4 := SL.same s3 s4 gt
        have k4 : KpS H3 H4 := KpS.sl s4
        have hpt4 := s4.tup hpt
        walk_at "rd"
        refine use_attr (hL.kp k4) fun ta H5 s5 h5 => ?_
        walk_at "rd"
        have k5 : KpS H3 H5 := KpS.trans k4 (KpS.same s5)
        refine use_attr (hRr.kp k5) fun tb H6 s6 h6 => ?_
        have k6 : KpS H3 H6 := KpS.trans k5 (KpS.same s6)
        have s06 : Same H H6 := Same.trans (Same.trans s04 s5) s6
        have h6t := s6 _ _ (s5 _ _ h4)
        refine ne_ca (h5.sm s6) h6 a1 a3 ?_
        cases hc : caEq e.1.2.1 e.1.2.2.len e.2.2.1 e.2.2.2.len with
        | false =>
          walk_at "rd"
          have hne : ¬ treeR d k = treeR d' k' := fun q => by
            have h := hE.mp q e (List.mem_cons_self ..)
            have : caEq e.1.2.1 e.1.2.2.len e.2.2.1 e.2.2.2.len = true := caEq_iff.mpr ⟨by rw [h], by rw [h]⟩
            rw [hc] at this
            cases this
          have := kk H6 s06
          rw [decide_eq_false hne] at this
          exact this
        | true =>
          obtain ⟨q1, q2⟩ := caEq_iff.mp hc
          have hS6 : Paired (PrAt K aNode H6) S' es' := Paired.imp (fun _ _ r => r.kp k6) hS'
          obtain ⟨pl, dl, ql, usl, rfl, hpl, hql, husl⟩ := hL.kp k6
          obtain ⟨pr, dr, qr, usr, rfl, hpr, hqr, husr⟩ := hRr.kp k6
          have hll := husl.len
          have hlr := husr.len
          have hkc : e.1.2.2.len ≤ e.1.2.2.cnt := by
            rw [← roots_len 0, ← rowsF_len 0, ← pendR_roots]
            exact pend_len _
          have hsl := szR_len es'
          have hSr : (S'.reverse : List V).length = es'.length := by rw [List.length_reverse, hSl]
          walk_at "rd"
          refine ⟨ql, qr, usl, usr, rfl, hql, hqr, by omega, sz_le (by omega), fun z H7 fz gz => ?_⟩
          have s7 := gz.same fz
          obtain ⟨ts, g1, g2, g3⟩ := gz.lst
          have h7t := s7 _ _ h6t
          walk_at "rd"
          refine putO_gen h7t fun H8 s8 h8 => ?_
          have k8 : KpS H6 H8 := KpS.trans (KpS.same s7) (KpS.sl s8)
          have hzl : (rootsF 0 e.1.2.2).length = (rootsF 0 e.2.2.2).length := by rw [roots_len, roots_len]; exact q2
          have hzip : Paired (PrAt K aNode H8) ts ((rootsF 0 e.1.2.2).zip (rootsF 0 e.2.2.2)) := by
            refine Paired.of_at (by rw [List.length_zip, roots_len, roots_len, g2]; omega) fun j t y ht hy => ?_
            have hj : j < usl.length := by rw [← g2]; exact (List.getElem?_eq_some_iff.mp ht).1
            obtain ⟨T, x, x', rfl, hT, hx1, hx2⟩ := g3 j t ht
            obtain ⟨v1, e1, b1, b2, b3, b4⟩ := NodesAt.at 0 (i := j) husl (by omega)
            obtain ⟨v2, e2, c1, c2, c3, c4⟩ := NodesAt.at 0 (i := j) husr (by omega)
            rw [hx1] at b1
            rw [hx2] at c1
            cases b1
            cases c1
            rw [List.getElem?_zip_eq_some] at hy
            obtain ⟨y1, y2⟩ := hy
            rw [y1] at b2
            rw [y2] at c2
            cases b2
            cases c2
            exact ⟨T, _, _, rfl, s8.tup hT, b4.kp k8, c4.kp k8⟩
          have hszz := szR_zip (rootsF 0 e.1.2.2) (rootsF 0 e.2.2.2)
          rw [roots_cnt] at hszz
          have hszn : szR (((rootsF 0 e.1.2.2).zip (rootsF 0 e.2.2.2)).reverse ++ es') ≤ e.1.2.2.cnt + szR es' := by rw [szR_app, szR_rev]; omega
          refine ⟨_, by omega, ts.reverse ++ S', ((rootsF 0 e.1.2.2).zip (rootsF 0 e.2.2.2)).reverse ++ es', _, _, rfl, SL.same (Same.trans s06 s7) s8 gt, by rw [h8, List.reverse_append, List.reverse_reverse], Paired.app (Paired.rev hzip) (Paired.imp (fun _ _ r => r.kp k8) hS6), ?_, ?_, by omega, rfl⟩
          · intro e' he'
            rcases List.mem_append.mp he' with he' | he'
            · have he' := List.mem_reverse.mp he'
              have m1 := List.of_mem_zip he'
              exact ⟨roots_ok a2 _ m1.1, roots_ok a4 _ m1.2, roots_lv _ _ m1.1, roots_lv _ _ m1.2⟩
            · exact hok e' (List.mem_cons_of_mem _ he')
          · rw [hE]
            have key : e.1 = e.2 ↔ ∀ e' ∈ ((rootsF 0 e.1.2.2).zip (rootsF 0 e.2.2.2)).reverse, e'.1 = e'.2 := by
              have h1 := (zip_all hzl).trans (roots_inj (L := 0))
              constructor
              · intro q e' he'
                exact h1.mpr (by rw [q]) e' (List.mem_reverse.mp he')
              · intro q
                have h2 := h1.mp fun e' he' => q e' (List.mem_reverse.mpr he')
                obtain ⟨⟨l1, d1, k1⟩, ⟨l2, d2, k2⟩⟩ := e
                simp only at a5 a6 q1 h2
                rw [a5, a6, q1, h2]
            rw [List.forall_mem_cons, key, List.forall_mem_append]
    · rintro σ' H' ⟨p3, p4, rfl, s', he⟩
      walk_at "rd"
      have := kk H' s'
      rw [decide_eq_true he] at this
      exact this
theorem cal_count_nodes {f : Addr} {fd : FuncData} (T : Txt mg) (FD : C8.Def K mg "count_nodes" s_count_nodes f fd) (b : Binds K fd ["node"] [])
    (u_Node : F_Node K mg aNode) : C8.Cal P w K mg base 1 "count_nodes" (sp_count_nodes K aNode) [] := by
  refine C8.cal0 FD b .nil sc_count_nodes (fun vs H Q E h => ?_) (fun cdv A outer s H vs Q E hr h => ?_)
  · obtain ⟨v, d, k, rfl, _⟩ := h; rfl
  · obtain ⟨v, d, k, rfl, hv, hl, kk⟩ := h
    refine ⟨_, (pss_cons (ps_set (i := 1) sc_count_nodes.nd rfl (.inl rfl) pe_int)
  (pss_cons (ps_set (i := 2) sc_count_nodes.nd rfl (.inl rfl) (pe_lst (pa_cons (pv 0) pa_nil)))
  (pss_cons (ps_while PassesOwn.never (pt_truK K (pv 2) (by intro _; rfl)) (pss_cons (ps_set (i := 3) sc_count_nodes.nd rfl (.inl rfl) (pe_bm0 F.plainAttrs_list F.slot_list_pop F.type_list_pop mt_pop (pv 2)))
  (pss_cons (ps_set (i := 1) sc_count_nodes.nd rfl (.inl rfl) (pe_op (op_addK K) (pv 1) pe_int))
  (pss_one (ps_expr (pe_bm F.plainAttrs_list F.slot_list_extend F.type_list_extend (mt_extT (K := K)) (pv 2) (pa_cons (pe_fldK (K := K) (pv 3) rfl) pa_nil)))))))
  (pss_one (ps_ret (pv 1)))))), ?_⟩
    show (_ : TS) _ [some v, none, none, none] H
    walk_at "rd"
    refine newO_gen fun td H1 g1 s1 h1 => ?_
    walk_at "rd"
    refine whileC (fun m σ' H' => ∃ (c : Nat) (S : List V) (es : List Rt) (o3 : Option V), σ' = [some v, some (.int c), some (.ref td), o3] ∧ Same H H' ∧ H' td = some (.lst S.reverse) ∧ Paired (fun v e => NodeAt K aNode H' v e.2.1 e.2.2) S es ∧ c + (es.map cntE).sum = k.cnt + 1 ∧ m = (es.map cntE).sum)
      (fun σ' H' => ∃ (o3 : Option V), σ' = [some v, some (.int (k.cnt + 1 : Nat)), some (.ref td), o3] ∧ Same H H') (m := ([(0, d, k)].map cntE).sum) ?_ ?_ ?_
    · refine ⟨0, [v], [(0, d, k)], none, rfl, s1, h1, .cons (hv.kp (KpS.same s1)) .nil, ?_, rfl⟩
      show 0 + (1 + k.cnt + 0) = _
      omega
    · rintro nx' hnx m σ' H3 ⟨c, S, es, o3, rfl, s3, h3, hS, hE, rfl⟩
      cases hS with
      | nil =>
        replace h3 : H3 td = some (.lst []) := h3
        walk_at "rd"
        rw [show (!(([] : List V)).isEmpty) = false from rfl]
        walk_at "rd"
        have hc : c = k.cnt + 1 := hE
        rw [hc]
        exact hnx _ _ ⟨_, rfl, s3⟩
      | @cons x e S' es' hx hS' =>
        have hSl := Paired.len hS'
        rw [List.reverse_cons] at h3
        have hlast : (S'.reverse ++ [x])[(S'.reverse ++ [x]).length - 1]? = some x := by
          rw [List.length_append, List.getElem?_append_right (by show S'.reverse.length ≤ S'.reverse.length + 1 - 1; omega)]
          rw [show S'.reverse.length + [x].length - 1 - S'.reverse.length = 0 by show S'.reverse.length + 1 - 1 - _ = 0; omega]
          rfl
        have hsze : ((e :: es').map cntE).sum = 1 + e.2.2.cnt + (es'.map cntE).sum := by unfold cntE; simp
        have hln : es'.length ≤ (es'.map cntE).sum := by
          clear hS' hE hSl hsze hx
          induction es' with
          | nil => exact Nat.zero_le _
          | cons a t ih =>
            have : cntE a = 1 + a.2.2.cnt := rfl
            simp only [List.map_cons, List.sum_cons, List.length_cons]
            omega
        walk_at "rd"
        rw [show (!(S'.reverse ++ [x]).isEmpty) = true by simp]
        refine ifT (wGo ?_)
        walk_at "rd"
        refine pop_lst h3 hlast ?_
        refine putO_gen h3 fun H4 s4 h4 => ?_
        rw [List.dropLast_concat] at h4
        have k4 : KpS H3 H4 := KpS.sl s4
        obtain ⟨p, dx, q, us, rfl, hp, hq, hus⟩ := hx.kp k4
        have hul := hus.len
        have hkc : e.2.2.len ≤ e.2.2.cnt := by
          rw [← roots_len 0, ← rowsF_len 0, ← pendR_roots]
          exact pend_len _
        have hSr : (S'.reverse : List V).length = es'.length := by rw [List.length_reverse, hSl]
        walk_at "rd"
        refine ext_tup h4 hq (sz_le (by omega)) ?_
        refine putO_gen h4 fun H5 s5 h5 => ?_
        have k5 : KpS H4 H5 := KpS.sl s5
        have hn : ((((rootsF 0 e.2.2).reverse ++ es').map cntE).sum) = e.2.2.cnt + (es'.map cntE).sum := by rw [List.map_append, List.sum_append, List.map_reverse, List.sum_reverse, roots_cnt]
        refine ⟨_, by omega, c + 1, us.reverse ++ S', (rootsF 0 e.2.2).reverse ++ es', _, rfl, SL.same (SL.same s3 s4 g1) s5 g1, by rw [h5, List.reverse_append, List.reverse_reverse], Paired.app (Paired.rev ?_) (Paired.imp (fun _ _ r => r.kp (KpS.trans k4 k5)) hS'), by omega, rfl⟩
        refine Paired.of_at (by rw [roots_len]; exact hul) fun j t y ht hy => ?_
        obtain ⟨v1, e1, b1, b2, b3, b4⟩ := NodesAt.at 0 (i := j) hus (by rw [← hul]; exact (List.getElem?_eq_some_iff.mp ht).1)
        rw [ht] at b1
        rw [hy] at b2
        cases b1
        cases b2
        exact b4.kp k5
    · rintro σ' H' ⟨o3, rfl, s'⟩
      walk_at "rd"
      exact kk H' s'
theorem cal_height {f : Addr} {fd : FuncData} (T : Txt mg) (FD : C8.Def K mg "height" s_height f fd) (b : Binds K fd ["node"] [])
    (u_Node : F_Node K mg aNode) : C8.Cal P w K mg base 1 "height" (sp_height K aNode) [] := by
  refine C8.cal0 FD b .nil sc_height (fun vs H Q E h => ?_) (fun cdv A outer s H vs Q E hr h => ?_)
  · obtain ⟨v, d, k, rfl, _⟩ := h; rfl
  · obtain ⟨v, d, k, rfl, hv, hl, kk⟩ := h
    refine ⟨_, (pss_cons (ps_set (i := 1) sc_height.nd rfl (.inl rfl) pe_int)
  (pss_cons (ps_set (i := 2) sc_height.nd rfl (.inl rfl) (pe_lst (pa_cons (pe_tup (pa_cons pe_int (pa_cons (pv 0) pa_nil))) pa_nil)))
  (pss_cons (ps_while PassesOwn.never (pt_truK K (pv 2) (by intro _; rfl)) (pss_cons (ps_asg (pe_bm0 F.plainAttrs_list F.slot_list_pop F.type_list_pop mt_pop (pv 2)) (pg_tup rfl (pgs_cons (pg_name (i := 3) sc_height.nd rfl (.inr rfl)) (pgs_cons (pg_name (i := 4) sc_height.nd rfl (.inl rfl)) pgs_nil))))
  (pss_cons (ps_set (i := 1) sc_height.nd rfl (.inl rfl) (pe_callB (call_max2U rfl) (by rfl) T.n_max (by decide +kernel) (pa_cons (pv 1) (pa_cons (pv 3) pa_nil))))
  (pss_one (ps_expr (pe_bm F.plainAttrs_list F.slot_list_extend F.type_list_extend mt_extend (pv 2) (pa_cons (pe_lc (own := [("child", 5)]) rfl sc_height.nd (pi_tupK K (pe_fldK (K := K) (pv 4) rfl)) (blkOk_by (own := [("child", 5)]) (N := ["node", "tallest", "todo", "level", "here", "child"]) (sc := C8.fnScope s_height) (by decide +kernel)) (fun _ _ _ _ _ => (pg_name (i := 5) sc_height.nd rfl (.inl rfl))) (fun _ _ _ _ _ => pts_nil) (fun _ _ _ _ _ => (pe_tup (pa_cons (pe_op (op_addK K) (pv 3) pe_int) (pa_cons (pv 5) pa_nil))))) pa_nil)))))))
  (pss_one (ps_ret (pv 1)))))), ?_⟩
    show (_ : TS) _ [some v, none, none, none, none, none] H
    walk_at "rd"
    refine newO_gen fun t0 H1 g1 s1 h1 => ?_
    walk_at "rd"
    refine newO_gen fun td H2 g2 s2 h2 => ?_
    have s02 : Same H H2 := Same.trans s1 s2
    have gt : Frs H td := Same.fre s1 g2
    walk_at "rd"
    refine whileC (fun m σ' H' => ∃ (t : Int) (S : List V) (es : List Rt) (o3 o4 o5 : Option V), σ' = [some v, some (.int t), some (.ref td), o3, o4, o5] ∧ Same H H' ∧ H' td = some (.lst S.reverse) ∧ Paired (PendAt K aNode H') S es ∧ (∀ e ∈ es, 0 ≤ e.1) ∧ 0 ≤ t ∧ max t (mxE es) = 1 + k.dep ∧ (es.map cntE).sum ≤ k.cnt + 1 ∧ m = (es.map cntE).sum)
      (fun σ' H' => ∃ (o3 o4 o5 : Option V), σ' = [some v, some (.int (k.dep + 1 : Nat)), some (.ref td), o3, o4, o5] ∧ Same H H') (m := ([(1, d, k)].map cntE).sum) ?_ ?_ ?_
    · refine ⟨0, [.ref t0], [(1, d, k)], none, none, none, rfl, s02, h2, .cons ⟨t0, v, rfl, s2 _ _ h1, hv.kp (KpS.same s02)⟩ .nil, fun e he => by rw [List.mem_singleton.mp he]; show (0 : Int) ≤ 1; decide, Int.le_refl _, ?_, ?_, rfl⟩
      · show max 0 (max (1 + (k.dep : Int)) 0) = _
        omega
      · show 1 + k.cnt + 0 ≤ _
        omega
    · rintro nx' hnx m σ' H3 ⟨t, S, es, o3, o4, o5, rfl, s3, h3, hS, hlv, ht0, hmx, hE, rfl⟩
      cases hS with
      | nil =>
        replace h3 : H3 td = some (.lst []) := h3
        walk_at "rd"
        rw [show (!(([] : List V)).isEmpty) = false from rfl]
        walk_at "rd"
        have hc : t = (k.dep + 1 : Nat) := by
          have : max t 0 = 1 + (k.dep : Int) := hmx
          omega
        rw [hc]
        exact hnx _ _ ⟨_, _, _, rfl, s3⟩
      | @cons x e S' es' hx hS' =>
        obtain ⟨pt, un, rfl, hpt, hn⟩ := hx
        have hSl := Paired.len hS'
        have hl0 := hlv e (List.mem_cons_self ..)
        rw [List.reverse_cons] at h3
        have hlast : (S'.reverse ++ [V.ref pt])[(S'.reverse ++ [V.ref pt]).length - 1]? = some (V.ref pt) := by
          rw [List.length_append, List.getElem?_append_right (by show S'.reverse.length ≤ S'.reverse.length + 1 - 1; omega)]
          rw [show S'.reverse.length + [V.ref pt].length - 1 - S'.reverse.length = 0 by show S'.reverse.length + 1 - 1 - _ = 0; omega]
          rfl
        have hsze : ((e :: es').map cntE).sum = 1 + e.2.2.cnt + (es'.map cntE).sum := by unfold cntE; simp
        have hln : es'.length ≤ (es'.map cntE).sum := by
          clear hS' hE hSl hsze hmx hlv
          induction es' with
          | nil => exact Nat.zero_le _
          | cons a t ih =>
            have : cntE a = 1 + a.2.2.cnt := rfl
            simp only [List.map_cons, List.sum_cons, List.length_cons]
            omega
        walk_at "rd"
        rw [show (!(S'.reverse ++ [V.ref pt]).isEmpty) = true by simp]
        refine ifT (wGo ?_)
        walk_at "rd"
        refine pop_lst h3 hlast ?_
        refine putO_gen h3 fun H4 s4 h4 => ?_
        rw [List.dropLast_concat] at h4
        have k4 : KpS H3 H4 := KpS.sl s4
        have hpt4 := s4.tup hpt
        obtain ⟨p, dx, q, us, rfl, hp, hq, hus⟩ := hn.kp k4
        have hul := hus.len
        have hkc : e.2.2.len ≤ e.2.2.cnt := by
          rw [← roots_len 0, ← rowsF_len 0, ← pendR_roots]
          exact pend_len _
        have hSr : (S'.reverse : List V).length = es'.length := by rw [List.length_reverse, hSl]
        have s04 : Same H H4 := SL.same s3 s4 gt
        walk_at "rd"
        refine rRtK hq ?_
        refine compTK_pure hq (fun acc H' => Paired (PendAt K aNode H') acc ((rootsF (e.1 + 1) e.2.2).take acc.length)) (fun _ _ => .nil) ?_ ?_
        · intro acc y H5 D c hy pa
          obtain ⟨v1, e1, b1, b2, b3, b4⟩ := NodesAt.at (e.1 + 1) (i := acc.length) hus (by rw [← hul]; exact c.lt)
          rw [hy] at b1
          cases b1
          walk_at "rd"
          refine newO_gen fun tn H6 g6 s6 h6 => ?_
          refine pD_of c (by omega) s6 fun H7 s7 => ?_
          have k7 : KpS H5 H7 := KpS.trans (KpS.same s6) (KpS.sl s7)
          rw [List.length_append, show acc.length + [V.ref tn].length = acc.length + 1 from rfl, List.take_succ, b2]
          refine Paired.snoc (Paired.imp (fun _ _ r => r.kp k7) pa) ⟨tn, _, rfl, ?_, b4.kp (KpS.trans (KpS.same c.since) k7)⟩
          rw [b3]
          exact s7.tup h6
        · intro acc H5 D hal pa s5 h5 f5
          rw [hal, hul, List.take_of_length_le (by rw [roots_len]; exact Nat.le_refl _)] at pa
          have h5t := s5 _ _ h4
          walk_at "rd"
          refine putO_gen h5t fun H6 s6 h6 => ?_
          have k6 : KpS H5 H6 := KpS.sl s6
          have hn : ((((rootsF (e.1 + 1) e.2.2).reverse ++ es').map cntE).sum) = e.2.2.cnt + (es'.map cntE).sum := by rw [List.map_append, List.sum_append, List.map_reverse, List.sum_reverse, roots_cnt]
          refine ⟨_, by omega, _, acc.reverse ++ S', (rootsF (e.1 + 1) e.2.2).reverse ++ es', _, _, _, rfl, SL.same (Same.trans s04 s5) s6 gt, by rw [h6, List.reverse_append, List.reverse_reverse], Paired.app (Paired.rev (Paired.imp (fun _ _ r => r.kp k6) pa)) (Paired.imp (fun _ _ r => r.kp (KpS.trans k4 (KpS.trans (KpS.same s5) k6))) hS'), ?_, ?_, ?_, by omega, rfl⟩
          · intro e' he'
            rcases List.mem_append.mp he' with he' | he'
            · have := roots_lv _ _ (List.mem_reverse.mp he')
              omega
            · exact hlv e' (List.mem_cons_of_mem _ he')
          · split <;> omega
          · have hr := mxE_roots hl0 e.2.2
            have hm2 : max t (max (e.1 + (e.2.2.dep : Int)) (mxE es')) = 1 + (k.dep : Int) := hmx
            rw [mxE_ap, mxE_rev]
            split <;> omega
    · rintro σ' H' ⟨o3, o4, o5, rfl, s'⟩
      walk_at "rd"
      exact kk H' s'
end
end Z
namespace Z
open PySem PySem.Spec L2 ItX
local macro_rules | `(tactic| walk_at "ne") => `(tactic| first
  | with_reducible assumption
  | with_reducible exact Ne.symm (by assumption)
  | exact Frs.ne (by with_reducible assumption) (by walk_at "hp")
  | exact Frs.ne' (by with_reducible assumption) (by walk_at "hp"))
local macro_rules | `(tactic| walk_at "hp") => `(tactic| first
  | with_reducible assumption
  | (with_reducible refine Same.at (by assumption) ?_; walk_at "hp")
  | (with_reducible refine SL.tup (by assumption) ?_; walk_at "hp")
  | (with_reducible refine SL.at (by assumption) (by walk_at "ne") ?_; walk_at "hp"))
local macro_rules | `(tactic| walk_at "sz") => `(tactic| first
  | with_reducible assumption
  | exact Nat.le_of_ble_eq_true rfl
  | (refine sz_le ?_; omega)
  | (refine sz_lt ?_; omega)
  | decide +kernel)
local macro_rules | `(tactic| walk_at "at") => `(tactic| first
  | with_reducible assumption
  | with_reducible exact at0
  | with_reducible exact at1
  | with_reducible exact at2
  | with_reducible exact ixN0)
local macro_rules | `(tactic| walk_at "nn") => `(tactic| first
  | omega
  | decide
  | exact ⟨by decide, by decide⟩
  | exact ⟨by omega, by omega⟩
  | exact ⟨by omega, by omega, by omega, by omega⟩)
local macro_rules | `(tactic| walk_at "rdv") => `(tactic| first
  | (with_reducible refine add_int ?_)
  | (with_reducible refine sub_int ?_)
  | (with_reducible refine neg_int ?_)
  | ((with_reducible refine ix_tpl (xs := ?xs) (v := ?v) ?h1 ?h2 ?_); (case h1 => walk_at "hp"); (case h2 => walk_at "at"))
  | ((with_reducible refine ix_lst (xs := ?xs) (v := ?v) ?h1 ?h2 ?_); (case h1 => walk_at "hp"); (case h2 => walk_at "at"))
  | (with_reducible refine eq_int ?_)
  | (with_reducible refine ne_int ?_)
  | (with_reducible refine lt_int ?_)
  | (with_reducible refine le_int ?_)
  | (with_reducible refine gt_int ?_)
  | (with_reducible refine ge_int ?_)
  | (with_reducible refine eq_str ?_)
  | (with_reducible refine ne_str ?_)
  | (with_reducible refine eq_bl ?_)
  | (with_reducible refine ne_bl ?_)
  | ((with_reducible refine mod_int ?hc ?_); (case hc => walk_at "nn"))
  | ((with_reducible refine div_int ?hc ?_); (case hc => walk_at "nn"))
  | ((with_reducible refine mul_intR ?hc ?_); (case hc => exact ⟨by decide, by decide⟩))
  | ((with_reducible refine mul_intR ?hc ?_); (case hc => exact ⟨by omega, by omega⟩))
  | ((with_reducible refine mul_intL ?hc ?_); (case hc => exact ⟨by omega, by omega⟩))
  | ((with_reducible refine pow_int ?hc ?_); (case hc => exact ⟨by decide, by decide, by decide⟩))
  | ((with_reducible refine add_str ?hc ?_); (case hc => walk_at "sz"))
  | ((with_reducible refine add_lst (xs := ?xs) (ys := ?ys) ?h1 ?h2 ?hc ?_); (case h1 => walk_at "hp"); (case h2 => walk_at "hp"); (case hc => walk_at "sz"))
  | ((with_reducible refine sl_strU ?hc ?_); (case hc => walk_at "sz"))
  | ((with_reducible refine sl_lst (xs := ?xs) ?h1 ?_); (case h1 => walk_at "hp"))
  | (with_reducible refine is_bl ?_)
  | (with_reducible refine isnt_bl ?_)
  | (with_reducible refine is_non ?_)
  | (with_reducible refine isnt_non ?_))
local macro_rules | `(tactic| walk_at "rdc") => `(tactic| first
  | ((with_reducible refine len_lst (xs := ?xs) ?h1 ?_); (case h1 => walk_at "hp"))
  | ((with_reducible refine len_tup (xs := ?xs) ?h1 ?_); (case h1 => walk_at "hp"))
  | ((with_reducible refine len_str ?hc ?_); (case hc => walk_at "sz"))
  | (with_reducible refine int_int ?_)
  | (with_reducible refine max_int ?_)
  | (with_reducible refine min_int ?_)
  | (with_reducible refine abs_int ?_)
  | (with_reducible refine isi_ii ?_)
  | (with_reducible refine isi_ib ?_)
  | (with_reducible refine isi_ss ?_)
  | (with_reducible refine isi_bb ?_)
  | ((with_reducible refine isi_tt (xs := ?xs) ?h1 ?_); (case h1 => walk_at "hp"))
  | ((with_reducible refine isi_ll (xs := ?xs) ?h1 ?_); (case h1 => walk_at "hp"))
  | ((with_reducible refine list_lst (xs := ?xs) ?h1 ?_); (case h1 => walk_at "hp"))
  | ((with_reducible refine list_tup (xs := ?xs) ?h1 ?_); (case h1 => walk_at "hp"))
  | ((with_reducible refine tuple_lst (xs := ?xs) ?h1 ?_); (case h1 => walk_at "hp"))
  | ((with_reducible refine tuple_tup (xs := ?xs) ?h1 ?_); (case h1 => walk_at "hp"))
  | ((with_reducible refine append_lst (xs := ?xs) ?h1 ?hc ?_); (case h1 => walk_at "hp"); (case hc => walk_at "sz"))
  | ((with_reducible refine clear_lst (xs := ?xs) ?h1 ?_); (case h1 => walk_at "hp"))
  | ((with_reducible refine set_lst (xs := ?xs) (k := ?k) ?h1 ?h2 ?_); (case h1 => walk_at "hp"); (case h2 => walk_at "at")))
local macro_rules | `(tactic| walk_at "rd1") => `(tactic| first
  | ((with_reducible refine rVar (v := ?v) ?h ?_); (case h => exact rfl))
  | (with_reducible refine rC ?_)
  | (with_reducible refine rCons ?_)
  | (with_reducible refine rNil ?_)
  | (with_reducible refine rOp ?_)
  | (with_reducible refine rSeq ?_)
  | (with_reducible refine rAsgN ?_)
  | (with_reducible refine rAsgT ?_)
  | (with_reducible refine rAsgS ?_)
  | (with_reducible refine rTest ?_)
  | (with_reducible refine rBl ?_)
  | (with_reducible refine rBl' ?_)
  | (with_reducible refine rInt ?_)
  | (with_reducible refine rInt' ?_)
  | (with_reducible refine rCall ?_)
  | (with_reducible refine rCB ?_)
  | (with_reducible refine rRet ?_)
  | (with_reducible refine rDrop ?_)
  | (with_reducible refine rIfS ?_)
  | (with_reducible refine rTup ?_)
  | (with_reducible refine rLst ?_)
  | (with_reducible refine ⟨Nat.le_of_ble_eq_true rfl, ?_⟩)
  | (with_reducible refine rSl ?_)
  | (with_reducible refine rPart ?_)
  | (with_reducible refine rNoPart ?_)
  | (with_reducible refine rBM ?_)
  | (with_reducible refine rBM0 ?_)
  | ((with_reducible refine tyL (xs := ?xs) ?h1 ?_); (case h1 => walk_at "hp"))
  | (with_reducible refine rM1 ?_)
  | (with_reducible refine rM0 ?_)
  | (with_reducible refine rStr ?_)
  | (with_reducible refine rTru ?_)
  | (with_reducible refine tru_bl ?_)
  | (with_reducible refine tru_int ?_)
  | ((with_reducible refine tru_lst (xs := ?xs) ?h1 ?_); (case h1 => walk_at "hp"))
  | ((with_reducible refine tru_tup (xs := ?xs) ?h1 ?_); (case h1 => walk_at "hp"))
  | ((with_reducible refine tru_str ?hc ?_); (case hc => walk_at "sz"))
  | (with_reducible refine rAnd ?_)
  | (with_reducible refine rOr ?_)
  | (with_reducible refine rNot ?_)
  | (with_reducible refine rAndV ?_)
  | (with_reducible refine rOrV ?_)
  | (with_reducible refine rNotV ?_)
  | (with_reducible refine rIfE ?_)
  | (with_reducible refine rChain ?_)
  | (with_reducible refine rChain3 ?_)
  | (with_reducible refine ifT ?_)
  | (with_reducible refine ifF ?_)
  | (with_reducible refine ifNF ?_)
  | (with_reducible refine ifNT ?_)
  | (with_reducible refine rNext ?_)
  | (with_reducible refine rBrk ?_)
  | (with_reducible refine rCnt ?_)
  | (with_reducible refine rRetN ?_)
  | (with_reducible refine rForR1 ?_)
  | (with_reducible refine rForR2 ?_)
  | (with_reducible refine rForL ?_)
  | ((with_reducible refine rRg1 ?hb ?_); (case hb => walk_at "nn"))
  | ((with_reducible refine rRg2 ?hb ?_); (case hb => walk_at "nn"))
  | ((with_reducible refine rRf (xs := ?xs) ?h1 ?_); (case h1 => walk_at "hp"))
  | (with_reducible refine rLcR1 ?_)
  | (with_reducible refine rLcR2 ?_)
  | (with_reducible refine rLcL ?_)
  | (with_reducible refine gN ?_)
  | (with_reducible refine gNl ?_)
  | (with_reducible refine gC ?_)
  | ((with_reducible refine gT (xs := ?xs) ?h1 ?h2 ?_); (case h1 => walk_at "hp"); (case h2 => exact rfl))
  | (with_reducible refine rUn ?_)
  | walk_at "rdv"
  | walk_at "rdc")
local macro_rules | `(tactic| walk_at "rd") => `(tactic| repeat walk_at "rd1")

local macro_rules | `(tactic| walk_at "rd1") => `(tactic| first
  | (with_reducible refine rCallS ?_)
  | (with_reducible refine rRaise ?_)
  | (with_reducible refine rXf ?_)
  | (with_reducible refine rXi ?_)
  | (with_reducible refine rOst ?_)
  | (with_reducible refine rRevL ?_)
  | ((with_reducible refine revL_end (xs := ?xs) ?h1 ?_); (case h1 => walk_at "hp")))

local macro_rules | `(tactic| walk_at "rd1") => `(tactic| first
  | (with_reducible refine rForR3 ?_)
  | ((with_reducible refine rRgD ?hb ?_); (case hb => walk_at "nn"))
  | (with_reducible refine gS ?_))

local macro_rules | `(tactic| walk_at "rd1") => `(tactic| first
  | (with_reducible refine rFld ?_)
  | (with_reducible refine rSFld ?_)
  | (with_reducible refine rMake ?_)
  | (with_reducible refine rMeth ?_)
  | (with_reducible refine rForT ?_)
  | (with_reducible refine rLcT ?_)
  | (with_reducible refine rLcO ?_)
  | (with_reducible refine rForO ?_)
  | (with_reducible refine rLstY ?_)
  | ((with_reducible refine rRt (xs := ?xs) ?h1 ?_); (case h1 => walk_at "hp"))
  | ((with_reducible refine listY_lst (xs := ?xs) ?h1 ?_); (case h1 => walk_at "hp"))
  | ((with_reducible refine listY_tup (xs := ?xs) ?h1 ?_); (case h1 => walk_at "hp")))

local macro_rules | `(tactic| walk_at "hp") => `(tactic| first
  | (with_reducible refine SL.ins (by assumption) ?_; walk_at "hp"))
local macro_rules | `(tactic| walk_at "at") => `(tactic| first
  | with_reducible exact at3
  | with_reducible exact at4
  | with_reducible exact at5
  | with_reducible exact at6
  | with_reducible exact at7
  | with_reducible exact at8)
local macro_rules | `(tactic| walk_at "rd1") => `(tactic| first
  | (with_reducible refine rMkWK ?_)
  | (with_reducible refine rForS ?_)
  | (with_reducible refine rDGet ?_)
  | (with_reducible refine rDPut ?_)
  | (with_reducible refine rIts ?_)
  | (with_reducible refine rLstRg ?_)
  | ((with_reducible refine reverse_lst (xs := ?xs) ?h1 ?_); (case h1 => walk_at "hp"))
  | ((with_reducible refine extend_lst (xs := ?xs) (ys := ?ys) ?h1 ?h2 ?hc ?_); (case h1 => walk_at "hp"); (case h2 => walk_at "hp"); (case hc => walk_at "sz"))
  | ((with_reducible refine fN_kind (mg := ?mg) (C := ?C) (dx := ?dx) (d := ?d) (ns := ?ns) ?hu ?hp ?_); (case hu => with_reducible assumption); (case hp => walk_at "hp"))
  | ((with_reducible refine fN_symbol (mg := ?mg) (C := ?C) (dx := ?dx) (d := ?d) (ns := ?ns) ?hu ?hp ?_); (case hu => with_reducible assumption); (case hp => walk_at "hp"))
  | ((with_reducible refine fN_state (mg := ?mg) (C := ?C) (dx := ?dx) (d := ?d) (ns := ?ns) ?hu ?hp ?_); (case hu => with_reducible assumption); (case hp => walk_at "hp"))
  | ((with_reducible refine fN_lead (mg := ?mg) (C := ?C) (dx := ?dx) (d := ?d) (ns := ?ns) ?hu ?hp ?_); (case hu => with_reducible assumption); (case hp => walk_at "hp"))
  | ((with_reducible refine fN_width (mg := ?mg) (C := ?C) (dx := ?dx) (d := ?d) (ns := ?ns) ?hu ?hp ?_); (case hu => with_reducible assumption); (case hp => walk_at "hp"))
  | ((with_reducible refine fN_look (mg := ?mg) (C := ?C) (dx := ?dx) (d := ?d) (ns := ?ns) ?hu ?hp ?_); (case hu => with_reducible assumption); (case hp => walk_at "hp"))
  | ((with_reducible refine fN_alternative (mg := ?mg) (C := ?C) (dx := ?dx) (d := ?d) (ns := ?ns) ?hu ?hp ?_); (case hu => with_reducible assumption); (case hp => walk_at "hp"))
  | ((with_reducible refine fN_nodes (mg := ?mg) (C := ?C) (dx := ?dx) (d := ?d) (ns := ?ns) ?hu ?hp ?_); (case hu => with_reducible assumption); (case hp => walk_at "hp"))
  | ((with_reducible refine fN_popped (mg := ?mg) (C := ?C) (dx := ?dx) (d := ?d) (ns := ?ns) ?hu ?hp ?_); (case hu => with_reducible assumption); (case hp => walk_at "hp")))

local macro_rules | `(tactic| walk_at "hp") => `(tactic| first
  | (with_reducible refine SL.dT (by assumption) ?_; walk_at "hp"))
local macro_rules | `(tactic| walk_at "rd1") => `(tactic| first
  | (with_reducible refine rB ?_)
  | (with_reducible refine rLZip ?_)
  | (with_reducible refine rDNotIn ?_)
  | ((with_reducible refine max_lst (ns := ?ns) (m := ?m) ?h1 ?h2 ?h3 ?_); (case h1 => with_reducible assumption); (case h2 => with_reducible assumption); (case h3 => with_reducible assumption)))

/-! ## a tree whose equal parts are one -/
theorem NodesAt.gen {K : PySem.W.Frag} {C : Addr} {H H' : Hp} (h1 : ∀ p C dx fs, H p = some (.ins C dx fs) → H' p = some (.ins C dx fs)) (h2 : ∀ q us, SqT K H q us → SqT K H' q us) : ∀ {f : Fo} {vs : List V}, NodesAt K C H vs f → NodesAt K C H' vs f
  | .nil, _, h => h
  | .cons _ _ _, _, h => let ⟨p, dx, q, us, t, e, a1, a2, a3, a4⟩ := h; ⟨p, dx, q, us, t, e, h1 _ _ _ _ a1, h2 _ _ a2, NodesAt.gen h1 h2 a3, NodesAt.gen h1 h2 a4⟩
theorem NodeAt.putT {K : PySem.W.Frag} {C kn : Addr} {H : Hp} {kvs kvs' : List (List L2.Key × V)} {v : V} {d : Dt} {k : Fo} (hk : H kn = some (.dT kvs)) (h : NodeAt K C H v d k) : NodeAt K C (upd H kn (.dT kvs')) v d k := by
  obtain ⟨p, dx, q, us, e, a1, a2, a3⟩ := h
  have h1 : ∀ p C dx fs, H p = some (.ins C dx fs) → upd H kn (.dT kvs') p = some (.ins C dx fs) := fun p C dx fs e => by
    rw [upd_ne (ne_of e hk (fun q => nomatch q))]
    exact e
  have h2 : ∀ q us, SqT K H q us → SqT K (upd H kn (.dT kvs')) q us := fun q us h => by
    rcases h with (h | ⟨o, h⟩) | h
    · exact .inl (.inl (by rw [upd_ne (ne_of h hk (fun q => nomatch q))]; exact h))
    · exact .inl (.inr ⟨o, by rw [upd_ne (ne_of h hk (fun q => nomatch q))]; exact h⟩)
    · exact .inr h
  exact ⟨p, dx, q, us, e, h1 _ _ _ _ a1, h2 _ _ a2, NodesAt.gen h1 h2 a3⟩
def intsN (l : List Nat) : List V := l.map fun (x : Nat) => V.int (x : Int)
def kyOf (d : Dt) (ns : List Nat) : List L2.Key := [.inr d.k, .inr d.s, .inl d.st, .inl d.ld, .inl d.wd, .inl d.lk, .inl d.al, .inl d.pp] ++ ns.map fun (n : Nat) => Sum.inl (n : Int)
theorem kyOf_kV (d : Dt) (ns : List Nat) : (kyOf d ns).map kV = [V.str d.k, V.str d.s, V.int d.st, V.int d.ld, V.int d.wd, V.int d.lk, V.int d.al, V.int d.pp] ++ intsN ns := by
  unfold kyOf intsN
  rw [List.map_append, List.map_map]
  rfl
theorem map_inj {α β : Type} {f : α → β} (hf : ∀ a b, f a = f b → a = b) : ∀ {xs ys : List α}, xs.map f = ys.map f → xs = ys
  | [], [], _ => rfl
  | [], _ :: _, h => by cases h
  | _ :: _, [], h => by cases h
  | x :: xs, y :: ys, h => by
    injection h with h1 h2
    rw [hf _ _ h1, map_inj hf h2]
theorem kyOf_inj {d d' : Dt} {ns ns' : List Nat} (h : kyOf d ns = kyOf d' ns') : d = d' ∧ ns = ns' := by
  unfold kyOf at h
  simp only [List.cons_append, List.nil_append, List.cons.injEq, Sum.inr.injEq, Sum.inl.injEq] at h
  obtain ⟨h1, h2, h3, h4, h5, h6, h7, h8, h9⟩ := h
  obtain ⟨a, b, c, e, f, g, i, j⟩ := d
  obtain ⟨a', b', c', e', f', g', i', j'⟩ := d'
  simp only at h1 h2 h3 h4 h5 h6 h7 h8
  refine ⟨by rw [h1, h2, h3, h4, h5, h6, h7, h8], map_inj (fun a b q => ?_) h9⟩
  have := Sum.inl.inj q
  omega
abbrev Tls := List (Dt × Fo)
def gtl (Tl : Tls) (n : Nat) : Rt := (0, (Tl[n]?).getD (⟨"", "", 0, 0, 0, 0, 0, 0⟩, .nil))
def foL (Tl : Tls) (ns : List Nat) : Fo := toFo (ns.map (gtl Tl))
theorem foL_app {Tl : Tls} {e : Dt × Fo} {ns : List Nat} (h : ∀ m ∈ ns, m < Tl.length) : foL (Tl ++ [e]) ns = foL Tl ns := by
  unfold foL
  congr 1
  refine List.map_congr_left fun n hn => ?_
  unfold gtl
  rw [List.getElem?_append_left (h n hn)]
/-- numbers of trees beside these trees -/
abbrev NsAt (Tl : Tls) : List Nat → List Rt → Prop := Paired (fun n (e : Rt) => Tl[n]? = some (e.2.1, e.2.2))
theorem foL_of {Tl : Tls} : ∀ {ns : List Nat} {B : List Rt}, NsAt Tl ns B → foL Tl ns = toFo B
  | _, _, .nil => rfl
  | _, _, .cons r t => by
    have := foL_of t
    unfold foL at this ⊢
    show Fo.cons _ _ (toFo _) = Fo.cons _ _ (toFo _)
    unfold gtl
    rw [r]
    show Fo.cons _ _ (toFo (List.map (gtl Tl) _)) = _
    rw [this]
    rfl
theorem NsAt.lt {Tl : Tls} : ∀ {ns : List Nat} {B : List Rt}, NsAt Tl ns B → ∀ m ∈ ns, m < Tl.length
  | _, _, .nil, m, h => nomatch h
  | _, _, .cons r t, m, h => by
    rcases List.mem_cons.mp h with rfl | h
    · exact (List.getElem?_eq_some_iff.mp r).1
    · exact NsAt.lt t m h
theorem get_app {α : Type} {Tl : List α} {e y : α} {n : Nat} (h : Tl[n]? = some y) : (Tl ++ [e])[n]? = some y := by
  rw [List.getElem?_append_left (List.getElem?_eq_some_iff.mp h).1]
  exact h
/-- what the dict knows -/
def Knw (kvs : List (List L2.Key × V)) (Tl : Tls) : Prop := ∀ key v, valV kvs key = some v → ∃ d ns n, key = kyOf d ns ∧ v = .int (n : Nat) ∧ Tl[n]? = some (d, foL Tl ns) ∧ ∀ m ∈ ns, m < Tl.length
theorem Knw.put {kvs : List (List L2.Key × V)} {Tl : Tls} {d : Dt} {ns : List Nat} (h : Knw kvs Tl) (hn : ∀ m ∈ ns, m < Tl.length) : Knw (putK kvs (kyOf d ns) (.int (Tl.length : Nat))) (Tl ++ [(d, foL Tl ns)]) := by
  intro key v hv
  rw [valV_put] at hv
  by_cases c : key = kyOf d ns
  · rw [if_pos c] at hv
    cases hv
    refine ⟨d, ns, Tl.length, c, rfl, ?_, fun m hm => by have := hn m hm; rw [List.length_append]; omega⟩
    rw [List.getElem?_append_right (Nat.le_refl _), Nat.sub_self, foL_app hn]
    rfl
  · rw [if_neg c] at hv
    obtain ⟨d', ns', n, e1, e2, e3, e4⟩ := h key v hv
    exact ⟨d', ns', n, e1, e2, by rw [foL_app e4]; exact get_app e3, fun m hm => by have := e4 m hm; rw [List.length_append]; omega⟩
def WtAt (Tl : Tls) (H : Hp) (v : V) (e : Rt) : Prop := ∃ (t : Addr) (n : Nat), v = .ref t ∧ H t = some (.tup [.int e.1, .int n]) ∧ Tl[n]? = some (e.2.1, e.2.2)
theorem stk_len : ∀ xs : List Rw, (stk xs).length ≤ xs.length
  | [] => Nat.le_refl _
  | x :: xs => by
    have h1 := stk_len xs
    have h2 : ((stk xs).dropWhile fun e => decide (e.1 = x.lv + 1)).length ≤ (stk xs).length := (List.dropWhile_sublist _).length_le
    show _ + 1 ≤ xs.length + 1
    omega
theorem nodes_ns {K : PySem.W.Frag} {C : Addr} {H : Hp} {bs : List V} {Tl : Tls} (hB : Paired (fun v (e : Dt × Fo) => NodeAt K C H v e.1 e.2) bs Tl) : ∀ {ns : List Nat} {B : List Rt}, NsAt Tl ns B → NodesAt K C H (ns.map fun n => (bs[n]?).getD .non) (toFo B)
  | _, _, .nil => rfl
  | _, _, .cons r t => by
    have ih := nodes_ns hB t
    obtain ⟨v, hv, hn⟩ := Paired.at' hB r
    rw [List.map_cons, hv]
    exact NodesAt.cons hn ih
def sp_law_shared (K : PySem.W.Frag) (C : Addr) : Sp := fun vs H Q _ => ∃ (p : Addr) (d : Dt) (k : Fo), vs = [.ref p] ∧ RowsIn H p (treeR d k) ∧ k.cnt ≤ 1000000 ∧ ∀ (v : V) (H' : Hp), Same H H' → NodeAt K C H' v d k → Q v H'
theorem use_shared {K : PySem.W.Frag} {C p : Addr} {d : Dt} {k : Fo} {H : Hp} {Q : VK} {E : XK} (hp : RowsIn H p (treeR d k)) (hl : k.cnt ≤ 1000000) (h : ∀ (v : V) (H' : Hp), Same H H' → NodeAt K C H' v d k → Q v H') : sp_law_shared K C [.ref p] H Q E := ⟨p, d, k, rfl, hp, hl, h⟩
section
variable {P : Program} {w : World} {K : PySem.W.Frag} {mg : Str → Option Value} {base : Heap} {aNode aNil : Addr}
theorem cal_law_shared {f : Addr} {fd : FuncData} (T : Txt mg) (FD : C8.Def K mg "_law_shared" s_law_shared f fd) (b : Binds K fd ["rows"] [])
    (c_Node_init7 : MakK P w K mg base 1 "Node" aNode 2 ["state", "lead", "width", "look", "alternative", "nodes", "popped"] (sp_Node_init K aNode) (gKW [])) : C8.Cal P w K mg base 3 "_law_shared" (sp_law_shared K aNode) [] := by
  refine C8.cal0 FD b .nil sc_law_shared (fun vs H Q E h => ?_) (fun cdv A outer s H vs Q E hr h => ?_)
  · obtain ⟨p, d, k, rfl, _⟩ := h; rfl
  · obtain ⟨p, d, k, rfl, ⟨vs, hp, hrw⟩, hl, kk⟩ := h
    refine ⟨_, (pss_cons (ps_set (i := 1) sc_law_shared.nd rfl (.inl rfl) pe_dnewT)
  (pss_cons (ps_set (i := 2) sc_law_shared.nd rfl (.inr rfl) (pe_lst pa_nil))
  (pss_cons (ps_set (i := 3) sc_law_shared.nd rfl (.inl rfl) (pe_lst pa_nil))
  (pss_cons (ps_for PassesOwn.never rfl (pi_range3 rfl T.n_range (pa_cons (pe_op op_subU (pe_callB (call_lenK K) (by rfl) T.n_len PySem.boot_len (pa_cons (pv 0) pa_nil)) pe_int) (pa_cons (pe_un un_neg pe_int) (pa_cons (pe_un un_neg pe_int) pa_nil)))) (pg_name (i := 4) sc_law_shared.nd rfl (.inl rfl)) (pss_cons (ps_set (i := 5) sc_law_shared.nd rfl (.inl rfl) (pe_ix (ix_K K) (pv 0) (pv 4) (fun _ _ => rfl)))
  (pss_cons (ps_set (i := 6) sc_law_shared.nd rfl (.inl rfl) (pe_lst pa_nil))
  (pss_cons (ps_while PassesOwn.never (PW.pt (pw_and (pt_truK K (pv 3) (by intro _; rfl)) (pw_and1 (pt_cmpR (op_eqK K (hu64 hr)) (pe_ix (ix_K K) (pe_ix (ix_K K) (pv 3) (pe_op op_subU (pe_callB (call_lenK K) (by rfl) T.n_len PySem.boot_len (pa_cons (pv 3) pa_nil)) pe_int) (fun _ _ => rfl)) pe_int (fun _ _ => rfl)) (pe_op (op_addK K) (pe_ix (ix_K K) (pv 5) pe_int (fun _ _ => rfl)) pe_int) (nomark _))))) (pss_one (ps_expr (pe_bm F.plainAttrs_list F.slot_list_append F.type_list_append mt_append (pv 6) (pa_cons (pe_ix (ix_K K) (pe_bm0 F.plainAttrs_list F.slot_list_pop F.type_list_pop mt_pop (pv 3)) pe_int (fun _ _ => rfl)) pa_nil)))))
  (pss_cons (ps_set (i := 7) sc_law_shared.nd rfl (.inl rfl) (pe_op (op_addK K) (pe_slice (sl_K K) (pv 5) (po_some pe_int) po_none) (pe_callTy (call_tupleK K) (by rfl) T.n_tuple (by decide +kernel) (pa_cons (pv 6) pa_nil))))
  (C8.pss_cut (ps_if (pt_cmp (pc_dnotin (hu1 hr) (pv 7) (pv 1)) rfl) (pss_cons (ps_dput (hu1 hr) (pv 1) (pv 7) (pe_callB (call_lenK K) (by rfl) T.n_len PySem.boot_len (pa_cons (pv 2) pa_nil)) rfl)
  (pss_cons (ps_set (i := 8) sc_law_shared.nd rfl (.inl rfl) (pe_callTy (call_tupleK K) (by rfl) T.n_tuple (by decide +kernel) (pa_cons (pe_lc (own := [("number", 9)]) rfl sc_law_shared.nd (pi_listK K (pv 6)) (blkOk_by (own := [("number", 9)]) (N := ["rows", "known", "built", "waiting", "k", "row", "below", "key", "parts", "number"]) (sc := C8.fnScope s_law_shared) (by decide +kernel)) (fun _ _ _ _ _ => (pg_name (i := 9) sc_law_shared.nd rfl (.inl rfl))) (fun _ _ _ _ _ => pts_nil) (fun _ _ _ _ _ => (pe_ix (ix_K K) (pv 2) (pv 9) (fun _ _ => rfl)))) pa_nil)))
  (pss_one (ps_expr (pe_bm F.plainAttrs_list F.slot_list_append F.type_list_append mt_append (pv 2) (pa_cons (pe_mkIK (W := W_Node7 K aNode) c_Node_init7 hr (by decide) (by rfl) (pa_cons (pe_ix (ix_K K) (pv 5) pe_int (fun _ _ => rfl)) (pa_cons (pe_ix (ix_K K) (pv 5) pe_int (fun _ _ => rfl)) pa_nil)) (pk_cons (pe_ix (ix_K K) (pv 5) pe_int (fun _ _ => rfl)) (pk_cons (pe_ix (ix_K K) (pv 5) pe_int (fun _ _ => rfl)) (pk_cons (pe_ix (ix_K K) (pv 5) pe_int (fun _ _ => rfl)) (pk_cons (pe_ix (ix_K K) (pv 5) pe_int (fun _ _ => rfl)) (pk_cons (pe_ix (ix_K K) (pv 5) pe_int (fun _ _ => rfl)) (pk_cons (pv 8) (pk_cons (pe_ix (ix_K K) (pv 5) pe_int (fun _ _ => rfl)) pk_nil))))))) mk_Node7) pa_nil)))))) pss_nil)
  (pss_one (ps_expr (pe_bm F.plainAttrs_list F.slot_list_append F.type_list_append mt_append (pv 3) (pa_cons (pe_tup (pa_cons (pe_ix (ix_K K) (pv 5) pe_int (fun _ _ => rfl)) (pa_cons (pe_dget (hu1 hr) (pv 1) (pv 7) (fun _ _ => rfl)) pa_nil))) pa_nil))))))))))
  (pss_one (ps_ret (pe_ix (ix_K K) (pv 2) (pe_ix (ix_K K) (pe_ix (ix_K K) (pv 3) pe_int (fun _ _ => rfl)) pe_int (fun _ _ => rfl)) (fun _ _ => rfl)))))))), ?_⟩
    show (_ : TS) _ [some (.ref p), none, none, none, none, none, none, none, none, none] H
    have hvl := Paired.len hrw
    have hN := treeR_len d k
    generalize hrows : treeR d k = rows at hrw hvl hN
    walk_at "rd"
    refine rDNewT fun kn H1 g1 s1 h1 => ?_
    walk_at "rd"
    refine newO_gen fun bl H2 g2 s2 h2 => ?_
    walk_at "rd"
    refine newO_gen fun wt H3 g3 s3 h3 => ?_
    have s03 : Same H H3 := Same.trans (Same.trans s1 s2) s3
    have gb : Frs H bl := Same.fre s1 g2
    have gw : Frs H wt := Same.fre (Same.trans s1 s2) g3
    have h2k := s2 _ _ h1
    have hkb : kn ≠ bl := g2.ne h1
    have hkw : kn ≠ wt := g3.ne h2k
    have hbw : bl ≠ wt := g3.ne h2
    walk_at "rd"
    rw [show ((vs.length : Int) - 1 - -1).toNat = rows.length by omega]
    refine loopC_by (fun i σ' H' => ∃ (kvs : List (List L2.Key × V)) (bs W : List V) (Tl : Tls) (o4 o5 o6 o7 o8 : Option V), σ' = [some (.ref p), some (.ref kn), some (.ref bl), some (.ref wt), o4, o5, o6, o7, o8, none] ∧ Same H H' ∧ H' kn = some (.dT kvs) ∧ kvs.length ≤ i ∧ Knw kvs Tl ∧ H' bl = some (.lst bs) ∧ bs.length ≤ i ∧
      Paired (fun v e => NodeAt K aNode H' v e.1 e.2) bs Tl ∧ H' wt = some (.lst W.reverse) ∧ Paired (WtAt Tl H') W (stk (rows.drop (rows.length - i)))) ?_ ?_ ?_
    · refine ⟨[], [], [], [], none, none, none, none, none, rfl, s03, s3 _ _ h2k, Nat.le_refl _, (fun key v h => nomatch h), s3 _ _ h2, Nat.le_refl _, .nil, h3, ?_⟩
      rw [Nat.sub_zero, List.drop_eq_nil_of_le (Nat.le_refl _)]
      exact .nil
    · rintro i σ' H4 hi ⟨kvs, bs, W, Tl, o4, o5, o6, o7, o8, rfl, s4, h4k, hkl, hkn, h4b, hbl, hB4, h4w, hW⟩
      obtain ⟨j, hj⟩ : ∃ j, rows.length - i = j + 1 := ⟨rows.length - i - 1, by omega⟩
      rw [hj] at hW
      have hj0 : rows.length - (i + 1) = j := by omega
      rw [hj0]
      have hji : (vs.length : Int) - 1 + (i : Int) * -1 = (j : Int) := by omega
      have hjl : j < rows.length := by omega
      obtain ⟨x, hx⟩ : ∃ x, rows[j]? = some x := ⟨_, List.getElem?_eq_getElem hjl⟩
      obtain ⟨va, hva, pa, rfl, hpa⟩ := Paired.at' hrw hx
      have hatj : atI vs (j : Int) = some (.ref pa) := atI_nat hva
      replace hpa : H pa = some (.tup [.int x.lv, .str x.d.k, .str x.d.s, .int x.d.st, .int x.d.ld, .int x.d.wd, .int x.d.lk, .int x.d.al, .int x.d.pp]) := hpa
      rw [hji]
      have hp4 : H4 p = some (.lst vs) := s4 _ _ hp
      walk_at "rd"
      refine newO_gen fun bw H5 g5 s5 h5 => ?_
      have gbw : Frs H bw := Same.fre s4 g5
      have hkbw : kn ≠ bw := g5.ne h4k
      have hbbw : bl ≠ bw := g5.ne h4b
      have hwbw : wt ≠ bw := g5.ne h4w
      have h5k := s5 _ _ h4k
      have h5b := s5 _ _ h4b
      have h5w := s5 _ _ h4w
      have hSl : (stk (rows.drop (j + 1))).length ≤ 1000001 := by
        have := stk_len (rows.drop (j + 1))
        rw [List.length_drop] at this
        omega
      have hst := stk_at hx
      generalize hS : stk (rows.drop (j + 1)) = S at hW hSl hst
      have hW5 : Paired (WtAt Tl H5) W S := Paired.imp (fun _ _ ⟨t, n, a1, a2, a3⟩ => ⟨t, n, a1, s5 _ _ a2, a3⟩) hW
      walk_at "rd"
      refine whileC (fun m σ' H' => ∃ (B R : List Rt) (ns : List Nat) (WR : List V), S = B ++ R ∧ (∀ e ∈ B, e.1 = x.lv + 1) ∧ m = R.length ∧ σ' = [some (.ref p), some (.ref kn), some (.ref bl), some (.ref wt), some (.int j), some (.ref pa), some (.ref bw), o7, o8, none] ∧ Same H H' ∧ KpS H5 H' ∧
          H' bl = some (.lst bs) ∧ H' wt = some (.lst WR.reverse) ∧ Paired (WtAt Tl H') WR R ∧ H' bw = some (.lst (intsN ns)) ∧ NsAt Tl ns B)
        (fun σ' H' => ∃ (B R : List Rt) (ns : List Nat) (WR : List V), σ' = [some (.ref p), some (.ref kn), some (.ref bl), some (.ref wt), some (.int j), some (.ref pa), some (.ref bw), o7, o8, none] ∧ Same H H' ∧ KpS H5 H' ∧ H' bl = some (.lst bs) ∧ H' wt = some (.lst WR.reverse) ∧ Paired (WtAt Tl H') WR R ∧
          H' bw = some (.lst (intsN ns)) ∧ NsAt Tl ns B ∧ B.length + R.length ≤ 1000001 ∧ stk (rows.drop j) = (x.lv, x.d, toFo B) :: R) (m := S.length) ⟨[], S, [], W, rfl, (fun _ h => nomatch h), rfl, rfl, Same.trans s4 s5, KpS.same (Same.refl _), h5b, h5w, hW5, h5, .nil⟩ ?_ ?_
      · rintro nx' hnx m σ' H6 ⟨B, R, ns, WR, hBR, hB, rfl, rfl, s6, k6, h6b, h6w, hWR, h6bw, hns⟩
        have hp6 : H6 p = some (.lst vs) := s6 _ _ hp
        have hpa6 := s6 _ _ hpa
        have hBl : B.length + R.length = S.length := by rw [hBR, List.length_append]
        have hnl := Paired.len hns
        have hWl := Paired.len hWR
        have fin : (∀ e, R.head? = some e → ¬ e.1 = x.lv + 1) → nx' [some (.ref p), some (.ref kn), some (.ref bl), some (.ref wt), some (.int j), some (.ref pa), some (.ref bw), o7, o8, none] H6 := fun hh => by
          obtain ⟨t1, t2⟩ := tw_of (p := fun e : Rt => decide (e.1 = x.lv + 1)) (B := B) (R := R) (fun e he => decide_eq_true (hB e he)) (fun e he => decide_eq_false (hh e he))
          rw [← hBR] at t1 t2
          rw [t1, t2] at hst
          exact hnx _ _ ⟨B, R, ns, WR, rfl, s6, k6, h6b, h6w, hWR, h6bw, hns, by omega, hst⟩
        cases hWR with
        | nil =>
          replace h6w : H6 wt = some (.lst []) := h6w
          walk_at "rd"
          rw [show (!(([] : List V)).isEmpty) = false from rfl]
          walk_at "rd"
          exact fin fun e h => nomatch h
        | @cons v e WR' R' hv hWR' =>
          obtain ⟨t, n, rfl, ht, htn⟩ := hv
          rw [List.reverse_cons] at h6w
          have hlen : (WR'.reverse ++ [V.ref t]).length = WR'.length + 1 := by rw [List.length_append, List.length_reverse]; rfl
          have hlast : (WR'.reverse ++ [V.ref t])[(WR'.reverse ++ [V.ref t]).length - 1]? = some (V.ref t) := by
            rw [hlen, List.getElem?_append_right (by rw [List.length_reverse]; omega), List.length_reverse, show WR'.length + 1 - 1 - WR'.length = 0 by omega]
            rfl
          have hatw : atI (WR'.reverse ++ [V.ref t]) (((WR'.reverse ++ [V.ref t]).length : Int) - 1) = some (V.ref t) := at_of (j := (WR'.reverse ++ [V.ref t]).length - 1) (by omega) hlast
          walk_at "rd"
          rw [show (!(WR'.reverse ++ [V.ref t]).isEmpty) = true by simp]
          walk_at "rd"
          refine ifD (fun hc => ?_) (fun hc => ?_)
          · refine wGo ?_
            walk_at "rd"
            refine pop_lst h6w hlast ?_
            refine putO_gen h6w fun H7 s7 h7w => ?_
            rw [List.dropLast_concat] at h7w
            have h7b := s7.at hbw h6b
            have h7bw := s7.at hwbw.symm h6bw
            have ht7 := s7.tup ht
            have hil : (intsN ns).length = ns.length := List.length_map ..
            have hcl : (e :: R').length = R'.length + 1 := rfl
            walk_at "rd"
            refine putO_gen h7bw fun H8 s8 h8bw => ?_
            have T8 : TpS H6 H8 := (TpS.sl s7).trans (TpS.sl s8)
            refine ⟨R'.length, by omega, B ++ [e], R', ns ++ [n], WR', by rw [hBR]; simp, fun e' he' => ?_, rfl, rfl, SL.same (SL.same s6 s7 gw) s8 gbw, KpS.trans (KpS.trans k6 (KpS.sl s7)) (KpS.sl s8), s8.at hbbw h7b, s8.at hwbw h7w, Paired.imp (fun _ _ ⟨t, n, a1, a2, a3⟩ => ⟨t, n, a1, T8 _ _ a2, a3⟩) hWR', ?_, Paired.snoc hns htn⟩
            · rcases List.mem_append.mp he' with h | h
              · exact hB e' h
              · rw [List.mem_singleton.mp h]; exact hc
            · rw [h8bw]
              unfold intsN
              rw [List.map_append]
              rfl
          · walk_at "rd"
            exact fin fun e' h => by cases h; exact hc
      · rintro σ' H6 ⟨B, R, ns, WR, rfl, s6, k6, h6b, h6w, hWR, h6bw, hns, hBRl, hst2⟩
        rw [hst2]
        have hpa6 := s6 _ _ hpa
        have h6k : H6 kn = some (.dT kvs) := k6 _ _ h5k (fun _ z => nomatch z)
        have hnl := Paired.len hns
        have hil : (intsN ns).length = ns.length := List.length_map ..
        walk_at "rd"
        refine sl_tupc hpa6 (by rintro ⟨q, _⟩; revert q; show ¬ (min (1 : Int).toNat 9 = 0); decide) ?_
        refine newO_gen fun k1 H7 g7 s7 h7 => ?_
        rw [cutV_from (n := 1) (by rfl)] at h7
        have h7bw := s7 _ _ h6bw
        walk_at "rd"
        refine newO_gen fun k2 H8 g8 s8 h8 => ?_
        refine add_tupC (s8 _ _ h7) h8 (by simp) (sz_le (by simp only [List.length_drop, List.length_cons, List.length_nil]; omega)) fun ky H9 s9 h9 => ?_
        have s69 : Same H6 H9 := Same.trans (Same.trans s7 s8) s9
        replace h9 : H9 ky = some (.tup ((kyOf x.d ns).map kV)) := by rw [kyOf_kV]; exact h9
        have h9k := s69 _ _ h6k
        have h9b := s69 _ _ h6b
        have h9w := s69 _ _ h6w
        have h9bw := s69 _ _ h6bw
        have s09 : Same H H9 := Same.trans s6 s69
        have k9 : KpS H5 H9 := KpS.trans k6 (KpS.same s69)
        have hpa9 := s09 _ _ hpa
        have hB9 : Paired (fun v (e : Dt × Fo) => NodeAt K aNode H9 v e.1 e.2) bs Tl := Paired.imp (fun _ _ r => r.kp (KpS.trans (KpS.same s5) k9)) hB4
        have hW9 : Paired (WtAt Tl H9) WR R := Paired.imp (fun _ _ ⟨t, n, a1, a2, a3⟩ => ⟨t, n, a1, s69 _ _ a2, a3⟩) hWR
        have hbT := Paired.len hB9
        have hWl := Paired.len hW9
        have hfo := foL_of hns
        have hlt := NsAt.lt hns
        walk_at "rd"
        refine rCut (fun σ' H' => ∃ (kvs : List (List L2.Key × V)) (bs : List V) (Tl : Tls) (n : Nat) (o8 : Option V), σ' = [some (.ref p), some (.ref kn), some (.ref bl), some (.ref wt), some (.int j), some (.ref pa), some (.ref bw), some (.ref ky), o8, none] ∧ Same H H' ∧ H' kn = some (.dT kvs) ∧ kvs.length ≤ i + 1 ∧ Knw kvs Tl ∧
          H' bl = some (.lst bs) ∧ bs.length ≤ i + 1 ∧ Paired (fun v (e : Dt × Fo) => NodeAt K aNode H' v e.1 e.2) bs Tl ∧ H' wt = some (.lst WR.reverse) ∧ Paired (WtAt Tl H') WR R ∧ H' ky = some (.tup ((kyOf x.d ns).map kV)) ∧ valV kvs (kyOf x.d ns) = some (.int (n : Nat)) ∧ Tl[n]? = some (x.d, toFo B)) ?_ ?_
        · walk_at "rd"
          refine dnot_t h9k h9 ?_
          cases hval : valV kvs (kyOf x.d ns) with
          | some v =>
            simp only [Option.isSome_some, Bool.not_true]
            walk_at "rd"
            obtain ⟨d', ns', n, e1, rfl, e3, e4⟩ := hkn _ _ hval
            obtain ⟨rfl, rfl⟩ := kyOf_inj e1
            rw [hfo] at e3
            exact ⟨kvs, bs, Tl, n, _, rfl, s09, h9k, by omega, hkn, h9b, by omega, hB9, h9w, hW9, h9, hval, e3⟩
          | none =>
            simp only [Option.isSome_none, Bool.not_false]
            walk_at "rd"
            refine dput_t h9k h9 (sz_lt (by omega)) ?_
            have hln : kvs.length ≤ i := hkl
            have hK10 := hkn.put (d := x.d) hlt
            rw [hfo, ← hbT] at hK10
            have hky : ky ≠ kn := ne_of h9 h9k (fun q => nomatch q)
            have f1 : (upd H9 kn (.dT (putK kvs (kyOf x.d ns) (.int (bs.length : Nat))))) kn = some (.dT (putK kvs (kyOf x.d ns) (.int (bs.length : Nat)))) := upd_same
            have f2 : (upd H9 kn (.dT (putK kvs (kyOf x.d ns) (.int (bs.length : Nat))))) bl = some (.lst bs) := (upd_ne hkb.symm).trans h9b
            have f3 : (upd H9 kn (.dT (putK kvs (kyOf x.d ns) (.int (bs.length : Nat))))) wt = some (.lst WR.reverse) := (upd_ne hkw.symm).trans h9w
            have f4 : (upd H9 kn (.dT (putK kvs (kyOf x.d ns) (.int (bs.length : Nat))))) bw = some (.lst (intsN ns)) := (upd_ne hkbw.symm).trans h9bw
            have f5 : (upd H9 kn (.dT (putK kvs (kyOf x.d ns) (.int (bs.length : Nat))))) ky = some (.tup ((kyOf x.d ns).map kV)) := (upd_ne hky).trans h9
            have f6 : (upd H9 kn (.dT (putK kvs (kyOf x.d ns) (.int (bs.length : Nat))))) pa = some (.tup [.int x.lv, .str x.d.k, .str x.d.s, .int x.d.st, .int x.d.ld, .int x.d.wd, .int x.d.lk, .int x.d.al, .int x.d.pp]) := (upd_ne (ne_of hpa9 h9k (fun q => nomatch q))).trans hpa9
            have f7 : Same H (upd H9 kn (.dT (putK kvs (kyOf x.d ns) (.int (bs.length : Nat))))) := Same.upd_new s09 g1
            have f8 : Paired (fun v (e : Dt × Fo) => NodeAt K aNode (upd H9 kn (.dT (putK kvs (kyOf x.d ns) (.int (bs.length : Nat))))) v e.1 e.2) bs Tl := Paired.imp (fun _ _ r => r.putT h9k) hB9
            have f9 : Paired (WtAt Tl (upd H9 kn (.dT (putK kvs (kyOf x.d ns) (.int (bs.length : Nat)))))) WR R := Paired.imp (fun _ _ ⟨t, n, a1, a2, a3⟩ => ⟨t, n, a1, (upd_ne (ne_of a2 h9k (fun q => nomatch q))).trans a2, a3⟩) hW9
            generalize upd H9 kn (.dT (putK kvs (kyOf x.d ns) (.int (bs.length : Nat)))) = H10 at f1 f2 f3 f4 f5 f6 f7 f8 f9 ⊢
            walk_at "rd"
            refine compL_pure f4 (fun acc _ => acc = (ns.take acc.length).map fun n => (bs[n]?).getD .non) (fun _ _ => rfl) ?_ ?_
            · intro acc y H11 D c hy pa'
              unfold intsN at hy
              rw [List.getElem?_map] at hy
              obtain ⟨n, hn, rfl⟩ := Option.map_eq_some_iff.mp hy
              have hnT := hlt n (List.mem_of_getElem? hn)
              obtain ⟨vn, hvn⟩ : ∃ v, bs[n]? = some v := ⟨_, List.getElem?_eq_getElem (by omega)⟩
              have hatn : atI bs (n : Int) = some vn := atI_nat hvn
              have hb11 := c.since _ _ f2
              walk_at "rd"
              refine pD_of c (by omega) (Same.refl _) fun H12 s12 => ?_
              rw [List.length_append, show acc.length + [vn].length = acc.length + 1 from rfl, List.take_succ, hn, List.map_append, ← pa']
              show acc ++ [vn] = acc ++ [(bs[n]?).getD .non]
              rw [hvn]
              rfl
            · intro acc H11 D hal pa' s11 h11 fr11
              rw [hal, hil, List.take_length] at pa'
              have hpa11 := s11 _ _ f6
              have hbl11 := s11 _ _ f2
              walk_at "rd"
              refine newO_gen fun pt H12 g12 s12 h12 => ?_
              have hpa12 := s12 _ _ hpa11
              have hbl12 := s12 _ _ hbl11
              walk_at "rd"
              refine ⟨x.d, pt, acc, rfl, rfl, SqT.of h12, ?_⟩
              refine newI_gen fun pn dx H13 g13 s13 h13 => ?_
              have s1013 : Same H10 H13 := Same.trans (Same.trans s11 s12) s13
              have hbl13 := s1013 _ _ f2
              have hB13 : Paired (fun v (e : Dt × Fo) => NodeAt K aNode H13 v e.1 e.2) bs Tl := Paired.imp (fun _ _ r => r.kp (KpS.same s1013)) f8
              have hnew : NodeAt K aNode H13 (.ref pn) x.d (toFo B) := by
                refine ⟨pn, dx, pt, acc, rfl, h13, SqT.of (s13 _ _ h12), ?_⟩
                rw [pa']
                exact nodes_ns hB13 hns
              walk_at "rd"
              refine putO_gen hbl13 fun H14 s14 h14 => ?_
              have k14 : KpS H13 H14 := KpS.sl s14
              have T14 : TpS H10 H14 := (TpS.same s1013).trans (TpS.sl s14)
              refine ⟨_, bs ++ [.ref pn], Tl ++ [(x.d, toFo B)], bs.length, _, rfl, SL.same (Same.trans f7 s1013) s14 gb, s14.dT (s1013 _ _ f1), Nat.le_trans (length_putK ..) (by omega), hK10, h14, by rw [List.length_append]; show bs.length + 1 ≤ _; omega, Paired.snoc (Paired.imp (fun _ _ r => r.kp k14) hB13) (hnew.kp k14), s14.at hbw.symm (s1013 _ _ f3), Paired.imp (fun _ _ ⟨t, n, a1, a2, a3⟩ => ⟨t, n, a1, T14 _ _ a2, get_app a3⟩) f9, T14 _ _ f5, ?_, ?_⟩
              · rw [valV_put, if_pos rfl]
              · rw [hbT, List.getElem?_append_right (Nat.le_refl _), Nat.sub_self]
                rfl
        · rintro σ' H10 ⟨kvs', bs', Tl', n, o8', rfl, s10, f1, hk', hkn', f2, hb', f8, f3, f9, f5, hval, htn⟩
          have hpa10 := s10 _ _ hpa
          have hWl' := Paired.len f9
          walk_at "rd"
          refine dget_t f1 f5 hval ?_
          walk_at "rd"
          refine newO_gen fun tn H11 g11 s11 h11 => ?_
          have f3' := s11 _ _ f3
          have hrl : (WR.reverse : List V).length = WR.length := List.length_reverse
          walk_at "rd"
          refine putO_gen f3' fun H12 s12 h12 => ?_
          have T12 : TpS H10 H12 := (TpS.same s11).trans (TpS.sl s12)
          refine ⟨kvs', bs', .ref tn :: WR, Tl', _, _, _, _, _, rfl, SL.same (Same.trans s10 s11) s12 gw, s12.dT (s11 _ _ f1), hk', hkn', s12.at hbw (s11 _ _ f2), hb', Paired.imp (fun _ _ r => r.kp (KpS.trans (KpS.same s11) (KpS.sl s12))) f8, by rw [h12, List.reverse_cons], .cons ⟨tn, n, rfl, s12.tup h11, htn⟩ (Paired.imp (fun _ _ ⟨t, n, a1, a2, a3⟩ => ⟨t, n, a1, T12 _ _ a2, a3⟩) f9)⟩
    · rintro σ' H4 ⟨kvs, bs, W, Tl, o4, o5, o6, o7, o8, rfl, s4, h4k, hkl, hkn, h4b, hbl, hB4, h4w, hW⟩
      rw [Nat.sub_self, List.drop_zero, ← hrows, show stk (treeR d k) = [(0, d, k)] from stk_tree d k] at hW
      cases hW with
      | cons hv ht =>
        cases ht
        obtain ⟨t, n, rfl, ht, htn⟩ := hv
        replace h4w : H4 wt = some (.lst [.ref t]) := h4w
        obtain ⟨v, hv, hn⟩ := Paired.at' hB4 htn
        have hat : atI bs (n : Int) = some v := atI_nat hv
        walk_at "rd"
        exact kk v H4 s4 hn
end
end Z
namespace Z
open PySem PySem.Spec L2 ItX
local macro_rules | `(tactic| walk_at "ne") => `(tactic| first
  | with_reducible assumption
  | with_reducible exact Ne.symm (by assumption)
  | exact Frs.ne (by with_reducible assumption) (by walk_at "hp")
  | exact Frs.ne' (by with_reducible assumption) (by walk_at "hp"))
local macro_rules | `(tactic| walk_at "hp") => `(tactic| first
  | with_reducible assumption
  | (with_reducible refine Same.at (by assumption) ?_; walk_at "hp")
  | (with_reducible refine SL.tup (by assumption) ?_; walk_at "hp")
  | (with_reducible refine SL.at (by assumption) (by walk_at "ne") ?_; walk_at "hp"))
local macro_rules | `(tactic| walk_at "sz") => `(tactic| first
  | with_reducible assumption
  | exact Nat.le_of_ble_eq_true rfl
  | (refine sz_le ?_; omega)
  | (refine sz_lt ?_; omega)
  | decide +kernel)
local macro_rules | `(tactic| walk_at "at") => `(tactic| first
  | with_reducible assumption
  | with_reducible exact at0
  | with_reducible exact at1
  | with_reducible exact at2
  | with_reducible exact ixN0)
local macro_rules | `(tactic| walk_at "nn") => `(tactic| first
  | omega
  | decide
  | exact ⟨by decide, by decide⟩
  | exact ⟨by omega, by omega⟩
  | exact ⟨by omega, by omega, by omega, by omega⟩)
local macro_rules | `(tactic| walk_at "rdv") => `(tactic| first
  | (with_reducible refine add_int ?_)
  | (with_reducible refine sub_int ?_)
  | (with_reducible refine neg_int ?_)
  | ((with_reducible refine ix_tpl (xs := ?xs) (v := ?v) ?h1 ?h2 ?_); (case h1 => walk_at "hp"); (case h2 => walk_at "at"))
  | ((with_reducible refine ix_lst (xs := ?xs) (v := ?v) ?h1 ?h2 ?_); (case h1 => walk_at "hp"); (case h2 => walk_at "at"))
  | (with_reducible refine eq_int ?_)
  | (with_reducible refine ne_int ?_)
  | (with_reducible refine lt_int ?_)
  | (with_reducible refine le_int ?_)
  | (with_reducible refine gt_int ?_)
  | (with_reducible refine ge_int ?_)
  | (with_reducible refine eq_str ?_)
  | (with_reducible refine ne_str ?_)
  | (with_reducible refine eq_bl ?_)
  | (with_reducible refine ne_bl ?_)
  | ((with_reducible refine mod_int ?hc ?_); (case hc => walk_at "nn"))
  | ((with_reducible refine div_int ?hc ?_); (case hc => walk_at "nn"))
  | ((with_reducible refine mul_intR ?hc ?_); (case hc => exact ⟨by decide, by decide⟩))
  | ((with_reducible refine mul_intR ?hc ?_); (case hc => exact ⟨by omega, by omega⟩))
  | ((with_reducible refine mul_intL ?hc ?_); (case hc => exact ⟨by omega, by omega⟩))
  | ((with_reducible refine pow_int ?hc ?_); (case hc => exact ⟨by decide, by decide, by decide⟩))
  | ((with_reducible refine add_str ?hc ?_); (case hc => walk_at "sz"))
  | ((with_reducible refine add_lst (xs := ?xs) (ys := ?ys) ?h1 ?h2 ?hc ?_); (case h1 => walk_at "hp"); (case h2 => walk_at "hp"); (case hc => walk_at "sz"))
  | ((with_reducible refine sl_strU ?hc ?_); (case hc => walk_at "sz"))
  | ((with_reducible refine sl_lst (xs := ?xs) ?h1 ?_); (case h1 => walk_at "hp"))
  | (with_reducible refine is_bl ?_)
  | (with_reducible refine isnt_bl ?_)
  | (with_reducible refine is_non ?_)
  | (with_reducible refine isnt_non ?_))
local macro_rules | `(tactic| walk_at "rdc") => `(tactic| first
  | ((with_reducible refine len_lst (xs := ?xs) ?h1 ?_); (case h1 => walk_at "hp"))
  | ((with_reducible refine len_tup (xs := ?xs) ?h1 ?_); (case h1 => walk_at "hp"))
  | ((with_reducible refine len_str ?hc ?_); (case hc => walk_at "sz"))
  | (with_reducible refine int_int ?_)
  | (with_reducible refine max_int ?_)
  | (with_reducible refine min_int ?_)
  | (with_reducible refine abs_int ?_)
  | (with_reducible refine isi_ii ?_)
  | (with_reducible refine isi_ib ?_)
  | (with_reducible refine isi_ss ?_)
  | (with_reducible refine isi_bb ?_)
  | ((with_reducible refine isi_tt (xs := ?xs) ?h1 ?_); (case h1 => walk_at "hp"))
  | ((with_reducible refine isi_ll (xs := ?xs) ?h1 ?_); (case h1 => walk_at "hp"))
  | ((with_reducible refine list_lst (xs := ?xs) ?h1 ?_); (case h1 => walk_at "hp"))
  | ((with_reducible refine list_tup (xs := ?xs) ?h1 ?_); (case h1 => walk_at "hp"))
  | ((with_reducible refine tuple_lst (xs := ?xs) ?h1 ?_); (case h1 => walk_at "hp"))
  | ((with_reducible refine tuple_tup (xs := ?xs) ?h1 ?_); (case h1 => walk_at "hp"))
  | ((with_reducible refine append_lst (xs := ?xs) ?h1 ?hc ?_); (case h1 => walk_at "hp"); (case hc => walk_at "sz"))
  | ((with_reducible refine clear_lst (xs := ?xs) ?h1 ?_); (case h1 => walk_at "hp"))
  | ((with_reducible refine set_lst (xs := ?xs) (k := ?k) ?h1 ?h2 ?_); (case h1 => walk_at "hp"); (case h2 => walk_at "at")))
local macro_rules | `(tactic| walk_at "rd1") => `(tactic| first
  | ((with_reducible refine rVar (v := ?v) ?h ?_); (case h => exact rfl))
  | (with_reducible refine rC ?_)
  | (with_reducible refine rCons ?_)
  | (with_reducible refine rNil ?_)
  | (with_reducible refine rOp ?_)
  | (with_reducible refine rSeq ?_)
  | (with_reducible refine rAsgN ?_)
  | (with_reducible refine rAsgT ?_)
  | (with_reducible refine rAsgS ?_)
  | (with_reducible refine rTest ?_)
  | (with_reducible refine rBl ?_)
  | (with_reducible refine rBl' ?_)
  | (with_reducible refine rInt ?_)
  | (with_reducible refine rInt' ?_)
  | (with_reducible refine rCall ?_)
  | (with_reducible refine rCB ?_)
  | (with_reducible refine rRet ?_)
  | (with_reducible refine rDrop ?_)
  | (with_reducible refine rIfS ?_)
  | (with_reducible refine rTup ?_)
  | (with_reducible refine rLst ?_)
  | (with_reducible refine ⟨Nat.le_of_ble_eq_true rfl, ?_⟩)
  | (with_reducible refine rSl ?_)
  | (with_reducible refine rPart ?_)
  | (with_reducible refine rNoPart ?_)
  | (with_reducible refine rBM ?_)
  | (with_reducible refine rBM0 ?_)
  | ((with_reducible refine tyL (xs := ?xs) ?h1 ?_); (case h1 => walk_at "hp"))
  | (with_reducible refine rM1 ?_)
  | (with_reducible refine rM0 ?_)
  | (with_reducible refine rStr ?_)
  | (with_reducible refine rTru ?_)
  | (with_reducible refine tru_bl ?_)
  | (with_reducible refine tru_int ?_)
  | ((with_reducible refine tru_lst (xs := ?xs) ?h1 ?_); (case h1 => walk_at "hp"))
  | ((with_reducible refine tru_tup (xs := ?xs) ?h1 ?_); (case h1 => walk_at "hp"))
  | ((with_reducible refine tru_str ?hc ?_); (case hc => walk_at "sz"))
  | (with_reducible refine rAnd ?_)
  | (with_reducible refine rOr ?_)
  | (with_reducible refine rNot ?_)
  | (with_reducible refine rAndV ?_)
  | (with_reducible refine rOrV ?_)
  | (with_reducible refine rNotV ?_)
  | (with_reducible refine rIfE ?_)
  | (with_reducible refine rChain ?_)
  | (with_reducible refine rChain3 ?_)
  | (with_reducible refine ifT ?_)
  | (with_reducible refine ifF ?_)
  | (with_reducible refine ifNF ?_)
  | (with_reducible refine ifNT ?_)
  | (with_reducible refine rNext ?_)
  | (with_reducible refine rBrk ?_)
  | (with_reducible refine rCnt ?_)
  | (with_reducible refine rRetN ?_)
  | (with_reducible refine rForR1 ?_)
  | (with_reducible refine rForR2 ?_)
  | (with_reducible refine rForL ?_)
  | ((with_reducible refine rRg1 ?hb ?_); (case hb => walk_at "nn"))
  | ((with_reducible refine rRg2 ?hb ?_); (case hb => walk_at "nn"))
  | ((with_reducible refine rRf (xs := ?xs) ?h1 ?_); (case h1 => walk_at "hp"))
  | (with_reducible refine rLcR1 ?_)
  | (with_reducible refine rLcR2 ?_)
  | (with_reducible refine rLcL ?_)
  | (with_reducible refine gN ?_)
  | (with_reducible refine gNl ?_)
  | (with_reducible refine gC ?_)
  | ((with_reducible refine gT (xs := ?xs) ?h1 ?h2 ?_); (case h1 => walk_at "hp"); (case h2 => exact rfl))
  | (with_reducible refine rUn ?_)
  | walk_at "rdv"
  | walk_at "rdc")
local macro_rules | `(tactic| walk_at "rd") => `(tactic| repeat walk_at "rd1")

local macro_rules | `(tactic| walk_at "rd1") => `(tactic| first
  | (with_reducible refine rCallS ?_)
  | (with_reducible refine rRaise ?_)
  | (with_reducible refine rXf ?_)
  | (with_reducible refine rXi ?_)
  | (with_reducible refine rOst ?_)
  | (with_reducible refine rRevL ?_)
  | ((with_reducible refine revL_end (xs := ?xs) ?h1 ?_); (case h1 => walk_at "hp")))

local macro_rules | `(tactic| walk_at "rd1") => `(tactic| first
  | (with_reducible refine rForR3 ?_)
  | ((with_reducible refine rRgD ?hb ?_); (case hb => walk_at "nn"))
  | (with_reducible refine gS ?_))

local macro_rules | `(tactic| walk_at "rd1") => `(tactic| first
  | (with_reducible refine rFld ?_)
  | (with_reducible refine rSFld ?_)
  | (with_reducible refine rMake ?_)
  | (with_reducible refine rMeth ?_)
  | (with_reducible refine rForT ?_)
  | (with_reducible refine rLcT ?_)
  | (with_reducible refine rLcO ?_)
  | (with_reducible refine rForO ?_)
  | (with_reducible refine rLstY ?_)
  | ((with_reducible refine rRt (xs := ?xs) ?h1 ?_); (case h1 => walk_at "hp"))
  | ((with_reducible refine listY_lst (xs := ?xs) ?h1 ?_); (case h1 => walk_at "hp"))
  | ((with_reducible refine listY_tup (xs := ?xs) ?h1 ?_); (case h1 => walk_at "hp")))

local macro_rules | `(tactic| walk_at "hp") => `(tactic| first
  | (with_reducible refine SL.ins (by assumption) ?_; walk_at "hp"))
local macro_rules | `(tactic| walk_at "at") => `(tactic| first
  | with_reducible exact at3
  | with_reducible exact at4
  | with_reducible exact at5
  | with_reducible exact at6
  | with_reducible exact at7
  | with_reducible exact at8)
local macro_rules | `(tactic| walk_at "rd1") => `(tactic| first
  | (with_reducible refine rMkWK ?_)
  | (with_reducible refine rForS ?_)
  | (with_reducible refine rDGet ?_)
  | (with_reducible refine rDPut ?_)
  | (with_reducible refine rIts ?_)
  | (with_reducible refine rLstRg ?_)
  | ((with_reducible refine reverse_lst (xs := ?xs) ?h1 ?_); (case h1 => walk_at "hp"))
  | ((with_reducible refine extend_lst (xs := ?xs) (ys := ?ys) ?h1 ?h2 ?hc ?_); (case h1 => walk_at "hp"); (case h2 => walk_at "hp"); (case hc => walk_at "sz"))
  | ((with_reducible refine fN_kind (mg := ?mg) (C := ?C) (dx := ?dx) (d := ?d) (ns := ?ns) ?hu ?hp ?_); (case hu => with_reducible assumption); (case hp => walk_at "hp"))
  | ((with_reducible refine fN_symbol (mg := ?mg) (C := ?C) (dx := ?dx) (d := ?d) (ns := ?ns) ?hu ?hp ?_); (case hu => with_reducible assumption); (case hp => walk_at "hp"))
  | ((with_reducible refine fN_state (mg := ?mg) (C := ?C) (dx := ?dx) (d := ?d) (ns := ?ns) ?hu ?hp ?_); (case hu => with_reducible assumption); (case hp => walk_at "hp"))
  | ((with_reducible refine fN_lead (mg := ?mg) (C := ?C) (dx := ?dx) (d := ?d) (ns := ?ns) ?hu ?hp ?_); (case hu => with_reducible assumption); (case hp => walk_at "hp"))
  | ((with_reducible refine fN_width (mg := ?mg) (C := ?C) (dx := ?dx) (d := ?d) (ns := ?ns) ?hu ?hp ?_); (case hu => with_reducible assumption); (case hp => walk_at "hp"))
  | ((with_reducible refine fN_look (mg := ?mg) (C := ?C) (dx := ?dx) (d := ?d) (ns := ?ns) ?hu ?hp ?_); (case hu => with_reducible assumption); (case hp => walk_at "hp"))
  | ((with_reducible refine fN_alternative (mg := ?mg) (C := ?C) (dx := ?dx) (d := ?d) (ns := ?ns) ?hu ?hp ?_); (case hu => with_reducible assumption); (case hp => walk_at "hp"))
  | ((with_reducible refine fN_nodes (mg := ?mg) (C := ?C) (dx := ?dx) (d := ?d) (ns := ?ns) ?hu ?hp ?_); (case hu => with_reducible assumption); (case hp => walk_at "hp"))
  | ((with_reducible refine fN_popped (mg := ?mg) (C := ?C) (dx := ?dx) (d := ?d) (ns := ?ns) ?hu ?hp ?_); (case hu => with_reducible assumption); (case hp => walk_at "hp")))

local macro_rules | `(tactic| walk_at "hp") => `(tactic| first
  | (with_reducible refine SL.dT (by assumption) ?_; walk_at "hp"))
local macro_rules | `(tactic| walk_at "rd1") => `(tactic| first
  | (with_reducible refine rB ?_)
  | (with_reducible refine rLZip ?_)
  | (with_reducible refine rDNotIn ?_)
  | ((with_reducible refine max_lst (ns := ?ns) (m := ?m) ?h1 ?h2 ?h3 ?_); (case h1 => with_reducible assumption); (case h2 => with_reducible assumption); (case h3 => with_reducible assumption)))

theorem row_dp {K : PySem.W.Frag} {H : Hp} {v : V} {r : Rw} (h : RowAt H v r) : Dp K H v (rwD r) := by
  obtain ⟨a, rfl, e⟩ := h
  exact .tup (SqT.of e) (.cons (.int _) (.cons (.str _) (.cons (.str _) (.cons (.int _) (.cons (.int _) (.cons (.int _) (.cons (.int _) (.cons (.int _) (.cons (.int _) .nil)))))))))
theorem eq_rows {K : PySem.W.Frag} {H : Hp} {p q : Addr} {r1 r2 : List Rw} {Q : VK} (h1 : RowsIn H p r1) (h2 : RowsIn H q r2) (o1 : ∀ x ∈ r1, DtOk x.d) (o2 : ∀ x ∈ r2, DtOk x.d) (h : Q (.bl (decide (r1 = r2))) H) : rEqU K (.ref p) (.ref q) H Q := by
  obtain ⟨us, hp, hr⟩ := h1
  obtain ⟨ws, hq, hw⟩ := h2
  refine eq_deep (.lst (SqL.of hp) (dp_map (fun _ _ r => row_dp r) hr)) (.lst (SqL.of hq) (dp_map (fun _ _ r => row_dp r) hw)) (shapedL (n := 1) (by omega) fun x hx => rwD_lay (o1 x hx)) (shapedL (n := 1) (by omega) fun x hx => rwD_lay (o2 x hx)) ?_
  rw [eqvL_map rwD_eqv]
  exact h
theorem ne_rows {K : PySem.W.Frag} {H : Hp} {p q : Addr} {r1 r2 : List Rw} {Q : VK} (h1 : RowsIn H p r1) (h2 : RowsIn H q r2) (o1 : ∀ x ∈ r1, DtOk x.d) (o2 : ∀ x ∈ r2, DtOk x.d) (h : Q (.bl (!decide (r1 = r2))) H) : rNeU K (.ref p) (.ref q) H Q := by
  obtain ⟨us, hp, hr⟩ := h1
  obtain ⟨ws, hq, hw⟩ := h2
  refine ne_deep (.lst (SqL.of hp) (dp_map (fun _ _ r => row_dp r) hr)) (.lst (SqL.of hq) (dp_map (fun _ _ r => row_dp r) hw)) (shapedL (n := 1) (by omega) fun x hx => rwD_lay (o1 x hx)) (shapedL (n := 1) (by omega) fun x hx => rwD_lay (o2 x hx)) ?_
  rw [eqvL_map rwD_eqv]
  exact h
theorem Lnk.root {K : PySem.W.Frag} {C : Addr} {H : Hp} {us : List V} {d : Dt} {k : Fo} (h : Lnk K C H us (treeR d k)) : ∃ v, atI us 0 = some v ∧ NodeAt K C H v d k := by
  obtain ⟨v, hv, hn⟩ := h.node (j := 0) (by rw [treeR_len]; omega) (stk_tree d k)
  exact ⟨v, atI_nat hv, hn⟩
theorem Grow.tr {n : Nat} {rows : List Rw} (h : Grow n rows) : ∃ d k, rows = treeR d k ∧ k.cnt + 1 ≤ n ∧ (∀ x ∈ treeR d k, DtOk x.d) ∧ DtOk d ∧ FoOk k := by
  obtain ⟨d, k, rfl⟩ := h.tre
  have hl := h.len
  have e := treeR_len d k
  refine ⟨d, k, rfl, by rw [← e]; exact hl, h.ok, h.ok ⟨0, d⟩ (List.mem_cons_self ..), foOk_of fun x hx => h.ok x (List.mem_cons_of_mem _ hx)⟩
/-! ### the greatest level -/
theorem rows_le : ∀ {L : Int} {f : Fo}, ∀ x ∈ rowsF L f, x.lv + 1 ≤ L + f.dep
  | _, .nil, x, h => nomatch h
  | L, .cons d k r, x, h => by
    have e : (Fo.cons d k r).dep = max (1 + k.dep) r.dep := rfl
    rcases List.mem_cons.mp h with rfl | h
    · show L + 1 ≤ _; omega
    · rcases List.mem_append.mp h with h | h
      · have := rows_le x h; omega
      · have := rows_le x h; omega
theorem rows_at : ∀ {L : Int} {f : Fo}, f ≠ .nil → ∃ x ∈ rowsF L f, x.lv + 1 = L + f.dep
  | _, .nil, h => absurd rfl h
  | L, .cons d k r, _ => by
    have e : (Fo.cons d k r).dep = max (1 + k.dep) r.dep := rfl
    by_cases c : r.dep ≤ 1 + k.dep
    · cases k with
      | nil =>
        refine ⟨⟨L, d⟩, List.mem_cons_self .., ?_⟩
        show L + 1 = _
        have : (Fo.nil).dep = 0 := rfl
        omega
      | cons d1 k1 r1 =>
        obtain ⟨x, h1, h2⟩ := rows_at (L := L + 1) (f := .cons d1 k1 r1) (fun q => nomatch q)
        exact ⟨x, List.mem_cons_of_mem _ (List.mem_append.mpr (.inl h1)), by omega⟩
    · cases r with
      | nil => exact absurd (Nat.zero_le _) c
      | cons d1 k1 r1 =>
        obtain ⟨x, h1, h2⟩ := rows_at (L := L) (f := .cons d1 k1 r1) (fun q => nomatch q)
        exact ⟨x, List.mem_cons_of_mem _ (List.mem_append.mpr (.inr h1)), by omega⟩
theorem part_max (l : Int) (d : Dt) (k : Fo) : (l + (k.dep : Int)) ∈ ((⟨l, d⟩ :: rowsF (l + 1) k : List Rw).map (·.lv)) ∧ ∀ y ∈ ((⟨l, d⟩ :: rowsF (l + 1) k : List Rw).map (·.lv)), y ≤ l + (k.dep : Int) := by
  refine ⟨?_, fun y hy => ?_⟩
  · cases k with
    | nil =>
      refine List.mem_map.mpr ⟨⟨l, d⟩, List.mem_cons_self .., ?_⟩
      show l = l + ((0 : Nat) : Int)
      omega
    | cons d1 k1 r1 =>
      obtain ⟨x, h1, h2⟩ := rows_at (L := l + 1) (f := .cons d1 k1 r1) (fun q => nomatch q)
      exact List.mem_map.mpr ⟨x, List.mem_cons_of_mem _ h1, by omega⟩
  · obtain ⟨x, hx, rfl⟩ := List.mem_map.mp hy
    rcases List.mem_cons.mp hx with rfl | hx
    · show l ≤ _; omega
    · have := rows_le x hx
      omega
/-! ### a part once more -/
theorem Prt.dup {rows A t : List Rw} {a : Nat} {l : Int} {d : Dt} {k : Fo} (h : Prt rows a A t l d k) (hT : Tre rows) (ha : 0 < a) : Tre (rows.take (a + 1 + k.cnt) ++ rows.drop a) := by
  rw [h.takeE, h.drop]
  obtain ⟨x, xs, e, h0, hs⟩ := hT.stp
  have he := h.e
  rw [e] at he
  cases A with
  | nil => have := h.la; simp at this; omega
  | cons y A =>
    injection he with e1 e2
    subst e1
    replace e2 : xs = A ++ (⟨l, d⟩ : Rw) :: (rowsF (l + 1) k ++ t) := e2
    rw [e2] at hs
    rw [show A ++ (⟨l, d⟩ : Rw) :: (rowsF (l + 1) k ++ t) = (A ++ ⟨l, d⟩ :: rowsF (l + 1) k) ++ t by simp] at hs
    obtain ⟨h1, h2⟩ := stp_app.mp hs
    obtain ⟨h3, h4⟩ := stp_app.mp h1
    refine tre_of h0 (stp_app.mpr ⟨h1, h4.1, ?_, ?_⟩)
    · have : l ≤ lastL (0 : Int) (A ++ ⟨l, d⟩ :: rowsF (l + 1) k) := by
        rw [lastL_app]
        show l ≤ lastL l (rowsF (l + 1) k)
        exact last_ge (Int.le_refl _) fun z hz => by have := rowsF_low _ _ z hz; omega
      have h9 : l ≤ lastL (0 : Int) (A ++ ⟨l, d⟩ :: rowsF (l + 1) k) + 1 := by omega
      exact h9
    · refine stp_app.mpr ⟨h4.2.2, ?_⟩
      rw [lastL_app] at h2
      exact h2
def sp_law_is_number : Sp := fun vs H Q _ => ∃ a b : Int, vs = [.int a, .int b] ∧ Q (.bl (decide (a = b))) H
def sp_law_says : Sp := fun vs H Q _ => ∃ a b : Bool, vs = [.bl a, .bl b] ∧ Q (.bl (decide (a = b))) H
theorem use_isnum {a : Int} {b : Int} {H : Hp} {Q : VK} {E : XK} (e : a = b) (h : Q (.bl true) H) : sp_law_is_number [.int a, .int b] H Q E := ⟨a, b, rfl, by rw [decide_eq_true e]; exact h⟩
theorem use_says {a b : Bool} {H : Hp} {Q : VK} {E : XK} (e : a = b) (h : Q (.bl true) H) : sp_law_says [.bl a, .bl b] H Q E := ⟨a, b, rfl, by rw [decide_eq_true e]; exact h⟩
def sp_law_sized (K : PySem.W.Frag) (C : Addr) : Sp := fun vs H Q _ => ∃ (p q : Addr) (us : List V) (rows : List Rw) (a : Nat), vs = [.ref p, .ref q, .int a] ∧ RowsIn H p rows ∧ H q = some (.lst us) ∧ Lnk K C H us rows ∧ Tre rows ∧ a < rows.length ∧ rows.length ≤ 100000 ∧ ∀ H', Same H H' → Q (.bl true) H'
theorem use_sized {K : PySem.W.Frag} {C p q : Addr} {us : List V} {rows : List Rw} {a : Int} {H : Hp} {Q : VK} {E : XK} (h1 : RowsIn H p rows) (h2 : H q = some (.lst us)) (h3 : Lnk K C H us rows) (h4 : Tre rows) (h0 : 0 ≤ a) (ha : a.toNat < rows.length) (hl : rows.length ≤ 100000) (h : ∀ H', Same H H' → Q (.bl true) H') : sp_law_sized K C [.ref p, .ref q, .int a] H Q E := by
  obtain ⟨n, rfl⟩ := Int.eq_ofNat_of_zero_le h0
  exact ⟨p, q, us, rows, n, rfl, h1, h2, h3, h4, ha, hl, h⟩
section
variable {P : Program} {w : World} {K : PySem.W.Frag} {mg : Str → Option Value} {base : Heap} {aNode aNil : Addr}
theorem cal_law_is_number {f : Addr} {fd : FuncData} (T : Txt mg) (FD : C8.Def K mg "_law_is_number" s_law_is_number f fd) (b : Binds K fd ["told", "due"] []) : C8.Cal P w K mg base 1 "_law_is_number" sp_law_is_number [] := by
  refine C8.cal0 FD b .nil sc_law_is_number (fun vs H Q E h => ?_) (fun cdv A outer s H vs Q E hr h => ?_)
  · obtain ⟨a, b, rfl, _⟩ := h; rfl
  · obtain ⟨a, b, rfl, kk⟩ := h
    refine ⟨_, (pss_one (ps_ret (pe_and (pe_callB (call_isiK' K) (by rfl) T.n_isinstance (by decide +kernel) (pa_cons (pv 0) (pa_cons (pe_bltn (v := .ty "int") (by rfl) T.n_int (by decide +kernel) rfl) pa_nil))) (pe_and (pe_not (pe_callB (call_isiK' K) (by rfl) T.n_isinstance (by decide +kernel) (pa_cons (pv 0) (pa_cons (pe_bltn (v := .ty "bool") (by rfl) T.n_bool (by decide +kernel) rfl) pa_nil)))) (pe_one (pe_cmpR (op_eqK K (hu64 hr)) (pv 0) (pv 1) (nomark _))))))), ?_⟩
    show (_ : TS) _ [some (.int a), some (.int b)] H
    walk_at "rd"
    exact kk
theorem cal_law_says {f : Addr} {fd : FuncData} (T : Txt mg) (FD : C8.Def K mg "_law_says" s_law_says f fd) (b : Binds K fd ["told", "due"] []) : C8.Cal P w K mg base 1 "_law_says" sp_law_says [] := by
  refine C8.cal0 FD b .nil sc_law_says (fun vs H Q E h => ?_) (fun cdv A outer s H vs Q E hr h => ?_)
  · obtain ⟨a, b, rfl, _⟩ := h; rfl
  · obtain ⟨a, b, rfl, kk⟩ := h
    refine ⟨_, (pss_one (ps_ret (pe_and (pe_callB (call_isiK' K) (by rfl) T.n_isinstance (by decide +kernel) (pa_cons (pv 0) (pa_cons (pe_bltn (v := .ty "bool") (by rfl) T.n_bool (by decide +kernel) rfl) pa_nil))) (pe_one (pe_cmpR (op_eqK K (hu64 hr)) (pv 0) (pv 1) (nomark _)))))), ?_⟩
    show (_ : TS) _ [some (.bl a), some (.bl b)] H
    walk_at "rd"
    exact kk
theorem cal_law_sized {f : Addr} {fd : FuncData} (T : Txt mg) (FD : C8.Def K mg "_law_sized" s_law_sized f fd) (b : Binds K fd ["rows", "made", "at"] [])
    (c_law_is_number : C8.Cal P w K mg base 1 "_law_is_number" sp_law_is_number [])
    (c_height : C8.Cal P w K mg base 1 "height" (sp_height K aNode) [])
    (c_law_end : C8.Cal P w K mg base 1 "_law_end" sp_law_end [])
    (c_count_nodes : C8.Cal P w K mg base 1 "count_nodes" (sp_count_nodes K aNode) []) : C8.Cal P w K mg base 2 "_law_sized" (sp_law_sized K aNode) [] := by
  refine C8.cal0 FD b .nil sc_law_sized (fun vs H Q E h => ?_) (fun cdv A outer s H vs Q E hr h => ?_)
  · obtain ⟨p, q, us, rows, a, rfl, _⟩ := h; rfl
  · obtain ⟨p, q, us, rows, a, rfl, hrows, hq, hL, hT, ha, hl, kk⟩ := h
    refine ⟨_, (pss_cons (ps_set (i := 3) sc_law_sized.nd rfl (.inl rfl) (pe_slice (sl_K K) (pv 0) (po_some (pv 2)) (po_some (C8.pe_c c_law_end hr (by decide) (by rfl) (pa_cons (pv 0) (pa_cons (pv 2) pa_nil))))))
  (pss_cons (ps_if (pt_not (pt_truK K (C8.pe_c c_law_is_number hr (by decide) (by rfl) (pa_cons (C8.pe_c c_count_nodes hr (by decide) (by rfl) (pa_cons (pe_ix (ix_K K) (pv 1) (pv 2) (fun _ _ => rfl)) pa_nil)) (pa_cons (pe_callB (call_lenK K) (by rfl) T.n_len PySem.boot_len (pa_cons (pv 3) pa_nil)) pa_nil))) (by intro _; rfl))) (pss_one (ps_ret pe_bl)) pss_nil)
  (pss_one (ps_ret (C8.pe_c c_law_is_number hr (by decide) (by rfl) (pa_cons (C8.pe_c c_height hr (by decide) (by rfl) (pa_cons (pe_ix (ix_K K) (pv 1) (pv 2) (fun _ _ => rfl)) pa_nil)) (pa_cons (pe_op (op_addK K) (pe_op op_subU (pe_callB (call_maxK (K := K) rfl) (by rfl) T.n_max (by decide +kernel) (pa_cons (pe_lc (own := [("row", 4)]) rfl sc_law_sized.nd (pi_listK K (pv 3)) (blkOk_by (own := [("row", 4)]) (N := ["rows", "made", "at", "part", "row"]) (sc := C8.fnScope s_law_sized) (by decide +kernel)) (fun _ _ _ _ _ => (pg_name (i := 4) sc_law_sized.nd rfl (.inl rfl))) (fun _ _ _ _ _ => pts_nil) (fun _ _ _ _ _ => (pe_ix (ix_K K) (pv 4) pe_int (fun _ _ => rfl)))) pa_nil)) (pe_ix (ix_K K) (pe_ix (ix_K K) (pv 3) pe_int (fun _ _ => rfl)) pe_int (fun _ _ => rfl))) pe_int) pa_nil))))))), ?_⟩
    show (_ : TS) _ [some (.ref p), some (.ref q), some (.int a), none, none] H
    have hrows' := hrows
    obtain ⟨vs, hp, hrw⟩ := hrows
    obtain ⟨l, d, k, t, l0, e1, e2, e3, e4, e5, e6⟩ := hT.part ha
    obtain ⟨v, hv, hn⟩ := hL.node ha e4
    have hatv : atI us (a : Int) = some v := atI_nat hv
    have hkc : k.cnt + 1 ≤ 100000 := by
      have h1 := congrArg List.length e2
      rw [List.length_drop, List.length_cons, List.length_append, rowsF_len] at h1
      omega
    walk_at "rd"
    refine use_end hrows' (by omega) (by rw [Int.toNat_natCast]; exact ha) (by omega) ?_
    rw [Int.toNat_natCast]
    walk_at "rd"
    refine newO_gen fun pt H1 g1 s1 h1 => ?_
    rw [cutV_mid (n := a) (m := endN rows a) (by rfl) (by rfl)] at h1
    have hpr : Rows H1 ((vs.take (endN rows a)).drop a) (⟨l, d⟩ :: rowsF (l + 1) k) := by
      rw [← e6]
      exact Rows.ts (TpS.same s1) (Paired.dr a (Paired.tk (endN rows a) hrw))
    generalize hpv : (vs.take (endN rows a)).drop a = pv at h1 hpr
    have hpl := Paired.len hpr
    rw [List.length_cons, rowsF_len] at hpl
    have hq1 := s1 _ _ hq
    walk_at "rd"
    refine use_count_nodes (hn.kp (KpS.same s1)) (by omega) fun H2 s2 => ?_
    have h2 := s2 _ _ h1
    have s02 : Same H H2 := Same.trans s1 s2
    have hq2 := s02 _ _ hq
    walk_at "rd"
    refine use_isnum (by omega) ?_
    walk_at "rd"
    refine use_height (hn.kp (KpS.same s02)) (by omega) fun H3 s3 => ?_
    have h3 := s3 _ _ h2
    have s03 : Same H H3 := Same.trans s02 s3
    have hpr3 : Rows H3 pv (⟨l, d⟩ :: rowsF (l + 1) k) := hpr.ts (TpS.same (Same.trans s2 s3))
    walk_at "rd"
    refine compL_pure h3 (fun acc _ => acc = (((⟨l, d⟩ :: rowsF (l + 1) k : List Rw).map (·.lv)).take acc.length).map V.int) (fun _ _ => rfl) ?_ ?_
    · intro acc x H4 D c hx pa'
      obtain ⟨r, hr1, px, rfl, hpx⟩ := Paired.at hpr3 hx
      replace hpx : H4 px = some (.tup [.int r.lv, .str r.d.k, .str r.d.s, .int r.d.st, .int r.d.ld, .int r.d.wd, .int r.d.lk, .int r.d.al, .int r.d.pp]) := c.since _ _ hpx
      walk_at "rd"
      refine pD_of c (by omega) (Same.refl _) fun H5 s5 => ?_
      have hr2 : ((⟨l, d⟩ :: rowsF (l + 1) k : List Rw).map (·.lv))[acc.length]? = some r.lv := by rw [List.getElem?_map, hr1]; rfl
      rw [List.length_append, show acc.length + [V.int r.lv].length = acc.length + 1 from rfl, List.take_succ, hr2, List.map_append, ← pa']
      rfl
    · intro acc H4 D hal pa' s4 h4 f4
      rw [hal, List.take_of_length_le (by rw [List.length_map, List.length_cons, rowsF_len]; omega)] at pa'
      rw [pa'] at h4
      obtain ⟨m1, m2⟩ := part_max l d k
      have s04 : Same H H4 := Same.trans s03 s4
      have h4p := s4 _ _ h3
      have hpr4 : Rows H4 pv (⟨l, d⟩ :: rowsF (l + 1) k) := hpr3.ts (TpS.same s4)
      obtain ⟨v0, hv0, p0, rfl, hp0⟩ := Paired.at' hpr4 (i := 0) rfl
      have hat0 : atI pv 0 = some (.ref p0) := atI_nat hv0
      replace hp0 : H4 p0 = some (.tup [.int l, .str d.k, .str d.s, .int d.st, .int d.ld, .int d.wd, .int d.lk, .int d.al, .int d.pp]) := hp0
      walk_at "rd"
      refine use_isnum (by omega) ?_
      exact kk H4 s04
end
end Z
namespace Z
open PySem PySem.Spec L2 ItX
local macro_rules | `(tactic| walk_at "ne") => `(tactic| first
  | with_reducible assumption
  | with_reducible exact Ne.symm (by assumption)
  | exact Frs.ne (by with_reducible assumption) (by walk_at "hp")
  | exact Frs.ne' (by with_reducible assumption) (by walk_at "hp"))
local macro_rules | `(tactic| walk_at "hp") => `(tactic| first
  | with_reducible assumption
  | (with_reducible refine Same.at (by assumption) ?_; walk_at "hp")
  | (with_reducible refine SL.tup (by assumption) ?_; walk_at "hp")
  | (with_reducible refine SL.at (by assumption) (by walk_at "ne") ?_; walk_at "hp"))
local macro_rules | `(tactic| walk_at "sz") => `(tactic| first
  | with_reducible assumption
  | exact Nat.le_of_ble_eq_true rfl
  | (refine sz_le ?_; omega)
  | (refine sz_lt ?_; omega)
  | decide +kernel)
local macro_rules | `(tactic| walk_at "at") => `(tactic| first
  | with_reducible assumption
  | with_reducible exact at0
  | with_reducible exact at1
  | with_reducible exact at2
  | with_reducible exact ixN0)
local macro_rules | `(tactic| walk_at "nn") => `(tactic| first
  | omega
  | decide
  | exact ⟨by decide, by decide⟩
  | exact ⟨by omega, by omega⟩
  | exact ⟨by omega, by omega, by omega, by omega⟩)
local macro_rules | `(tactic| walk_at "rdv") => `(tactic| first
  | (with_reducible refine add_int ?_)
  | (with_reducible refine sub_int ?_)
  | (with_reducible refine neg_int ?_)
  | ((with_reducible refine ix_tpl (xs := ?xs) (v := ?v) ?h1 ?h2 ?_); (case h1 => walk_at "hp"); (case h2 => walk_at "at"))
  | ((with_reducible refine ix_lst (xs := ?xs) (v := ?v) ?h1 ?h2 ?_); (case h1 => walk_at "hp"); (case h2 => walk_at "at"))
  | (with_reducible refine eq_int ?_)
  | (with_reducible refine ne_int ?_)
  | (with_reducible refine lt_int ?_)
  | (with_reducible refine le_int ?_)
  | (with_reducible refine gt_int ?_)
  | (with_reducible refine ge_int ?_)
  | (with_reducible refine eq_str ?_)
  | (with_reducible refine ne_str ?_)
  | (with_reducible refine eq_bl ?_)
  | (with_reducible refine ne_bl ?_)
  | ((with_reducible refine mod_int ?hc ?_); (case hc => walk_at "nn"))
  | ((with_reducible refine div_int ?hc ?_); (case hc => walk_at "nn"))
  | ((with_reducible refine mul_intR ?hc ?_); (case hc => exact ⟨by decide, by decide⟩))
  | ((with_reducible refine mul_intR ?hc ?_); (case hc => exact ⟨by omega, by omega⟩))
  | ((with_reducible refine mul_intL ?hc ?_); (case hc => exact ⟨by omega, by omega⟩))
  | ((with_reducible refine pow_int ?hc ?_); (case hc => exact ⟨by decide, by decide, by decide⟩))
  | ((with_reducible refine add_str ?hc ?_); (case hc => walk_at "sz"))
  | ((with_reducible refine add_lst (xs := ?xs) (ys := ?ys) ?h1 ?h2 ?hc ?_); (case h1 => walk_at "hp"); (case h2 => walk_at "hp"); (case hc => walk_at "sz"))
  | ((with_reducible refine sl_strU ?hc ?_); (case hc => walk_at "sz"))
  | ((with_reducible refine sl_lst (xs := ?xs) ?h1 ?_); (case h1 => walk_at "hp"))
  | (with_reducible refine is_bl ?_)
  | (with_reducible refine isnt_bl ?_)
  | (with_reducible refine is_non ?_)
  | (with_reducible refine isnt_non ?_))
local macro_rules | `(tactic| walk_at "rdc") => `(tactic| first
  | ((with_reducible refine len_lst (xs := ?xs) ?h1 ?_); (case h1 => walk_at "hp"))
  | ((with_reducible refine len_tup (xs := ?xs) ?h1 ?_); (case h1 => walk_at "hp"))
  | ((with_reducible refine len_str ?hc ?_); (case hc => walk_at "sz"))
  | (with_reducible refine int_int ?_)
  | (with_reducible refine max_int ?_)
  | (with_reducible refine min_int ?_)
  | (with_reducible refine abs_int ?_)
  | (with_reducible refine isi_ii ?_)
  | (with_reducible refine isi_ib ?_)
  | (with_reducible refine isi_ss ?_)
  | (with_reducible refine isi_bb ?_)
  | ((with_reducible refine isi_tt (xs := ?xs) ?h1 ?_); (case h1 => walk_at "hp"))
  | ((with_reducible refine isi_ll (xs := ?xs) ?h1 ?_); (case h1 => walk_at "hp"))
  | ((with_reducible refine list_lst (xs := ?xs) ?h1 ?_); (case h1 => walk_at "hp"))
  | ((with_reducible refine list_tup (xs := ?xs) ?h1 ?_); (case h1 => walk_at "hp"))
  | ((with_reducible refine tuple_lst (xs := ?xs) ?h1 ?_); (case h1 => walk_at "hp"))
  | ((with_reducible refine tuple_tup (xs := ?xs) ?h1 ?_); (case h1 => walk_at "hp"))
  | ((with_reducible refine append_lst (xs := ?xs) ?h1 ?hc ?_); (case h1 => walk_at "hp"); (case hc => walk_at "sz"))
  | ((with_reducible refine clear_lst (xs := ?xs) ?h1 ?_); (case h1 => walk_at "hp"))
  | ((with_reducible refine set_lst (xs := ?xs) (k := ?k) ?h1 ?h2 ?_); (case h1 => walk_at "hp"); (case h2 => walk_at "at")))
local macro_rules | `(tactic| walk_at "rd1") => `(tactic| first
  | ((with_reducible refine rVar (v := ?v) ?h ?_); (case h => exact rfl))
  | (with_reducible refine rC ?_)
  | (with_reducible refine rCons ?_)
  | (with_reducible refine rNil ?_)
  | (with_reducible refine rOp ?_)
  | (with_reducible refine rSeq ?_)
  | (with_reducible refine rAsgN ?_)
  | (with_reducible refine rAsgT ?_)
  | (with_reducible refine rAsgS ?_)
  | (with_reducible refine rTest ?_)
  | (with_reducible refine rBl ?_)
  | (with_reducible refine rBl' ?_)
  | (with_reducible refine rInt ?_)
  | (with_reducible refine rInt' ?_)
  | (with_reducible refine rCall ?_)
  | (with_reducible refine rCB ?_)
  | (with_reducible refine rRet ?_)
  | (with_reducible refine rDrop ?_)
  | (with_reducible refine rIfS ?_)
  | (with_reducible refine rTup ?_)
  | (with_reducible refine rLst ?_)
  | (with_reducible refine ⟨Nat.le_of_ble_eq_true rfl, ?_⟩)
  | (with_reducible refine rSl ?_)
  | (with_reducible refine rPart ?_)
  | (with_reducible refine rNoPart ?_)
  | (with_reducible refine rBM ?_)
  | (with_reducible refine rBM0 ?_)
  | ((with_reducible refine tyL (xs := ?xs) ?h1 ?_); (case h1 => walk_at "hp"))
  | (with_reducible refine rM1 ?_)
  | (with_reducible refine rM0 ?_)
  | (with_reducible refine rStr ?_)
  | (with_reducible refine rTru ?_)
  | (with_reducible refine tru_bl ?_)
  | (with_reducible refine tru_int ?_)
  | ((with_reducible refine tru_lst (xs := ?xs) ?h1 ?_); (case h1 => walk_at "hp"))
  | ((with_reducible refine tru_tup (xs := ?xs) ?h1 ?_); (case h1 => walk_at "hp"))
  | ((with_reducible refine tru_str ?hc ?_); (case hc => walk_at "sz"))
  | (with_reducible refine rAnd ?_)
  | (with_reducible refine rOr ?_)
  | (with_reducible refine rNot ?_)
  | (with_reducible refine rAndV ?_)
  | (with_reducible refine rOrV ?_)
  | (with_reducible refine rNotV ?_)
  | (with_reducible refine rIfE ?_)
  | (with_reducible refine rChain ?_)
  | (with_reducible refine rChain3 ?_)
  | (with_reducible refine ifT ?_)
  | (with_reducible refine ifF ?_)
  | (with_reducible refine ifNF ?_)
  | (with_reducible refine ifNT ?_)
  | (with_reducible refine rNext ?_)
  | (with_reducible refine rBrk ?_)
  | (with_reducible refine rCnt ?_)
  | (with_reducible refine rRetN ?_)
  | (with_reducible refine rForR1 ?_)
  | (with_reducible refine rForR2 ?_)
  | (with_reducible refine rForL ?_)
  | ((with_reducible refine rRg1 ?hb ?_); (case hb => walk_at "nn"))
  | ((with_reducible refine rRg2 ?hb ?_); (case hb => walk_at "nn"))
  | ((with_reducible refine rRf (xs := ?xs) ?h1 ?_); (case h1 => walk_at "hp"))
  | (with_reducible refine rLcR1 ?_)
  | (with_reducible refine rLcR2 ?_)
  | (with_reducible refine rLcL ?_)
  | (with_reducible refine gN ?_)
  | (with_reducible refine gNl ?_)
  | (with_reducible refine gC ?_)
  | ((with_reducible refine gT (xs := ?xs) ?h1 ?h2 ?_); (case h1 => walk_at "hp"); (case h2 => exact rfl))
  | (with_reducible refine rUn ?_)
  | walk_at "rdv"
  | walk_at "rdc")
local macro_rules | `(tactic| walk_at "rd") => `(tactic| repeat walk_at "rd1")

local macro_rules | `(tactic| walk_at "rd1") => `(tactic| first
  | (with_reducible refine rCallS ?_)
  | (with_reducible refine rRaise ?_)
  | (with_reducible refine rXf ?_)
  | (with_reducible refine rXi ?_)
  | (with_reducible refine rOst ?_)
  | (with_reducible refine rRevL ?_)
  | ((with_reducible refine revL_end (xs := ?xs) ?h1 ?_); (case h1 => walk_at "hp")))

local macro_rules | `(tactic| walk_at "rd1") => `(tactic| first
  | (with_reducible refine rForR3 ?_)
  | ((with_reducible refine rRgD ?hb ?_); (case hb => walk_at "nn"))
  | (with_reducible refine gS ?_))

local macro_rules | `(tactic| walk_at "rd1") => `(tactic| first
  | (with_reducible refine rFld ?_)
  | (with_reducible refine rSFld ?_)
  | (with_reducible refine rMake ?_)
  | (with_reducible refine rMeth ?_)
  | (with_reducible refine rForT ?_)
  | (with_reducible refine rLcT ?_)
  | (with_reducible refine rLcO ?_)
  | (with_reducible refine rForO ?_)
  | (with_reducible refine rLstY ?_)
  | ((with_reducible refine rRt (xs := ?xs) ?h1 ?_); (case h1 => walk_at "hp"))
  | ((with_reducible refine listY_lst (xs := ?xs) ?h1 ?_); (case h1 => walk_at "hp"))
  | ((with_reducible refine listY_tup (xs := ?xs) ?h1 ?_); (case h1 => walk_at "hp")))

local macro_rules | `(tactic| walk_at "hp") => `(tactic| first
  | (with_reducible refine SL.ins (by assumption) ?_; walk_at "hp"))
local macro_rules | `(tactic| walk_at "at") => `(tactic| first
  | with_reducible exact at3
  | with_reducible exact at4
  | with_reducible exact at5
  | with_reducible exact at6
  | with_reducible exact at7
  | with_reducible exact at8)
local macro_rules | `(tactic| walk_at "rd1") => `(tactic| first
  | (with_reducible refine rMkWK ?_)
  | (with_reducible refine rForS ?_)
  | (with_reducible refine rDGet ?_)
  | (with_reducible refine rDPut ?_)
  | (with_reducible refine rIts ?_)
  | (with_reducible refine rLstRg ?_)
  | ((with_reducible refine reverse_lst (xs := ?xs) ?h1 ?_); (case h1 => walk_at "hp"))
  | ((with_reducible refine extend_lst (xs := ?xs) (ys := ?ys) ?h1 ?h2 ?hc ?_); (case h1 => walk_at "hp"); (case h2 => walk_at "hp"); (case hc => walk_at "sz"))
  | ((with_reducible refine fN_kind (mg := ?mg) (C := ?C) (dx := ?dx) (d := ?d) (ns := ?ns) ?hu ?hp ?_); (case hu => with_reducible assumption); (case hp => walk_at "hp"))
  | ((with_reducible refine fN_symbol (mg := ?mg) (C := ?C) (dx := ?dx) (d := ?d) (ns := ?ns) ?hu ?hp ?_); (case hu => with_reducible assumption); (case hp => walk_at "hp"))
  | ((with_reducible refine fN_state (mg := ?mg) (C := ?C) (dx := ?dx) (d := ?d) (ns := ?ns) ?hu ?hp ?_); (case hu => with_reducible assumption); (case hp => walk_at "hp"))
  | ((with_reducible refine fN_lead (mg := ?mg) (C := ?C) (dx := ?dx) (d := ?d) (ns := ?ns) ?hu ?hp ?_); (case hu => with_reducible assumption); (case hp => walk_at "hp"))
  | ((with_reducible refine fN_width (mg := ?mg) (C := ?C) (dx := ?dx) (d := ?d) (ns := ?ns) ?hu ?hp ?_); (case hu => with_reducible assumption); (case hp => walk_at "hp"))
  | ((with_reducible refine fN_look (mg := ?mg) (C := ?C) (dx := ?dx) (d := ?d) (ns := ?ns) ?hu ?hp ?_); (case hu => with_reducible assumption); (case hp => walk_at "hp"))
  | ((with_reducible refine fN_alternative (mg := ?mg) (C := ?C) (dx := ?dx) (d := ?d) (ns := ?ns) ?hu ?hp ?_); (case hu => with_reducible assumption); (case hp => walk_at "hp"))
  | ((with_reducible refine fN_nodes (mg := ?mg) (C := ?C) (dx := ?dx) (d := ?d) (ns := ?ns) ?hu ?hp ?_); (case hu => with_reducible assumption); (case hp => walk_at "hp"))
  | ((with_reducible refine fN_popped (mg := ?mg) (C := ?C) (dx := ?dx) (d := ?d) (ns := ?ns) ?hu ?hp ?_); (case hu => with_reducible assumption); (case hp => walk_at "hp")))

local macro_rules | `(tactic| walk_at "hp") => `(tactic| first
  | (with_reducible refine SL.dT (by assumption) ?_; walk_at "hp"))
local macro_rules | `(tactic| walk_at "rd1") => `(tactic| first
  | (with_reducible refine rB ?_)
  | (with_reducible refine rLZip ?_)
  | (with_reducible refine rDNotIn ?_)
  | ((with_reducible refine max_lst (ns := ?ns) (m := ?m) ?h1 ?h2 ?h3 ?_); (case h1 => with_reducible assumption); (case h2 => with_reducible assumption); (case h3 => with_reducible assumption)))

def sp_law (K : PySem.W.Frag) : Sp := fun vs H Q _ => ∃ (a : Addr) (ns : List Int), vs = [.ref a] ∧ SqL K H a (ns.map V.int) ∧ ns.length ≤ 63 ∧ ∀ H', Q (.bl true) H'
def topD : Dt := ⟨"top", "top", 0, 0, 0, 0, 0, 0⟩
theorem topD_ok : DtOk topD := ⟨⟨by decide +kernel, ok_of (by decide +kernel)⟩, ⟨by decide +kernel, ok_of (by decide +kernel)⟩, ⟨by decide, by decide⟩, ⟨by decide, by decide⟩, ⟨by decide, by decide⟩, ⟨by decide, by decide⟩, ⟨by decide, by decide⟩, ⟨by decide, by decide⟩⟩
def thr (a : Dt) (k : Fo) (b : Dt) (l : Fo) (c : Dt) (m : Fo) : Fo := .cons a k (.cons b l (.cons c m .nil))
theorem node_thr {K : PySem.W.Frag} {C : Addr} {H : Hp} {a b c : V} {d e f : Dt} {k l m : Fo} {p dx q : Addr} (hp : H p = some (.ins C dx (nodF topD (.ref q)))) (hq : H q = some (.tup [a, b, c])) (h1 : NodeAt K C H a d k) (h2 : NodeAt K C H b e l) (h3 : NodeAt K C H c f m) : NodeAt K C H (.ref p) topD (thr d k e l f m) :=
  ⟨p, dx, q, [a, b, c], rfl, hp, SqT.of hq, NodesAt.cons h1 (NodesAt.cons h2 (NodesAt.cons h3 rfl))⟩
theorem dec_comm {α : Type} [DecidableEq α] (a b : α) : decide (a = b) = decide (b = a) := decide_eq_decide.mpr eq_comm
theorem thr_dec (d : Dt) (k : Fo) (d' : Dt) (k' : Fo) : decide (treeR topD (thr d k d k d k) = treeR topD (thr d k d' k' d k)) = decide (treeR d k = treeR d' k') := by
  refine decide_eq_decide.mpr ?_
  rw [treeR_inj, treeR_inj]
  constructor
  · rintro ⟨_, h⟩
    unfold thr at h
    injection h with _ _ h
    injection h with h1 h2 _
    exact ⟨h1, h2⟩
  · rintro ⟨rfl, rfl⟩
    exact ⟨rfl, rfl⟩
/-- what the law holds in hand -/
structure B38 (K : PySem.W.Frag) (C : Addr) (r p q m1 m2 m3 : Addr) (vs1 vs2 us1 us2 us3 : List V) (d : Dt) (k : Fo) (d' : Dt) (k' : Fo) (H : Hp) : Prop where
  hp : H p = some (.lst vs1)
  hr : Rows H vs1 (treeR d k)
  hq : H q = some (.lst vs2)
  hw : Rows H vs2 (treeR d' k')
  h1 : H m1 = some (.lst us1)
  l1 : Lnk K C H us1 (treeR d k)
  h2 : H m2 = some (.lst us2)
  l2 : Lnk K C H us2 (treeR d' k')
  h3 : H m3 = some (.lst us3)
  l3 : Lnk K C H us3 (treeR d k)
  n : p ≠ r ∧ q ≠ r ∧ m1 ≠ r ∧ m2 ≠ r ∧ m3 ≠ r
section
variable {K : PySem.W.Frag} {C : Addr} {r p q m1 m2 m3 : Addr} {vs1 vs2 us1 us2 us3 : List V} {d : Dt} {k : Fo} {d' : Dt} {k' : Fo} {H H' : Hp}
theorem B38.sm (B : B38 K C r p q m1 m2 m3 vs1 vs2 us1 us2 us3 d k d' k' H) (s : Same H H') : B38 K C r p q m1 m2 m3 vs1 vs2 us1 us2 us3 d k d' k' H' :=
  ⟨s _ _ B.hp, B.hr.ts (TpS.same s), s _ _ B.hq, B.hw.ts (TpS.same s), s _ _ B.h1, B.l1.kp (KpS.same s), s _ _ B.h2, B.l2.kp (KpS.same s), s _ _ B.h3, B.l3.kp (KpS.same s), B.n⟩
theorem B38.sl (B : B38 K C r p q m1 m2 m3 vs1 vs2 us1 us2 us3 d k d' k' H) (s : SL r H H') : B38 K C r p q m1 m2 m3 vs1 vs2 us1 us2 us3 d k d' k' H' :=
  ⟨s.at B.n.1 B.hp, B.hr.ts (TpS.sl s), s.at B.n.2.1 B.hq, B.hw.ts (TpS.sl s), s.at B.n.2.2.1 B.h1, B.l1.kp (KpS.sl s), s.at B.n.2.2.2.1 B.h2, B.l2.kp (KpS.sl s), s.at B.n.2.2.2.2 B.h3, B.l3.kp (KpS.sl s), B.n⟩
end
section
variable {P : Program} {w : World} {K : PySem.W.Frag} {mg : Str → Option Value} {base : Heap} {aNode aNil : Addr}
theorem fn_law {f : Addr} {fd : FuncData} (T : Txt mg) (FD : C8.Def K mg "law" s_law f fd)
    (c_law_reel : C8.Cal P w K mg base 1 "_law_reel" (sp_law_reel K) [])
    (c_law_tree : C8.Cal P w K mg base 7 "_law_tree" sp_law_tree [])
    (c_law_made : C8.Cal P w K mg base 3 "_law_made" (sp_law_made K aNode) [])
    (c_law_place : C8.Cal P w K mg base 2 "_law_place" sp_law_place [])
    (c_law_pick : C8.Cal P w K mg base 2 "_law_pick" sp_law_pick [])
    (c_law_change : C8.Cal P w K mg base 7 "_law_change" sp_law_change [])
    (c_law_says : C8.Cal P w K mg base 1 "_law_says" sp_law_says [])
    (c_law_shared : C8.Cal P w K mg base 3 "_law_shared" (sp_law_shared K aNode) [])
    (c_law_sized : C8.Cal P w K mg base 2 "_law_sized" (sp_law_sized K aNode) [])
    (c_same : C8.Cal P w K mg base 2 "same" (sp_same K aNode) [])
    (c_law_is_number : C8.Cal P w K mg base 1 "_law_is_number" sp_law_is_number [])
    (c_height : C8.Cal P w K mg base 1 "height" (sp_height K aNode) [])
    (c_count_nodes : C8.Cal P w K mg base 1 "count_nodes" (sp_count_nodes K aNode) [])
    (c_law_told : C8.Cal P w K mg base 1 "_law_told" (sp_law_told K aNode) [])
    (c_law_end : C8.Cal P w K mg base 1 "_law_end" sp_law_end [])
    (c_Node_init6 : MakK P w K mg base 1 "Node" aNode 2 ["state", "lead", "width", "look", "alternative", "nodes"] (sp_Node_init K aNode) (gKW [.int (0)])) : FnOk P w K mg base C8.CX0 8 f fd ["script"] (sp_law K) := by
  refine C8.fn0 FD.fn sc_law (fun vs H Q E h => ?_) (fun cdv A outer s H vs Q E hr h => ?_)
  · obtain ⟨a, ns, rfl, _⟩ := h; rfl
  · obtain ⟨a, ns, rfl, hS, hl, kk⟩ := h
    refine ⟨_, (pss_cons (ps_set (i := 1) sc_law.nd rfl (.inl rfl) (C8.pe_c c_law_reel hr (by decide) (by rfl) (pa_cons (pv 0) pa_nil)))
  (pss_cons (ps_set (i := 2) sc_law.nd rfl (.inl rfl) (C8.pe_c c_law_tree hr (by decide) (by rfl) (pa_cons (pv 1) pa_nil)))
  (pss_cons (ps_set (i := 3) sc_law.nd rfl (.inl rfl) (pe_callTy (call_listK K) (by rfl) T.n_list (by decide +kernel) (pa_cons (pv 2) pa_nil)))
  (pss_cons (ps_for PassesOwn.never rfl (pi_range1 rfl T.n_range (pa_cons (C8.pe_c c_law_pick hr (by decide) (by rfl) (pa_cons (pv 1) (pa_cons (pe_lst (pa_cons pe_int (pa_cons pe_int (pa_cons pe_int (pa_cons pe_int (pa_cons pe_int (pa_cons pe_int pa_nil))))))) pa_nil))) pa_nil)) (pg_name (i := 4) sc_law.nd rfl (.inl rfl)) (pss_one (ps_set (i := 3) sc_law.nd rfl (.inl rfl) (C8.pe_c c_law_change hr (by decide) (by rfl) (pa_cons (pv 1) (pa_cons (pv 3) pa_nil))))))
  (pss_cons (ps_set (i := 5) sc_law.nd rfl (.inl rfl) (C8.pe_c c_law_made hr (by decide) (by rfl) (pa_cons (pv 2) pa_nil)))
  (pss_cons (ps_set (i := 6) sc_law.nd rfl (.inl rfl) (C8.pe_c c_law_made hr (by decide) (by rfl) (pa_cons (pv 3) pa_nil)))
  (pss_cons (ps_set (i := 7) sc_law.nd rfl (.inl rfl) (C8.pe_c c_law_made hr (by decide) (by rfl) (pa_cons (pv 2) pa_nil)))
  (pss_cons (ps_set (i := 8) sc_law.nd rfl (.inl rfl) (C8.pe_c c_law_place hr (by decide) (by rfl) (pa_cons (pv 1) (pa_cons (pe_callB (call_lenK K) (by rfl) T.n_len PySem.boot_len (pa_cons (pv 2) pa_nil)) pa_nil))))
  (pss_cons (ps_set (i := 9) sc_law.nd rfl (.inl rfl) (pe_cmpR (op_eqK K (hu64 hr)) (pv 2) (pv 3) (nomark _)))
  (pss_cons (ps_if (PW.pt (pw_or (pt_not (pt_truK K (C8.pe_c c_law_says hr (by decide) (by rfl) (pa_cons (C8.pe_c c_same hr (by decide) (by rfl) (pa_cons (pe_ix (ix_K K) (pv 5) pe_int (fun _ _ => rfl)) (pa_cons (pe_ix (ix_K K) (pv 6) pe_int (fun _ _ => rfl)) pa_nil))) (pa_cons (pv 9) pa_nil))) (by intro _; rfl))) (pw_or1 (pt_not (pt_truK K (C8.pe_c c_law_says hr (by decide) (by rfl) (pa_cons (C8.pe_c c_same hr (by decide) (by rfl) (pa_cons (pe_ix (ix_K K) (pv 6) pe_int (fun _ _ => rfl)) (pa_cons (pe_ix (ix_K K) (pv 5) pe_int (fun _ _ => rfl)) pa_nil))) (pa_cons (pv 9) pa_nil))) (by intro _; rfl)))))) (pss_one (ps_ret pe_bl)) pss_nil)
  (pss_cons (ps_if (PW.pt (pw_or (pt_not (pt_truK K (C8.pe_c c_law_says hr (by decide) (by rfl) (pa_cons (C8.pe_c c_same hr (by decide) (by rfl) (pa_cons (pe_ix (ix_K K) (pv 5) pe_int (fun _ _ => rfl)) (pa_cons (pe_ix (ix_K K) (pv 7) pe_int (fun _ _ => rfl)) pa_nil))) (pa_cons pe_bl pa_nil))) (by intro _; rfl))) (pw_or1 (pt_not (pt_truK K (C8.pe_c c_law_says hr (by decide) (by rfl) (pa_cons (C8.pe_c c_same hr (by decide) (by rfl) (pa_cons (pe_ix (ix_K K) (pv 5) pe_int (fun _ _ => rfl)) (pa_cons (pe_ix (ix_K K) (pv 5) pe_int (fun _ _ => rfl)) pa_nil))) (pa_cons pe_bl pa_nil))) (by intro _; rfl)))))) (pss_one (ps_ret pe_bl)) pss_nil)
  (pss_cons (ps_if (pt_not (pt_truK K (C8.pe_c c_law_says hr (by decide) (by rfl) (pa_cons (C8.pe_c c_same hr (by decide) (by rfl) (pa_cons (pe_ix (ix_K K) (pv 5) (pv 8) (fun _ _ => rfl)) (pa_cons (pe_ix (ix_K K) (pv 7) (pv 8) (fun _ _ => rfl)) pa_nil))) (pa_cons pe_bl pa_nil))) (by intro _; rfl))) (pss_one (ps_ret pe_bl)) pss_nil)
  (C8.pss_cut (ps_if (pt_cmpR op_gtU (pe_callB (call_lenK K) (by rfl) T.n_len PySem.boot_len (pa_cons (pv 2) pa_nil)) pe_int (nomark _)) (pss_cons (ps_set (i := 10) sc_law.nd rfl (.inl rfl) (pe_op (op_addK K) pe_int (C8.pe_c c_law_place hr (by decide) (by rfl) (pa_cons (pv 1) (pa_cons (pe_op op_subU (pe_callB (call_lenK K) (by rfl) T.n_len PySem.boot_len (pa_cons (pv 2) pa_nil)) pe_int) pa_nil)))))
  (C8.pss_cut (ps_if (pt_cmpR op_gtU (pe_callB (call_lenK K) (by rfl) T.n_len PySem.boot_len (pa_cons (pv 2) pa_nil)) pe_int (nomark _)) (pss_one (ps_set (i := 10) sc_law.nd rfl (.inl rfl) (pe_op op_subU (pe_callB (call_lenK K) (by rfl) T.n_len PySem.boot_len (pa_cons (pv 2) pa_nil)) pe_int))) pss_nil)
  (pss_cons (ps_set (i := 11) sc_law.nd rfl (.inl rfl) (pe_op (op_addK K) (pe_slice (sl_K K) (pv 2) po_none (po_some (C8.pe_c c_law_end hr (by decide) (by rfl) (pa_cons (pv 2) (pa_cons (pv 10) pa_nil))))) (pe_slice (sl_K K) (pv 2) (po_some (pv 10)) po_none)))
  (pss_cons (ps_set (i := 12) sc_law.nd rfl (.inl rfl) (pe_ix (ix_K K) (C8.pe_c c_law_made hr (by decide) (by rfl) (pa_cons (pv 11) pa_nil)) pe_int (fun _ _ => rfl)))
  (pss_cons (ps_set (i := 13) sc_law.nd rfl (.inl rfl) (C8.pe_c c_law_shared hr (by decide) (by rfl) (pa_cons (pv 11) pa_nil)))
  (pss_cons (ps_if (PW.pt (pw_or (pt_not (pt_truK K (C8.pe_c c_law_says hr (by decide) (by rfl) (pa_cons (C8.pe_c c_same hr (by decide) (by rfl) (pa_cons (pv 12) (pa_cons (pv 13) pa_nil))) (pa_cons pe_bl pa_nil))) (by intro _; rfl))) (pw_or1 (pt_not (pt_truK K (C8.pe_c c_law_says hr (by decide) (by rfl) (pa_cons (C8.pe_c c_same hr (by decide) (by rfl) (pa_cons (pv 13) (pa_cons (pv 12) pa_nil))) (pa_cons pe_bl pa_nil))) (by intro _; rfl)))))) (pss_one (ps_ret pe_bl)) pss_nil)
  (pss_cons (ps_if (PW.pt (pw_or (pt_not (pt_truK K (C8.pe_c c_law_says hr (by decide) (by rfl) (pa_cons (C8.pe_c c_same hr (by decide) (by rfl) (pa_cons (pe_ix (ix_K K) (pv 5) pe_int (fun _ _ => rfl)) (pa_cons (pv 13) pa_nil))) (pa_cons pe_bl pa_nil))) (by intro _; rfl))) (pw_or1 (pt_not (pt_truK K (C8.pe_c c_law_says hr (by decide) (by rfl) (pa_cons (C8.pe_c c_same hr (by decide) (by rfl) (pa_cons (pv 13) (pa_cons (pe_ix (ix_K K) (pv 5) pe_int (fun _ _ => rfl)) pa_nil))) (pa_cons pe_bl pa_nil))) (by intro _; rfl)))))) (pss_one (ps_ret pe_bl)) pss_nil)
  (pss_cons (ps_if (pt_not (pt_truK K (C8.pe_c c_law_is_number hr (by decide) (by rfl) (pa_cons (C8.pe_c c_height hr (by decide) (by rfl) (pa_cons (pv 13) pa_nil)) (pa_cons (pe_op (op_addK K) (pe_callB (call_maxK (K := K) rfl) (by rfl) T.n_max (by decide +kernel) (pa_cons (pe_lc (own := [("row", 17)]) rfl sc_law.nd (pi_listK K (pv 11)) (blkOk_by (own := [("row", 17)]) (N := ["script", "reel", "first", "second", "turn", "one", "two", "again", "at", "due", "inner", "third", "tree", "shared", "left", "right", "rows", "row"]) (sc := C8.fnScope s_law) (by decide +kernel)) (fun _ _ _ _ _ => (pg_name (i := 17) sc_law.nd rfl (.inl rfl))) (fun _ _ _ _ _ => pts_nil) (fun _ _ _ _ _ => (pe_ix (ix_K K) (pv 17) pe_int (fun _ _ => rfl)))) pa_nil)) pe_int) pa_nil))) (by intro _; rfl))) (pss_one (ps_ret pe_bl)) pss_nil)
  (pss_one (ps_if (pt_not (pt_truK K (C8.pe_c c_law_is_number hr (by decide) (by rfl) (pa_cons (C8.pe_c c_count_nodes hr (by decide) (by rfl) (pa_cons (pv 13) pa_nil)) (pa_cons (pe_callB (call_lenK K) (by rfl) T.n_len PySem.boot_len (pa_cons (pv 11) pa_nil)) pa_nil))) (by intro _; rfl))) (pss_one (ps_ret pe_bl)) pss_nil)))))))))) pss_nil)
  (C8.pss_cut (ps_if (pt_cmpR op_ltU (pe_callB (call_lenK K) (by rfl) T.n_len PySem.boot_len (pa_cons (pv 2) pa_nil)) pe_int (nomark _)) (pss_cons (ps_set (i := 14) sc_law.nd rfl (.inl rfl) (pe_mkIK (W := W_Node6 K aNode) c_Node_init6 hr (by decide) (by rfl) (pa_cons pe_str (pa_cons pe_str pa_nil)) (pk_cons pe_int (pk_cons pe_int (pk_cons pe_int (pk_cons pe_int (pk_cons pe_int (pk_cons (pe_tup (pa_cons (pe_ix (ix_K K) (pv 5) pe_int (fun _ _ => rfl)) (pa_cons (pe_ix (ix_K K) (pv 5) pe_int (fun _ _ => rfl)) (pa_cons (pe_ix (ix_K K) (pv 5) pe_int (fun _ _ => rfl)) pa_nil)))) pk_nil)))))) mk_Node6))
  (pss_cons (ps_set (i := 15) sc_law.nd rfl (.inl rfl) (pe_mkIK (W := W_Node6 K aNode) c_Node_init6 hr (by decide) (by rfl) (pa_cons pe_str (pa_cons pe_str pa_nil)) (pk_cons pe_int (pk_cons pe_int (pk_cons pe_int (pk_cons pe_int (pk_cons pe_int (pk_cons (pe_tup (pa_cons (pe_ix (ix_K K) (pv 7) pe_int (fun _ _ => rfl)) (pa_cons (pe_ix (ix_K K) (pv 6) pe_int (fun _ _ => rfl)) (pa_cons (pe_ix (ix_K K) (pv 7) pe_int (fun _ _ => rfl)) pa_nil)))) pk_nil)))))) mk_Node6))
  (pss_one (ps_if (PW.pt (pw_or (pt_not (pt_truK K (C8.pe_c c_law_says hr (by decide) (by rfl) (pa_cons (C8.pe_c c_same hr (by decide) (by rfl) (pa_cons (pv 14) (pa_cons (pv 15) pa_nil))) (pa_cons (pv 9) pa_nil))) (by intro _; rfl))) (pw_or1 (pt_not (pt_truK K (C8.pe_c c_law_says hr (by decide) (by rfl) (pa_cons (C8.pe_c c_same hr (by decide) (by rfl) (pa_cons (pv 15) (pa_cons (pv 14) pa_nil))) (pa_cons (pv 9) pa_nil))) (by intro _; rfl)))))) (pss_one (ps_ret pe_bl)) pss_nil)))) pss_nil)
  (pss_cons (ps_for PassesOwn.never rfl (pi_listK K (pe_lst (pa_cons (pe_tup (pa_cons (pv 5) (pa_cons (pv 2) pa_nil))) (pa_cons (pe_tup (pa_cons (pv 6) (pa_cons (pv 3) pa_nil))) pa_nil)))) (pg_tup rfl (pgs_cons (pg_name (i := 12) sc_law.nd rfl (.inl rfl)) (pgs_cons (pg_name (i := 16) sc_law.nd rfl (.inl rfl)) pgs_nil))) (pss_one (ps_if (PW.pt (pw_or (pt_not (pt_truK K (C8.pe_c c_law_sized hr (by decide) (by rfl) (pa_cons (pv 16) (pa_cons (pv 12) (pa_cons pe_int pa_nil)))) (by intro _; rfl))) (pw_or1 (pt_cmpR (op_neK K (hu64 hr)) (C8.pe_c c_law_told hr (by decide) (by rfl) (pa_cons (pe_ix (ix_K K) (pv 12) pe_int (fun _ _ => rfl)) (pa_cons (pe_op (op_addK K) (pe_callB (call_lenK K) (by rfl) T.n_len PySem.boot_len (pa_cons (pv 16) pa_nil)) pe_int) pa_nil))) (pv 16) (nomark _))))) (pss_one (ps_ret pe_bl)) pss_nil)))
  (pss_one (ps_ret (pe_and (C8.pe_c c_law_sized hr (by decide) (by rfl) (pa_cons (pv 2) (pa_cons (pv 5) (pa_cons (pv 8) pa_nil)))) (pe_one (C8.pe_c c_law_sized hr (by decide) (by rfl) (pa_cons (pv 2) (pa_cons (pv 7) (pa_cons pe_int pa_nil))))))))))))))))))))))), ?_⟩
    show (_ : TS) _ [some (.ref a), none, none, none, none, none, none, none, none, none, none, none, none, none, none, none, none, none] H
    walk_at "rd"
    refine use_reel hS hl fun r H1 f1 s1 r1 => ?_
    walk_at "rd"
    refine use_tree r1 fun p rows1 H2 s2 r2 g2 hrows1 hg1 => ?_
    have hpr : p ≠ r := (r1.ne g2).symm
    obtain ⟨vs, hp, hrw⟩ := hrows1
    have hrows1 : RowsIn H2 p rows1 := ⟨vs, hp, hrw⟩
    walk_at "rd"
    refine newO_gen fun q0 H3 g3 s3 h3 => ?_
    have r3 := r2.same s3
    have hq0r : q0 ≠ r := (r2.ne g3).symm
    walk_at "rd"
    refine newO_gen fun ls H4 g4 s4 h4 => ?_
    have r4 := r3.same s4
    walk_at "rd"
    refine use_pickI (lo := 0) (hi := 2) r4 h4 (r3.ne g4).symm (by decide) (by repeat (first | exact .nil | refine .cons (by omega) ?_)) fun z H5 z0 z1 s5 r5 => ?_
    walk_at "rd"
    refine loopR_by (fun i σ' H' => ∃ (q : Addr) (rows2 : List Rw) (o4 : Option V), σ' = [some (.ref a), some (.ref r), some (.ref p), some (.ref q), o4, none, none, none, none, none, none, none, none, none, none, none, none, none] ∧ Reel H' r ∧ q ≠ r ∧ RowsIn H' p rows1 ∧ RowsIn H' q rows2 ∧ Grow (5000 + i) rows2) ?_ ?_ ?_
    · exact ⟨q0, rows1, none, rfl, r5, hq0r, ((hrows1.sm s3).sm s4).sl s5 hpr, ((show RowsIn H3 q0 rows1 from ⟨vs, h3, hrw.ts (TpS.same s3)⟩).sm s4).sl s5 hq0r, hg1⟩
    · rintro i σ' H6 hi ⟨q, rows2, o4, rfl, r6, hqr, hw1, hw2, hg2⟩
      walk_at "rd"
      refine use_change r6 hqr hw2 hg2 (by omega) fun q' rows' H7 s7 r7 g7 hw' hg' => ?_
      walk_at "rd"
      exact ⟨q', rows', _, rfl, r7, (r6.ne g7).symm, hw1.sl s7 hpr, hw', hg'⟩
    · clear hS s1 s2 s3 s4 s5 r1 r2 r3 r4 r5 f1 g2 g3 g4 h3 h4 hq0r hp hrw hrows1
      rintro σ' H6 ⟨q, rows2, o4, rfl, r6, hqr, hw1, hw2, hg2⟩
      have hg2 := hg2.le (show _ ≤ 6000 by omega)
      obtain ⟨d, k, rfl, hk, ok1, od, of⟩ := hg1.tr
      obtain ⟨d', k', rfl, hk', ok2, od', of'⟩ := hg2.tr
      have hT1 := hg1.tre
      walk_at "rd"
      refine use_made hw1 (by rw [treeR_len]; omega) fun m1 us1 H7 s7 g7 h7 hL1 => ?_
      walk_at "rd"
      refine use_made (hw2.sm s7) (by rw [treeR_len]; omega) fun m2 us2 H8 s8 g8 h8 hL2 => ?_
      have s68 : Same H6 H8 := Same.trans s7 s8
      walk_at "rd"
      refine use_made (hw1.sm s68) (by rw [treeR_len]; omega) fun m3 us3 H9 s9 g9 h9 hL3 => ?_
      have s69 : Same H6 H9 := Same.trans s68 s9
      obtain ⟨vs1, hp1, hrw1⟩ := hw1
      obtain ⟨vs2, hp2, hrw2⟩ := hw2
      have B9 : B38 K aNode r p q m1 m2 m3 vs1 vs2 us1 us2 us3 d k d' k' H9 :=
        ⟨s69 _ _ hp1, hrw1.ts (TpS.same s69), s69 _ _ hp2, hrw2.ts (TpS.same s69), s9 _ _ (s8 _ _ h7), hL1.kp (KpS.same (Same.trans s8 s9)), s9 _ _ h8, hL2.kp (KpS.same s9), h9, hL3, hpr, hqr, (r6.ne g7).symm, ((r6.same s7).ne g8).symm, ((r6.same s68).ne g9).symm⟩
      have r9 := r6.same s69
      have hvl := Paired.len hrw1
      have hvl2 := Paired.len hrw2
      rw [treeR_len] at hvl hvl2
      clear hp1 hrw1 hp2 hrw2 s7 s8 s9 s68 s69 h7 h8 h9 hL1 hL2 hL3 g7 g8 g9 r6
      have hp9 := B9.hp
      walk_at "rd"
      refine use_place r9 (by omega) fun ai H10 a0 a1 s10 r10 => ?_
      obtain ⟨n, rfl⟩ := Int.eq_ofNat_of_zero_le a0
      have hn : n < (treeR d k).length := by rw [treeR_len]; omega
      have B10 := B9.sl s10
      clear B9 r9 s10 hp9
      walk_at "rd"
      refine eq_rows ⟨vs1, B10.hp, B10.hr⟩ ⟨vs2, B10.hq, B10.hw⟩ ok1 ok2 ?_
      generalize hdue : decide (treeR d k = treeR d' k') = due
      have hdue' : decide (treeR d' k' = treeR d k) = due := by rw [dec_comm]; exact hdue
      obtain ⟨v1, hv1, hN1⟩ := B10.l1.root
      obtain ⟨v2, hv2, hN2⟩ := B10.l2.root
      obtain ⟨v3, hv3, hN3⟩ := B10.l3.root
      have b1 := B10.h1
      have b2 := B10.h2
      have b3 := B10.h3
      walk_at "rd"
      refine use_same hN1 hN2 ⟨od, of⟩ ⟨od', of'⟩ (by omega) fun H11 s11 => ?_
      walk_at "rd"
      refine use_says hdue ?_
      walk_at "rd"
      refine use_same (hN2.kp (KpS.same s11)) (hN1.kp (KpS.same s11)) ⟨od', of'⟩ ⟨od, of⟩ (by omega) fun H12 s12 => ?_
      have s012 : Same H10 H12 := Same.trans s11 s12
      walk_at "rd"
      refine use_says hdue' ?_
      walk_at "rd"
      refine use_same (hN1.kp (KpS.same s012)) (hN3.kp (KpS.same s012)) ⟨od, of⟩ ⟨od, of⟩ (by omega) fun H13 s13 => ?_
      walk_at "rd"
      refine use_says (decide_eq_true rfl) ?_
      have s013 : Same H10 H13 := Same.trans s012 s13
      walk_at "rd"
      refine use_same (hN1.kp (KpS.same s013)) (hN1.kp (KpS.same s013)) ⟨od, of⟩ ⟨od, of⟩ (by omega) fun H14 s14 => ?_
      walk_at "rd"
      refine use_says (decide_eq_true rfl) ?_
      have s014 : Same H10 H14 := Same.trans s013 s14
      obtain ⟨ln, dn, kn, tn, ln0, e1, e2, e3, e4, e5, e6⟩ := hT1.part hn
      obtain ⟨w1, hw1, hM1⟩ := B10.l1.node hn e4
      obtain ⟨w3, hw3, hM3⟩ := B10.l3.node hn e4
      have hat1 : atI us1 (n : Int) = some w1 := atI_nat hw1
      have hat3 : atI us3 (n : Int) = some w3 := atI_nat hw3
      have okn : DtOk dn ∧ FoOk kn := by
        have hm : ∀ x ∈ (⟨ln, dn⟩ :: (rowsF (ln + 1) kn ++ tn) : List Rw), DtOk x.d := fun x hx => ok1 x (List.mem_of_mem_drop (e2 ▸ hx))
        exact ⟨hm ⟨ln, dn⟩ (List.mem_cons_self ..), foOk_of fun x hx => hm x (List.mem_cons_of_mem _ (List.mem_append.mpr (.inl hx)))⟩
      have hkn : kn.cnt ≤ 1000000 := by
        have h1 := congrArg List.length e2
        rw [List.length_drop, List.length_cons, List.length_append, rowsF_len, treeR_len] at h1
        omega
      walk_at "rd"
      refine use_same (hM1.kp (KpS.same s014)) (hM3.kp (KpS.same s014)) okn okn hkn fun H15 s15 => ?_
      walk_at "rd"
      refine use_says (decide_eq_true rfl) ?_
      have s015 : Same H10 H15 := Same.trans s014 s15
      have B15 := B10.sm s015
      have r15 := r10.same s015
      walk_at "rd"
      clear B10 r10 hN1 hN2 hN3 hM1 hM3 b1 b2 b3 s11 s12 s13 s14 s15 s012 s013 s014 s015
      refine rCut (fun σ' H' => ∃ (o10 o11 o12 o13 o17 : Option V), σ' = [some (.ref a), some (.ref r), some (.ref p), some (.ref q), o4, some (.ref m1), some (.ref m2), some (.ref m3), some (.int n), some (.bl due), o10, o11, o12, o13, none, none, none, o17] ∧ B38 K aNode r p q m1 m2 m3 vs1 vs2 us1 us2 us3 d k d' k' H') ?_ ?_
      · have hp15 := B15.hp
        walk_at "rd"
        refine ifD (fun hc => ?_) (fun hc => ?_)
        · walk_at "rd"
          refine use_place r15 (by omega) fun bi H16 bb0 bb1 s16 r16 => ?_
          have B16 := B15.sl s16
          have hp16 := B16.hp
          walk_at "rd"
          refine rCut (fun σ' H' => ∃ b : Nat, σ' = [some (.ref a), some (.ref r), some (.ref p), some (.ref q), o4, some (.ref m1), some (.ref m2), some (.ref m3), some (.int n), some (.bl due), some (.int b), none, none, none, none, none, none, none] ∧ H' = H16 ∧ 0 < b ∧ b < k.cnt + 1) ?_ ?_
          · walk_at "rd"
            refine ifD (fun hc2 => ?_) (fun hc2 => ?_)
            · walk_at "rd"
              exact ⟨vs1.length - 1, by rw [show ((vs1.length - 1 : Nat) : Int) = (vs1.length : Int) - 1 by omega]; rfl, rfl, by omega, by omega⟩
            · walk_at "rd"
              obtain ⟨c, rfl⟩ := Int.eq_ofNat_of_zero_le bb0
              exact ⟨1 + c, by rw [show ((1 + c : Nat) : Int) = 1 + (c : Int) by omega]; rfl, rfl, by omega, by omega⟩
          · rintro σ' H' ⟨b, rfl, rfl, hb0, hb1⟩
            have hbl : b < (treeR d k).length := by rw [treeR_len]; omega
            obtain ⟨A, t, l, db, kb, hP⟩ := hT1.prt hbl
            have hend := hP.endN
            have hplen := hP.len
            rw [treeR_len] at hplen
            walk_at "rd"
            refine use_end ⟨vs1, B16.hp, B16.hr⟩ (by omega) (by rw [Int.toNat_natCast]; exact hbl) (by rw [treeR_len]; omega) ?_
            rw [Int.toNat_natCast, hend]
            walk_at "rd"
            refine newO_gen fun t1 H17 g17 s17 h17 => ?_
            rw [cutV_to (n := b + 1 + kb.cnt) (by rfl)] at h17
            have hp17 := s17 _ _ B16.hp
            walk_at "rd"
            refine newO_gen fun t2 H18 g18 s18 h18 => ?_
            rw [cutV_from (n := b) (by rfl)] at h18
            refine add_lst (s18 _ _ h17) h18 (sz_le (by rw [List.length_take, List.length_drop]; omega)) ?_
            refine newO_gen fun t3 H19 g19 s19 h19 => ?_
            have s1619 : Same H' H19 := Same.trans (Same.trans s17 s18) s19
            have B19 := B16.sm s1619
            obtain ⟨d3, k3, e9⟩ := hP.dup hT1 hb0
            replace e9 : (treeR d k).take (b + 1 + kb.cnt) ++ (treeR d k).drop b = treeR d3 k3 := e9
            have hr3 : Rows H19 (vs1.take (b + 1 + kb.cnt) ++ vs1.drop b) (treeR d3 k3) := by
              rw [← e9]
              exact Paired.app (Paired.tk _ B19.hr) (Paired.dr _ B19.hr)
            have ok3 : ∀ x ∈ treeR d3 k3, DtOk x.d := fun x hx => by
              rw [← e9] at hx
              rcases List.mem_append.mp hx with hx | hx
              · exact ok1 x (List.mem_of_mem_take hx)
              · exact ok1 x (List.mem_of_mem_drop hx)
            have hk3 : k3.cnt + 1 = (b + 1 + kb.cnt) + (k.cnt + 1 - b) := by
              rw [← treeR_len d3 k3, ← e9, List.length_append, List.length_take, List.length_drop, treeR_len]
              omega
            have hne : ¬ treeR d k = treeR d3 k3 := fun h => by
              have := congrArg List.length h
              rw [treeR_len, treeR_len] at this
              omega
            have o3 : DtOk d3 ∧ FoOk k3 := ⟨ok3 ⟨0, d3⟩ (List.mem_cons_self ..), foOk_of fun x hx => ok3 x (List.mem_cons_of_mem _ hx)⟩
            generalize hvs3 : vs1.take (b + 1 + kb.cnt) ++ vs1.drop b = vs3 at h19 hr3
            have hvl3 := Paired.len hr3
            rw [treeR_len] at hvl3
            have hw3 : RowsIn H19 t3 (treeR d3 k3) := ⟨vs3, h19, hr3⟩
            walk_at "rd"
            refine use_made hw3 (by rw [treeR_len]; omega) fun m4 us4 H20 s20 g20 h20 hL4 => ?_
            obtain ⟨v4, hv4, hN4⟩ := hL4.root
            walk_at "rd"
            refine use_shared (hw3.sm s20) (by omega) fun v5 H21 s21 hN5 => ?_
            have s1921 : Same H19 H21 := Same.trans s20 s21
            have B21 := B19.sm s1921
            have hN4 := hN4.kp (KpS.same s21)
            obtain ⟨v1, hv1, hN1⟩ := B21.l1.root
            walk_at "rd"
            refine use_same hN4 hN5 o3 o3 (by omega) fun H22 s22 => ?_
            walk_at "rd"
            refine use_says (decide_eq_true rfl) ?_
            walk_at "rd"
            refine use_same (hN5.kp (KpS.same s22)) (hN4.kp (KpS.same s22)) o3 o3 (by omega) fun H23 s23 => ?_
            have s2123 : Same H21 H23 := Same.trans s22 s23
            walk_at "rd"
            refine use_says (decide_eq_true rfl) ?_
            have b1 := (B21.sm s2123).h1
            walk_at "rd"
            refine use_same (hN1.kp (KpS.same s2123)) (hN5.kp (KpS.same s2123)) ⟨od, of⟩ o3 (by omega) fun H24 s24 => ?_
            have s2124 : Same H21 H24 := Same.trans s2123 s24
            walk_at "rd"
            refine use_says (decide_eq_false hne) ?_
            have b1 := (B21.sm s2124).h1
            walk_at "rd"
            refine use_same (hN5.kp (KpS.same s2124)) (hN1.kp (KpS.same s2124)) o3 ⟨od, of⟩ (by omega) fun H25 s25 => ?_
            have s2125 : Same H21 H25 := Same.trans s2124 s25
            walk_at "rd"
            refine use_says (decide_eq_false fun h => hne h.symm) ?_
            walk_at "rd"
            refine use_height (hN5.kp (KpS.same s2125)) (by omega) fun H26 s26 => ?_
            have s1926 : Same H19 H26 := Same.trans s1921 (Same.trans s2125 s26)
            have h26 := s1926 _ _ h19
            have hr26 := hr3.ts (TpS.same s1926)
            walk_at "rd"
            refine compL_pure h26 (fun acc _ => acc = (((treeR d3 k3).map (·.lv)).take acc.length).map V.int) (fun _ _ => rfl) ?_ ?_
            · intro acc x Ha D c hx pa'
              obtain ⟨r', hr1, px, rfl, hpx⟩ := Paired.at hr26 hx
              replace hpx : Ha px = some (.tup [.int r'.lv, .str r'.d.k, .str r'.d.s, .int r'.d.st, .int r'.d.ld, .int r'.d.wd, .int r'.d.lk, .int r'.d.al, .int r'.d.pp]) := c.since _ _ hpx
              walk_at "rd"
              refine pD_of c (by omega) (Same.refl _) fun Hb sb => ?_
              have hr2 : ((treeR d3 k3).map (·.lv))[acc.length]? = some r'.lv := by rw [List.getElem?_map, hr1]; rfl
              rw [List.length_append, show acc.length + [V.int r'.lv].length = acc.length + 1 from rfl, List.take_succ, hr2, List.map_append, ← pa']
              rfl
            · intro acc H27 D hal pa' s27 h27 f27
              rw [hal, hvl3, List.take_of_length_le (by rw [List.length_map, treeR_len]; exact Nat.le_refl _)] at pa'
              rw [pa'] at h27
              obtain ⟨mx1, mx2⟩ := part_max 0 d3 k3
              replace h27 : H27 D = some (.lst (((⟨0, d3⟩ :: rowsF (0 + 1) k3 : List Rw).map (·.lv)).map V.int)) := h27
              walk_at "rd"
              refine use_isnum (by omega) ?_
              have h27t := s27 _ _ h26
              walk_at "rd"
              refine use_count_nodes (hN5.kp (KpS.same (Same.trans s2125 (Same.trans s26 s27)))) (by omega) fun H28 s28 => ?_
              have h28t := s28 _ _ h27t
              walk_at "rd"
              refine use_isnum (by omega) ?_
              walk_at "rd"
              exact ⟨_, _, _, _, _, rfl, B19.sm (Same.trans (Same.trans s1926 s27) s28)⟩
        · walk_at "rd"
          exact ⟨_, _, _, _, _, rfl, B15⟩
      · clear B15 r15
        rintro σ' H16 ⟨o10, o11, o12, o13, o17, rfl, B16⟩
        walk_at "rd"
        refine rCut (fun σ' H' => ∃ (o10 o11 o12 o13 o14 o15 o17 : Option V), σ' = [some (.ref a), some (.ref r), some (.ref p), some (.ref q), o4, some (.ref m1), some (.ref m2), some (.ref m3), some (.int n), some (.bl due), o10, o11, o12, o13, o14, o15, none, o17] ∧ B38 K aNode r p q m1 m2 m3 vs1 vs2 us1 us2 us3 d k d' k' H') ?_ ?_
        · have hp16 := B16.hp
          walk_at "rd"
          refine ifD (fun hc => ?_) (fun hc => ?_)
          · obtain ⟨v1, hv1, hN1⟩ := B16.l1.root
            obtain ⟨v2, hv2, hN2⟩ := B16.l2.root
            obtain ⟨v3, hv3, hN3⟩ := B16.l3.root
            have b1 := B16.h1
            have b2 := B16.h2
            have b3 := B16.h3
            walk_at "rd"
            refine newO_gen fun q1 H17 g17 s17 h17 => ?_
            walk_at "rd"
            refine ⟨topD, q1, _, rfl, rfl, rfl, SqT.of h17, ?_⟩
            refine newI_gen fun pl dl H18 g18 s18 h18 => ?_
            have s1618 : Same H16 H18 := Same.trans s17 s18
            have hLf := node_thr h18 (s18 _ _ h17) (hN1.kp (KpS.same s1618)) (hN1.kp (KpS.same s1618)) (hN1.kp (KpS.same s1618))
            have c2 := s1618 _ _ b2
            have c3 := s1618 _ _ b3
            walk_at "rd"
            refine newO_gen fun q2 H19 g19 s19 h19 => ?_
            walk_at "rd"
            refine ⟨topD, q2, _, rfl, rfl, rfl, SqT.of h19, ?_⟩
            refine newI_gen fun pr dr H20 g20 s20 h20 => ?_
            have s1820 : Same H18 H20 := Same.trans s19 s20
            have s1620 : Same H16 H20 := Same.trans s1618 s1820
            have hRt := node_thr h20 (s20 _ _ h19) (hN3.kp (KpS.same s1620)) (hN2.kp (KpS.same s1620)) (hN3.kp (KpS.same s1620))
            have hLf := hLf.kp (KpS.same s1820)
            have cc : ∀ (a b c : Dt) (x y z : Fo), (thr a x b y c z).cnt = 1 + x.cnt + (1 + y.cnt + (1 + z.cnt + 0)) := fun _ _ _ _ _ _ => rfl
            walk_at "rd"
            refine use_same hLf hRt ⟨topD_ok, od, of, od, of, od, of, trivial⟩ ⟨topD_ok, od, of, od', of', od, of, trivial⟩ (by rw [cc]; omega) fun H21 s21 => ?_
            walk_at "rd"
            refine use_says (by rw [thr_dec]; exact hdue) ?_
            walk_at "rd"
            refine use_same (hRt.kp (KpS.same s21)) (hLf.kp (KpS.same s21)) ⟨topD_ok, od, of, od', of', od, of, trivial⟩ ⟨topD_ok, od, of, od, of, od, of, trivial⟩ (by rw [cc]; omega) fun H22 s22 => ?_
            walk_at "rd"
            refine use_says (by rw [dec_comm, thr_dec]; exact hdue) ?_
            walk_at "rd"
            exact ⟨_, _, _, _, _, _, _, rfl, B16.sm (Same.trans s1620 (Same.trans s21 s22))⟩
          · walk_at "rd"
            exact ⟨_, _, _, _, _, _, _, rfl, B16⟩
        · clear B16
          rintro σ' H17 ⟨o10, o11, o12, o13, o14, o15, o17, rfl, B17⟩
          walk_at "rd"
          refine newO_gen fun ta H18 g18 s18 h18 => ?_
          walk_at "rd"
          refine newO_gen fun tb H19 g19 s19 h19 => ?_
          walk_at "rd"
          refine newO_gen fun tl H20 g20 s20 h20 => ?_
          have B20 := B17.sm (Same.trans (Same.trans s18 s19) s20)
          have h20a := s20 _ _ (s19 _ _ h18)
          have h20b := s20 _ _ h19
          clear B17 s18 s19 s20 g18 g19 g20 h18 h19
          walk_at "rd"
          refine loopL_by (xs := [.ref ta, .ref tb]) (fun i σ' H' => ∃ (o10 o11 o12 o13 o14 o15 o16 o17 : Option V), σ' = [some (.ref a), some (.ref r), some (.ref p), some (.ref q), o4, some (.ref m1), some (.ref m2), some (.ref m3), some (.int n), some (.bl due), o10, o11, o12, o13, o14, o15, o16, o17] ∧ Same H20 H') ?_ ?_ ?_ ?_
          · exact ⟨_, _, _, _, _, _, _, _, rfl, Same.refl _⟩
          · rintro i σ' H' hi ⟨_, _, _, _, _, _, _, _, rfl, s'⟩
            exact s' _ _ h20
          · rintro i x σ' H21 hx ⟨x10, x11, x12, x13, x14, x15, x16, x17, rfl, s21⟩
            have B21 := B20.sm s21
            have h21a := s21 _ _ h20a
            have h21b := s21 _ _ h20b
            match i, hx with
            | 0, hx =>
              cases hx
              obtain ⟨v1, hv1, hN1⟩ := B21.l1.root
              have b1 := B21.h1
              have hp21 := B21.hp
              walk_at "rd"
              refine use_sized ⟨vs1, B21.hp, B21.hr⟩ B21.h1 B21.l1 hT1 (by decide) (by rw [treeR_len]; exact Nat.succ_pos _) (by rw [treeR_len]; omega) fun H22 s22 => ?_
              have hp22 := s22 _ _ hp21
              have b12 := s22 _ _ b1
              walk_at "rd"
              refine use_told (hN1.kp (KpS.same s22)) (by omega) (by omega) fun tp H23 s23 g23 ht => ?_
              walk_at "rd"
              refine ne_rows ht ⟨vs1, s23 _ _ hp22, B21.hr.ts (TpS.same (Same.trans s22 s23))⟩ ok1 ok1 ?_
              rw [show decide ((⟨0, d⟩ :: rowsF 1 k : List Rw) = treeR d k) = true from decide_eq_true rfl]
              walk_at "rd"
              exact ⟨_, _, _, _, _, _, _, _, rfl, Same.trans s21 (Same.trans s22 s23)⟩
            | 1, hx =>
              cases hx
              obtain ⟨v1, hv1, hN1⟩ := B21.l2.root
              have b1 := B21.h2
              have hp21 := B21.hq
              walk_at "rd"
              refine use_sized ⟨vs2, B21.hq, B21.hw⟩ B21.h2 B21.l2 hg2.tre (by decide) (by rw [treeR_len]; exact Nat.succ_pos _) (by rw [treeR_len]; omega) fun H22 s22 => ?_
              have hp22 := s22 _ _ hp21
              have b12 := s22 _ _ b1
              walk_at "rd"
              refine use_told (hN1.kp (KpS.same s22)) (by omega) (by omega) fun tp H23 s23 g23 ht => ?_
              walk_at "rd"
              refine ne_rows ht ⟨vs2, s23 _ _ hp22, B21.hw.ts (TpS.same (Same.trans s22 s23))⟩ ok2 ok2 ?_
              rw [show decide ((⟨0, d'⟩ :: rowsF 1 k' : List Rw) = treeR d' k') = true from decide_eq_true rfl]
              walk_at "rd"
              exact ⟨_, _, _, _, _, _, _, _, rfl, Same.trans s21 (Same.trans s22 s23)⟩
            | (j + 2), hx => cases hx
          · rintro σ' H21 ⟨x10, x11, x12, x13, x14, x15, x16, x17, rfl, s21⟩
            have B21 := B20.sm s21
            walk_at "rd"
            refine use_sized ⟨vs1, B21.hp, B21.hr⟩ B21.h1 B21.l1 hT1 (by omega) (by rw [Int.toNat_natCast]; exact hn) (by rw [treeR_len]; omega) fun H22 s22 => ?_
            have B22 := B21.sm s22
            walk_at "rd"
            refine use_sized ⟨vs1, B22.hp, B22.hr⟩ B22.h3 B22.l3 hT1 (by decide) (by rw [treeR_len]; exact Nat.succ_pos _) (by rw [treeR_len]; omega) fun H23 s23 => ?_
            exact kk _
end
end Z
namespace Z
open PySem PySem.Spec PyProof.Rows L2
theorem all_mk {w : World} {K : PySem.W.Frag} {h : Heap} {mg : Str → Option Value} {fa : Addr} (X : K.In h) (G : h.Ns mainGlobals mg) (hfa : mg "law" = some (.ref fa))
    {f_attributes_of : Addr} {od_attributes_of an_attributes_of : Option Addr} {sl_attributes_of : Array (Option Value)} {oc_attributes_of kV_attributes_of dc_attributes_of pm_attributes_of cd_attributes_of ct_attributes_of : Value}
    {f_same : Addr} {od_same an_same : Option Addr} {sl_same : Array (Option Value)} {oc_same kV_same dc_same pm_same cd_same ct_same : Value}
    {f_count_nodes : Addr} {od_count_nodes an_count_nodes : Option Addr} {sl_count_nodes : Array (Option Value)} {oc_count_nodes kV_count_nodes dc_count_nodes pm_count_nodes cd_count_nodes ct_count_nodes : Value}
    {f_height : Addr} {od_height an_height : Option Addr} {sl_height : Array (Option Value)} {oc_height kV_height dc_height pm_height cd_height ct_height : Value}
    {f_law_reel : Addr} {od_law_reel an_law_reel : Option Addr} {sl_law_reel : Array (Option Value)} {oc_law_reel kV_law_reel dc_law_reel pm_law_reel cd_law_reel ct_law_reel : Value}
    {f_law_draw : Addr} {od_law_draw an_law_draw : Option Addr} {sl_law_draw : Array (Option Value)} {oc_law_draw kV_law_draw dc_law_draw pm_law_draw cd_law_draw ct_law_draw : Value}
    {f_law_pick : Addr} {od_law_pick an_law_pick : Option Addr} {sl_law_pick : Array (Option Value)} {oc_law_pick kV_law_pick dc_law_pick pm_law_pick cd_law_pick ct_law_pick : Value}
    {f_law_word : Addr} {od_law_word an_law_word : Option Addr} {sl_law_word : Array (Option Value)} {oc_law_word kV_law_word dc_law_word pm_law_word cd_law_word ct_law_word : Value}
    {f_law_quoted : Addr} {od_law_quoted an_law_quoted : Option Addr} {sl_law_quoted : Array (Option Value)} {oc_law_quoted kV_law_quoted dc_law_quoted pm_law_quoted cd_law_quoted ct_law_quoted : Value}
    {f_law_literal : Addr} {od_law_literal an_law_literal : Option Addr} {sl_law_literal : Array (Option Value)} {oc_law_literal kV_law_literal dc_law_literal pm_law_literal cd_law_literal ct_law_literal : Value}
    {f_law_name : Addr} {od_law_name an_law_name : Option Addr} {sl_law_name : Array (Option Value)} {oc_law_name kV_law_name dc_law_name pm_law_name cd_law_name ct_law_name : Value}
    {f_law_sort : Addr} {od_law_sort an_law_sort : Option Addr} {sl_law_sort : Array (Option Value)} {oc_law_sort kV_law_sort dc_law_sort pm_law_sort cd_law_sort ct_law_sort : Value}
    {f_law_comb : Addr} {od_law_comb an_law_comb : Option Addr} {sl_law_comb : Array (Option Value)} {oc_law_comb kV_law_comb dc_law_comb pm_law_comb cd_law_comb ct_law_comb : Value}
    {f_law_levels : Addr} {od_law_levels an_law_levels : Option Addr} {sl_law_levels : Array (Option Value)} {oc_law_levels kV_law_levels dc_law_levels pm_law_levels cd_law_levels ct_law_levels : Value}
    {f_law_count : Addr} {od_law_count an_law_count : Option Addr} {sl_law_count : Array (Option Value)} {oc_law_count kV_law_count dc_law_count pm_law_count cd_law_count ct_law_count : Value}
    {f_law_row : Addr} {od_law_row an_law_row : Option Addr} {sl_law_row : Array (Option Value)} {oc_law_row kV_law_row dc_law_row pm_law_row cd_law_row ct_law_row : Value}
    {f_law_small_row : Addr} {od_law_small_row an_law_small_row : Option Addr} {sl_law_small_row : Array (Option Value)} {oc_law_small_row kV_law_small_row dc_law_small_row pm_law_small_row cd_law_small_row ct_law_small_row : Value}
    {f_law_tree : Addr} {od_law_tree an_law_tree : Option Addr} {sl_law_tree : Array (Option Value)} {oc_law_tree kV_law_tree dc_law_tree pm_law_tree cd_law_tree ct_law_tree : Value}
    {f_law_place : Addr} {od_law_place an_law_place : Option Addr} {sl_law_place : Array (Option Value)} {oc_law_place kV_law_place dc_law_place pm_law_place cd_law_place ct_law_place : Value}
    {f_law_other : Addr} {od_law_other an_law_other : Option Addr} {sl_law_other : Array (Option Value)} {oc_law_other kV_law_other dc_law_other pm_law_other cd_law_other ct_law_other : Value}
    {f_law_change : Addr} {od_law_change an_law_change : Option Addr} {sl_law_change : Array (Option Value)} {oc_law_change kV_law_change dc_law_change pm_law_change cd_law_change ct_law_change : Value}
    {f_law_made : Addr} {od_law_made an_law_made : Option Addr} {sl_law_made : Array (Option Value)} {oc_law_made kV_law_made dc_law_made pm_law_made cd_law_made ct_law_made : Value}
    {f_law_told : Addr} {od_law_told an_law_told : Option Addr} {sl_law_told : Array (Option Value)} {oc_law_told kV_law_told dc_law_told pm_law_told cd_law_told ct_law_told : Value}
    {f_law_end : Addr} {od_law_end an_law_end : Option Addr} {sl_law_end : Array (Option Value)} {oc_law_end kV_law_end dc_law_end pm_law_end cd_law_end ct_law_end : Value}
    {f_law_shared : Addr} {od_law_shared an_law_shared : Option Addr} {sl_law_shared : Array (Option Value)} {oc_law_shared kV_law_shared dc_law_shared pm_law_shared cd_law_shared ct_law_shared : Value}
    {f_law_is_number : Addr} {od_law_is_number an_law_is_number : Option Addr} {sl_law_is_number : Array (Option Value)} {oc_law_is_number kV_law_is_number dc_law_is_number pm_law_is_number cd_law_is_number ct_law_is_number : Value}
    {f_law_says : Addr} {od_law_says an_law_says : Option Addr} {sl_law_says : Array (Option Value)} {oc_law_says kV_law_says dc_law_says pm_law_says cd_law_says ct_law_says : Value}
    {f_law_sized : Addr} {od_law_sized an_law_sized : Option Addr} {sl_law_sized : Array (Option Value)} {oc_law_sized kV_law_sized dc_law_sized pm_law_sized cd_law_sized ct_law_sized : Value}
    {f_law : Addr} {od_law an_law : Option Addr} {sl_law : Array (Option Value)} {oc_law kV_law dc_law pm_law cd_law ct_law : Value}
    {C_Node : Addr}
    {g_Node_init : Addr} {od_Node_init an_Node_init : Option Addr} {sl_Node_init : Array (Option Value)} {oc_Node_init dc_Node_init pm_Node_init cd_Node_init ct_Node_init : Value}
    {D_Node_init e_Node_init : Addr} {eo_Node_init : Option Addr} {en_Node_init : Nat} {es_Node_init : Array (Option Value)}
    {kt_Node_init_alternative : Tok}
    {kt_Node_init_popped : Tok}
    (z_abs : PySem.W.nsIn K mainGlobals "abs" = some none)
    (z_bool : PySem.W.nsIn K mainGlobals "bool" = some none)
    (z_int : PySem.W.nsIn K mainGlobals "int" = some none)
    (z_isinstance : PySem.W.nsIn K mainGlobals "isinstance" = some none)
    (z_iter : PySem.W.nsIn K mainGlobals "iter" = some none)
    (z_len : PySem.W.nsIn K mainGlobals "len" = some none)
    (z_list : PySem.W.nsIn K mainGlobals "list" = some none)
    (z_max : PySem.W.nsIn K mainGlobals "max" = some none)
    (z_min : PySem.W.nsIn K mainGlobals "min" = some none)
    (z_range : PySem.W.nsIn K mainGlobals "range" = some none)
    (z_str : PySem.W.nsIn K mainGlobals "str" = some none)
    (z_sum : PySem.W.nsIn K mainGlobals "sum" = some none)
    (z_tuple : PySem.W.nsIn K mainGlobals "tuple" = some none)
    (z_zip : PySem.W.nsIn K mainGlobals "zip" = some none)
    (a_attributes_of : PySem.W.nsIn K mainGlobals "attributes_of" = some (some (.ref f_attributes_of)))
    (l_attributes_of : K.lookup f_attributes_of = some ⟨oc_attributes_of, od_attributes_of, .func (PySem.W.fnOf "attributes_of" "attributes_of" (C8.fnArgs s_attributes_of) (C8.fnBody s_attributes_of) (C8.fnScope s_attributes_of) .none kV_attributes_of dc_attributes_of pm_attributes_of an_attributes_of cd_attributes_of ct_attributes_of), sl_attributes_of⟩)
    (c_attributes_of : PySem.W.codeIn K cd_attributes_of "attributes_of" = true)
    (k_attributes_of : PySem.W.keepIn K (.ref f_attributes_of) = true)
    (a_same : PySem.W.nsIn K mainGlobals "same" = some (some (.ref f_same)))
    (l_same : K.lookup f_same = some ⟨oc_same, od_same, .func (PySem.W.fnOf "same" "same" (C8.fnArgs s_same) (C8.fnBody s_same) (C8.fnScope s_same) .none kV_same dc_same pm_same an_same cd_same ct_same), sl_same⟩)
    (c_same : PySem.W.codeIn K cd_same "same" = true)
    (k_same : PySem.W.keepIn K (.ref f_same) = true)
    (a_count_nodes : PySem.W.nsIn K mainGlobals "count_nodes" = some (some (.ref f_count_nodes)))
    (l_count_nodes : K.lookup f_count_nodes = some ⟨oc_count_nodes, od_count_nodes, .func (PySem.W.fnOf "count_nodes" "count_nodes" (C8.fnArgs s_count_nodes) (C8.fnBody s_count_nodes) (C8.fnScope s_count_nodes) .none kV_count_nodes dc_count_nodes pm_count_nodes an_count_nodes cd_count_nodes ct_count_nodes), sl_count_nodes⟩)
    (c_count_nodes : PySem.W.codeIn K cd_count_nodes "count_nodes" = true)
    (k_count_nodes : PySem.W.keepIn K (.ref f_count_nodes) = true)
    (a_height : PySem.W.nsIn K mainGlobals "height" = some (some (.ref f_height)))
    (l_height : K.lookup f_height = some ⟨oc_height, od_height, .func (PySem.W.fnOf "height" "height" (C8.fnArgs s_height) (C8.fnBody s_height) (C8.fnScope s_height) .none kV_height dc_height pm_height an_height cd_height ct_height), sl_height⟩)
    (c_height : PySem.W.codeIn K cd_height "height" = true)
    (k_height : PySem.W.keepIn K (.ref f_height) = true)
    (a_law_reel : PySem.W.nsIn K mainGlobals "_law_reel" = some (some (.ref f_law_reel)))
    (l_law_reel : K.lookup f_law_reel = some ⟨oc_law_reel, od_law_reel, .func (PySem.W.fnOf "_law_reel" "_law_reel" (C8.fnArgs s_law_reel) (C8.fnBody s_law_reel) (C8.fnScope s_law_reel) .none kV_law_reel dc_law_reel pm_law_reel an_law_reel cd_law_reel ct_law_reel), sl_law_reel⟩)
    (c_law_reel : PySem.W.codeIn K cd_law_reel "_law_reel" = true)
    (k_law_reel : PySem.W.keepIn K (.ref f_law_reel) = true)
    (a_law_draw : PySem.W.nsIn K mainGlobals "_law_draw" = some (some (.ref f_law_draw)))
    (l_law_draw : K.lookup f_law_draw = some ⟨oc_law_draw, od_law_draw, .func (PySem.W.fnOf "_law_draw" "_law_draw" (C8.fnArgs s_law_draw) (C8.fnBody s_law_draw) (C8.fnScope s_law_draw) .none kV_law_draw dc_law_draw pm_law_draw an_law_draw cd_law_draw ct_law_draw), sl_law_draw⟩)
    (c_law_draw : PySem.W.codeIn K cd_law_draw "_law_draw" = true)
    (k_law_draw : PySem.W.keepIn K (.ref f_law_draw) = true)
    (a_law_pick : PySem.W.nsIn K mainGlobals "_law_pick" = some (some (.ref f_law_pick)))
    (l_law_pick : K.lookup f_law_pick = some ⟨oc_law_pick, od_law_pick, .func (PySem.W.fnOf "_law_pick" "_law_pick" (C8.fnArgs s_law_pick) (C8.fnBody s_law_pick) (C8.fnScope s_law_pick) .none kV_law_pick dc_law_pick pm_law_pick an_law_pick cd_law_pick ct_law_pick), sl_law_pick⟩)
    (c_law_pick : PySem.W.codeIn K cd_law_pick "_law_pick" = true)
    (k_law_pick : PySem.W.keepIn K (.ref f_law_pick) = true)
    (a_law_word : PySem.W.nsIn K mainGlobals "_law_word" = some (some (.ref f_law_word)))
    (l_law_word : K.lookup f_law_word = some ⟨oc_law_word, od_law_word, .func (PySem.W.fnOf "_law_word" "_law_word" (C8.fnArgs s_law_word) (C8.fnBody s_law_word) (C8.fnScope s_law_word) .none kV_law_word dc_law_word pm_law_word an_law_word cd_law_word ct_law_word), sl_law_word⟩)
    (c_law_word : PySem.W.codeIn K cd_law_word "_law_word" = true)
    (k_law_word : PySem.W.keepIn K (.ref f_law_word) = true)
    (a_law_quoted : PySem.W.nsIn K mainGlobals "_law_quoted" = some (some (.ref f_law_quoted)))
    (l_law_quoted : K.lookup f_law_quoted = some ⟨oc_law_quoted, od_law_quoted, .func (PySem.W.fnOf "_law_quoted" "_law_quoted" (C8.fnArgs s_law_quoted) (C8.fnBody s_law_quoted) (C8.fnScope s_law_quoted) .none kV_law_quoted dc_law_quoted pm_law_quoted an_law_quoted cd_law_quoted ct_law_quoted), sl_law_quoted⟩)
    (c_law_quoted : PySem.W.codeIn K cd_law_quoted "_law_quoted" = true)
    (k_law_quoted : PySem.W.keepIn K (.ref f_law_quoted) = true)
    (a_law_literal : PySem.W.nsIn K mainGlobals "_law_literal" = some (some (.ref f_law_literal)))
    (l_law_literal : K.lookup f_law_literal = some ⟨oc_law_literal, od_law_literal, .func (PySem.W.fnOf "_law_literal" "_law_literal" (C8.fnArgs s_law_literal) (C8.fnBody s_law_literal) (C8.fnScope s_law_literal) .none kV_law_literal dc_law_literal pm_law_literal an_law_literal cd_law_literal ct_law_literal), sl_law_literal⟩)
    (c_law_literal : PySem.W.codeIn K cd_law_literal "_law_literal" = true)
    (k_law_literal : PySem.W.keepIn K (.ref f_law_literal) = true)
    (a_law_name : PySem.W.nsIn K mainGlobals "_law_name" = some (some (.ref f_law_name)))
    (l_law_name : K.lookup f_law_name = some ⟨oc_law_name, od_law_name, .func (PySem.W.fnOf "_law_name" "_law_name" (C8.fnArgs s_law_name) (C8.fnBody s_law_name) (C8.fnScope s_law_name) .none kV_law_name dc_law_name pm_law_name an_law_name cd_law_name ct_law_name), sl_law_name⟩)
    (c_law_name : PySem.W.codeIn K cd_law_name "_law_name" = true)
    (k_law_name : PySem.W.keepIn K (.ref f_law_name) = true)
    (a_law_sort : PySem.W.nsIn K mainGlobals "_law_sort" = some (some (.ref f_law_sort)))
    (l_law_sort : K.lookup f_law_sort = some ⟨oc_law_sort, od_law_sort, .func (PySem.W.fnOf "_law_sort" "_law_sort" (C8.fnArgs s_law_sort) (C8.fnBody s_law_sort) (C8.fnScope s_law_sort) .none kV_law_sort dc_law_sort pm_law_sort an_law_sort cd_law_sort ct_law_sort), sl_law_sort⟩)
    (c_law_sort : PySem.W.codeIn K cd_law_sort "_law_sort" = true)
    (k_law_sort : PySem.W.keepIn K (.ref f_law_sort) = true)
    (a_law_comb : PySem.W.nsIn K mainGlobals "_law_comb" = some (some (.ref f_law_comb)))
    (l_law_comb : K.lookup f_law_comb = some ⟨oc_law_comb, od_law_comb, .func (PySem.W.fnOf "_law_comb" "_law_comb" (C8.fnArgs s_law_comb) (C8.fnBody s_law_comb) (C8.fnScope s_law_comb) .none kV_law_comb dc_law_comb pm_law_comb an_law_comb cd_law_comb ct_law_comb), sl_law_comb⟩)
    (c_law_comb : PySem.W.codeIn K cd_law_comb "_law_comb" = true)
    (k_law_comb : PySem.W.keepIn K (.ref f_law_comb) = true)
    (a_law_levels : PySem.W.nsIn K mainGlobals "_law_levels" = some (some (.ref f_law_levels)))
    (l_law_levels : K.lookup f_law_levels = some ⟨oc_law_levels, od_law_levels, .func (PySem.W.fnOf "_law_levels" "_law_levels" (C8.fnArgs s_law_levels) (C8.fnBody s_law_levels) (C8.fnScope s_law_levels) .none kV_law_levels dc_law_levels pm_law_levels an_law_levels cd_law_levels ct_law_levels), sl_law_levels⟩)
    (c_law_levels : PySem.W.codeIn K cd_law_levels "_law_levels" = true)
    (k_law_levels : PySem.W.keepIn K (.ref f_law_levels) = true)
    (a_law_count : PySem.W.nsIn K mainGlobals "_law_count" = some (some (.ref f_law_count)))
    (l_law_count : K.lookup f_law_count = some ⟨oc_law_count, od_law_count, .func (PySem.W.fnOf "_law_count" "_law_count" (C8.fnArgs s_law_count) (C8.fnBody s_law_count) (C8.fnScope s_law_count) .none kV_law_count dc_law_count pm_law_count an_law_count cd_law_count ct_law_count), sl_law_count⟩)
    (c_law_count : PySem.W.codeIn K cd_law_count "_law_count" = true)
    (k_law_count : PySem.W.keepIn K (.ref f_law_count) = true)
    (a_law_row : PySem.W.nsIn K mainGlobals "_law_row" = some (some (.ref f_law_row)))
    (l_law_row : K.lookup f_law_row = some ⟨oc_law_row, od_law_row, .func (PySem.W.fnOf "_law_row" "_law_row" (C8.fnArgs s_law_row) (C8.fnBody s_law_row) (C8.fnScope s_law_row) .none kV_law_row dc_law_row pm_law_row an_law_row cd_law_row ct_law_row), sl_law_row⟩)
    (c_law_row : PySem.W.codeIn K cd_law_row "_law_row" = true)
    (k_law_row : PySem.W.keepIn K (.ref f_law_row) = true)
    (a_law_small_row : PySem.W.nsIn K mainGlobals "_law_small_row" = some (some (.ref f_law_small_row)))
    (l_law_small_row : K.lookup f_law_small_row = some ⟨oc_law_small_row, od_law_small_row, .func (PySem.W.fnOf "_law_small_row" "_law_small_row" (C8.fnArgs s_law_small_row) (C8.fnBody s_law_small_row) (C8.fnScope s_law_small_row) .none kV_law_small_row dc_law_small_row pm_law_small_row an_law_small_row cd_law_small_row ct_law_small_row), sl_law_small_row⟩)
    (c_law_small_row : PySem.W.codeIn K cd_law_small_row "_law_small_row" = true)
    (k_law_small_row : PySem.W.keepIn K (.ref f_law_small_row) = true)
    (a_law_tree : PySem.W.nsIn K mainGlobals "_law_tree" = some (some (.ref f_law_tree)))
    (l_law_tree : K.lookup f_law_tree = some ⟨oc_law_tree, od_law_tree, .func (PySem.W.fnOf "_law_tree" "_law_tree" (C8.fnArgs s_law_tree) (C8.fnBody s_law_tree) (C8.fnScope s_law_tree) .none kV_law_tree dc_law_tree pm_law_tree an_law_tree cd_law_tree ct_law_tree), sl_law_tree⟩)
    (c_law_tree : PySem.W.codeIn K cd_law_tree "_law_tree" = true)
    (k_law_tree : PySem.W.keepIn K (.ref f_law_tree) = true)
    (a_law_place : PySem.W.nsIn K mainGlobals "_law_place" = some (some (.ref f_law_place)))
    (l_law_place : K.lookup f_law_place = some ⟨oc_law_place, od_law_place, .func (PySem.W.fnOf "_law_place" "_law_place" (C8.fnArgs s_law_place) (C8.fnBody s_law_place) (C8.fnScope s_law_place) .none kV_law_place dc_law_place pm_law_place an_law_place cd_law_place ct_law_place), sl_law_place⟩)
    (c_law_place : PySem.W.codeIn K cd_law_place "_law_place" = true)
    (k_law_place : PySem.W.keepIn K (.ref f_law_place) = true)
    (a_law_other : PySem.W.nsIn K mainGlobals "_law_other" = some (some (.ref f_law_other)))
    (l_law_other : K.lookup f_law_other = some ⟨oc_law_other, od_law_other, .func (PySem.W.fnOf "_law_other" "_law_other" (C8.fnArgs s_law_other) (C8.fnBody s_law_other) (C8.fnScope s_law_other) .none kV_law_other dc_law_other pm_law_other an_law_other cd_law_other ct_law_other), sl_law_other⟩)
    (c_law_other : PySem.W.codeIn K cd_law_other "_law_other" = true)
    (k_law_other : PySem.W.keepIn K (.ref f_law_other) = true)
    (a_law_change : PySem.W.nsIn K mainGlobals "_law_change" = some (some (.ref f_law_change)))
    (l_law_change : K.lookup f_law_change = some ⟨oc_law_change, od_law_change, .func (PySem.W.fnOf "_law_change" "_law_change" (C8.fnArgs s_law_change) (C8.fnBody s_law_change) (C8.fnScope s_law_change) .none kV_law_change dc_law_change pm_law_change an_law_change cd_law_change ct_law_change), sl_law_change⟩)
    (c_law_change : PySem.W.codeIn K cd_law_change "_law_change" = true)
    (k_law_change : PySem.W.keepIn K (.ref f_law_change) = true)
    (a_law_made : PySem.W.nsIn K mainGlobals "_law_made" = some (some (.ref f_law_made)))
    (l_law_made : K.lookup f_law_made = some ⟨oc_law_made, od_law_made, .func (PySem.W.fnOf "_law_made" "_law_made" (C8.fnArgs s_law_made) (C8.fnBody s_law_made) (C8.fnScope s_law_made) .none kV_law_made dc_law_made pm_law_made an_law_made cd_law_made ct_law_made), sl_law_made⟩)
    (c_law_made : PySem.W.codeIn K cd_law_made "_law_made" = true)
    (k_law_made : PySem.W.keepIn K (.ref f_law_made) = true)
    (a_law_told : PySem.W.nsIn K mainGlobals "_law_told" = some (some (.ref f_law_told)))
    (l_law_told : K.lookup f_law_told = some ⟨oc_law_told, od_law_told, .func (PySem.W.fnOf "_law_told" "_law_told" (C8.fnArgs s_law_told) (C8.fnBody s_law_told) (C8.fnScope s_law_told) .none kV_law_told dc_law_told pm_law_told an_law_told cd_law_told ct_law_told), sl_law_told⟩)
    (c_law_told : PySem.W.codeIn K cd_law_told "_law_told" = true)
    (k_law_told : PySem.W.keepIn K (.ref f_law_told) = true)
    (a_law_end : PySem.W.nsIn K mainGlobals "_law_end" = some (some (.ref f_law_end)))
    (l_law_end : K.lookup f_law_end = some ⟨oc_law_end, od_law_end, .func (PySem.W.fnOf "_law_end" "_law_end" (C8.fnArgs s_law_end) (C8.fnBody s_law_end) (C8.fnScope s_law_end) .none kV_law_end dc_law_end pm_law_end an_law_end cd_law_end ct_law_end), sl_law_end⟩)
    (c_law_end : PySem.W.codeIn K cd_law_end "_law_end" = true)
    (k_law_end : PySem.W.keepIn K (.ref f_law_end) = true)
    (a_law_shared : PySem.W.nsIn K mainGlobals "_law_shared" = some (some (.ref f_law_shared)))
    (l_law_shared : K.lookup f_law_shared = some ⟨oc_law_shared, od_law_shared, .func (PySem.W.fnOf "_law_shared" "_law_shared" (C8.fnArgs s_law_shared) (C8.fnBody s_law_shared) (C8.fnScope s_law_shared) .none kV_law_shared dc_law_shared pm_law_shared an_law_shared cd_law_shared ct_law_shared), sl_law_shared⟩)
    (c_law_shared : PySem.W.codeIn K cd_law_shared "_law_shared" = true)
    (k_law_shared : PySem.W.keepIn K (.ref f_law_shared) = true)
    (a_law_is_number : PySem.W.nsIn K mainGlobals "_law_is_number" = some (some (.ref f_law_is_number)))
    (l_law_is_number : K.lookup f_law_is_number = some ⟨oc_law_is_number, od_law_is_number, .func (PySem.W.fnOf "_law_is_number" "_law_is_number" (C8.fnArgs s_law_is_number) (C8.fnBody s_law_is_number) (C8.fnScope s_law_is_number) .none kV_law_is_number dc_law_is_number pm_law_is_number an_law_is_number cd_law_is_number ct_law_is_number), sl_law_is_number⟩)
    (c_law_is_number : PySem.W.codeIn K cd_law_is_number "_law_is_number" = true)
    (k_law_is_number : PySem.W.keepIn K (.ref f_law_is_number) = true)
    (a_law_says : PySem.W.nsIn K mainGlobals "_law_says" = some (some (.ref f_law_says)))
    (l_law_says : K.lookup f_law_says = some ⟨oc_law_says, od_law_says, .func (PySem.W.fnOf "_law_says" "_law_says" (C8.fnArgs s_law_says) (C8.fnBody s_law_says) (C8.fnScope s_law_says) .none kV_law_says dc_law_says pm_law_says an_law_says cd_law_says ct_law_says), sl_law_says⟩)
    (c_law_says : PySem.W.codeIn K cd_law_says "_law_says" = true)
    (k_law_says : PySem.W.keepIn K (.ref f_law_says) = true)
    (a_law_sized : PySem.W.nsIn K mainGlobals "_law_sized" = some (some (.ref f_law_sized)))
    (l_law_sized : K.lookup f_law_sized = some ⟨oc_law_sized, od_law_sized, .func (PySem.W.fnOf "_law_sized" "_law_sized" (C8.fnArgs s_law_sized) (C8.fnBody s_law_sized) (C8.fnScope s_law_sized) .none kV_law_sized dc_law_sized pm_law_sized an_law_sized cd_law_sized ct_law_sized), sl_law_sized⟩)
    (c_law_sized : PySem.W.codeIn K cd_law_sized "_law_sized" = true)
    (k_law_sized : PySem.W.keepIn K (.ref f_law_sized) = true)
    (a_law : PySem.W.nsIn K mainGlobals "law" = some (some (.ref f_law)))
    (l_law : K.lookup f_law = some ⟨oc_law, od_law, .func (PySem.W.fnOf "law" "law" (C8.fnArgs s_law) (C8.fnBody s_law) (C8.fnScope s_law) .none kV_law dc_law pm_law an_law cd_law ct_law), sl_law⟩)
    (c_law : PySem.W.codeIn K cd_law "law" = true)
    (k_law : PySem.W.keepIn K (.ref f_law) = true)
    (a_Node : PySem.W.nsIn K mainGlobals "Node" = some (some (.ref C_Node)))
    (pg_Node : PySem.W.plainGet K C_Node Str.empty = true)
    (hd_Node : PySem.W.hasDictIn K C_Node = true)
    (po_Node : PySem.W.plainOver K C_Node = true)
    (sa_Node : PySem.W.findIn K (.ref C_Node) "__setattr__" = some (some (.builtin "object.__setattr__")))
    (mk_Node : PySem.W.makesIn K C_Node = true)
    (kc_Node : PySem.W.keepIn K (.ref C_Node) = true)
    (cl_Node : PySem.W.findIn K (.ref C_Node) "__class__" = some (some (.builtin "object.__class__")))
    (mo_Node : PySem.W.mroIn K C_Node (.type "object") = some true)
    (nf_Node_kind : PySem.W.findIn K (.ref C_Node) "kind" = some none)
    (nf_Node_symbol : PySem.W.findIn K (.ref C_Node) "symbol" = some none)
    (nf_Node_state : PySem.W.findIn K (.ref C_Node) "state" = some none)
    (nf_Node_lead : PySem.W.findIn K (.ref C_Node) "lead" = some none)
    (nf_Node_width : PySem.W.findIn K (.ref C_Node) "width" = some none)
    (nf_Node_look : PySem.W.findIn K (.ref C_Node) "look" = some none)
    (nf_Node_alternative : PySem.W.findIn K (.ref C_Node) "alternative" = some none)
    (nf_Node_nodes : PySem.W.findIn K (.ref C_Node) "nodes" = some none)
    (nf_Node_popped : PySem.W.findIn K (.ref C_Node) "popped" = some none)
    (z1 : PySem.W.specialIn K (.builtin "object.__class__") "__get__" = some (some (.builtin "getset_descriptor.__get__")))
    (z2 : PySem.W.takesIn K (.builtin "object.__class__") = some true)
    (at_Node_init : PySem.W.findIn K (.ref C_Node) "__init__" = some (some (.ref g_Node_init)))
    (is_Node_init : PySem.W.isFn K (.ref g_Node_init) = true)
    (l_Node_init : K.lookup g_Node_init = some ⟨oc_Node_init, od_Node_init, .func (PySem.W.fnOf "__init__" "Node.__init__" (C8.fnArgs s_Node___init__) (C8.fnBody s_Node___init__) (C8.fnScope s_Node___init__) .none (.ref D_Node_init) dc_Node_init pm_Node_init an_Node_init cd_Node_init ct_Node_init), sl_Node_init⟩)
    (c_Node_init : PySem.W.codeIn K cd_Node_init "Node.__init__" = true)
    (k_Node_init : PySem.W.keepIn K (.ref g_Node_init) = true)
    (kd_Node_init_alternative : PySem.W.nsIn K D_Node_init "alternative" = some (some (.int (-1) kt_Node_init_alternative)))
    (kd_Node_init_nodes : PySem.W.nsIn K D_Node_init "nodes" = some (some (.ref e_Node_init)))
    (ke_Node_init : K.lookup e_Node_init = some ⟨.type "tuple", eo_Node_init, .seq #[] en_Node_init, es_Node_init⟩)
    (kd_Node_init_popped : PySem.W.nsIn K D_Node_init "popped" = some (some (.int (0) kt_Node_init_popped))) :
    ∃ fd : FuncData, (∀ (s : Shared) (v : Value), BindsTo s fd ⟨[v], []⟩ [("script", v)]) ∧ ∀ base : Heap, K.In base → base.Ns mainGlobals mg → FnOk PySem.Challenge.rw_mendedtree_k38_same_and_sizes.prog w K mg base C8.CX0 8 fa fd ["script"] (sp_law K) := by
  have e := hfa.symm.trans (PySem.W.mg_of X G a_law)
  cases e
  have T : Txt mg := ⟨PySem.W.mg_none_of X G z_abs, PySem.W.mg_none_of X G z_bool, PySem.W.mg_none_of X G z_int, PySem.W.mg_none_of X G z_isinstance, PySem.W.mg_none_of X G z_iter, PySem.W.mg_none_of X G z_len, PySem.W.mg_none_of X G z_list, PySem.W.mg_none_of X G z_max, PySem.W.mg_none_of X G z_min, PySem.W.mg_none_of X G z_range, PySem.W.mg_none_of X G z_str, PySem.W.mg_none_of X G z_sum, PySem.W.mg_none_of X G z_tuple, PySem.W.mg_none_of X G z_zip⟩
  have F_attributes_of : C8.Def K mg "attributes_of" s_attributes_of f_attributes_of _ := ⟨⟨_, _, _, _, _, _, _, _, _, _, rfl, l_attributes_of, c_attributes_of⟩, PySem.W.mg_of X G a_attributes_of, k_attributes_of⟩
  have b_attributes_of := C8.Fun.binds F_attributes_of.fn rfl (ps := ["node"]) fun _ _ _ _ _ _ us hl => match us, hl with | [_], _ => rfl
  have F_same : C8.Def K mg "same" s_same f_same _ := ⟨⟨_, _, _, _, _, _, _, _, _, _, rfl, l_same, c_same⟩, PySem.W.mg_of X G a_same, k_same⟩
  have b_same := C8.Fun.binds F_same.fn rfl (ps := ["first", "second"]) fun _ _ _ _ _ _ us hl => match us, hl with | [_, _], _ => rfl
  have F_count_nodes : C8.Def K mg "count_nodes" s_count_nodes f_count_nodes _ := ⟨⟨_, _, _, _, _, _, _, _, _, _, rfl, l_count_nodes, c_count_nodes⟩, PySem.W.mg_of X G a_count_nodes, k_count_nodes⟩
  have b_count_nodes := C8.Fun.binds F_count_nodes.fn rfl (ps := ["node"]) fun _ _ _ _ _ _ us hl => match us, hl with | [_], _ => rfl
  have F_height : C8.Def K mg "height" s_height f_height _ := ⟨⟨_, _, _, _, _, _, _, _, _, _, rfl, l_height, c_height⟩, PySem.W.mg_of X G a_height, k_height⟩
  have b_height := C8.Fun.binds F_height.fn rfl (ps := ["node"]) fun _ _ _ _ _ _ us hl => match us, hl with | [_], _ => rfl
  have F_law_reel : C8.Def K mg "_law_reel" s_law_reel f_law_reel _ := ⟨⟨_, _, _, _, _, _, _, _, _, _, rfl, l_law_reel, c_law_reel⟩, PySem.W.mg_of X G a_law_reel, k_law_reel⟩
  have b_law_reel := C8.Fun.binds F_law_reel.fn rfl (ps := ["script"]) fun _ _ _ _ _ _ us hl => match us, hl with | [_], _ => rfl
  have F_law_draw : C8.Def K mg "_law_draw" s_law_draw f_law_draw _ := ⟨⟨_, _, _, _, _, _, _, _, _, _, rfl, l_law_draw, c_law_draw⟩, PySem.W.mg_of X G a_law_draw, k_law_draw⟩
  have b_law_draw := C8.Fun.binds F_law_draw.fn rfl (ps := ["reel", "size"]) fun _ _ _ _ _ _ us hl => match us, hl with | [_, _], _ => rfl
  have F_law_pick : C8.Def K mg "_law_pick" s_law_pick f_law_pick _ := ⟨⟨_, _, _, _, _, _, _, _, _, _, rfl, l_law_pick, c_law_pick⟩, PySem.W.mg_of X G a_law_pick, k_law_pick⟩
  have b_law_pick := C8.Fun.binds F_law_pick.fn rfl (ps := ["reel", "row"]) fun _ _ _ _ _ _ us hl => match us, hl with | [_, _], _ => rfl
  have F_law_word : C8.Def K mg "_law_word" s_law_word f_law_word _ := ⟨⟨_, _, _, _, _, _, _, _, _, _, rfl, l_law_word, c_law_word⟩, PySem.W.mg_of X G a_law_word, k_law_word⟩
  have b_law_word := C8.Fun.binds F_law_word.fn rfl (ps := ["reel", "letters", "least", "most"]) fun _ _ _ _ _ _ us hl => match us, hl with | [_, _, _, _], _ => rfl
  have F_law_quoted : C8.Def K mg "_law_quoted" s_law_quoted f_law_quoted _ := ⟨⟨_, _, _, _, _, _, _, _, _, _, rfl, l_law_quoted, c_law_quoted⟩, PySem.W.mg_of X G a_law_quoted, k_law_quoted⟩
  have b_law_quoted := C8.Fun.binds F_law_quoted.fn rfl (ps := ["chars"]) fun _ _ _ _ _ _ us hl => match us, hl with | [_], _ => rfl
  have F_law_literal : C8.Def K mg "_law_literal" s_law_literal f_law_literal _ := ⟨⟨_, _, _, _, _, _, _, _, _, _, rfl, l_law_literal, c_law_literal⟩, PySem.W.mg_of X G a_law_literal, k_law_literal⟩
  have b_law_literal := C8.Fun.binds F_law_literal.fn rfl (ps := ["reel"]) fun _ _ _ _ _ _ us hl => match us, hl with | [_], _ => rfl
  have F_law_name : C8.Def K mg "_law_name" s_law_name f_law_name _ := ⟨⟨_, _, _, _, _, _, _, _, _, _, rfl, l_law_name, c_law_name⟩, PySem.W.mg_of X G a_law_name, k_law_name⟩
  have b_law_name := C8.Fun.binds F_law_name.fn rfl (ps := ["reel"]) fun _ _ _ _ _ _ us hl => match us, hl with | [_], _ => rfl
  have F_law_sort : C8.Def K mg "_law_sort" s_law_sort f_law_sort _ := ⟨⟨_, _, _, _, _, _, _, _, _, _, rfl, l_law_sort, c_law_sort⟩, PySem.W.mg_of X G a_law_sort, k_law_sort⟩
  have b_law_sort := C8.Fun.binds F_law_sort.fn rfl (ps := ["reel"]) fun _ _ _ _ _ _ us hl => match us, hl with | [_], _ => rfl
  have F_law_comb : C8.Def K mg "_law_comb" s_law_comb f_law_comb _ := ⟨⟨_, _, _, _, _, _, _, _, _, _, rfl, l_law_comb, c_law_comb⟩, PySem.W.mg_of X G a_law_comb, k_law_comb⟩
  have b_law_comb := C8.Fun.binds F_law_comb.fn rfl (ps := ["reel", "deep"]) fun _ _ _ _ _ _ us hl => match us, hl with | [_, _], _ => rfl
  have F_law_levels : C8.Def K mg "_law_levels" s_law_levels f_law_levels _ := ⟨⟨_, _, _, _, _, _, _, _, _, _, rfl, l_law_levels, c_law_levels⟩, PySem.W.mg_of X G a_law_levels, k_law_levels⟩
  have b_law_levels := C8.Fun.binds F_law_levels.fn rfl (ps := ["reel"]) fun _ _ _ _ _ _ us hl => match us, hl with | [_], _ => rfl
  have F_law_count : C8.Def K mg "_law_count" s_law_count f_law_count _ := ⟨⟨_, _, _, _, _, _, _, _, _, _, rfl, l_law_count, c_law_count⟩, PySem.W.mg_of X G a_law_count, k_law_count⟩
  have b_law_count := C8.Fun.binds F_law_count.fn rfl (ps := ["reel", "least"]) fun _ _ _ _ _ _ us hl => match us, hl with | [_, _], _ => rfl
  have F_law_row : C8.Def K mg "_law_row" s_law_row f_law_row _ := ⟨⟨_, _, _, _, _, _, _, _, _, _, rfl, l_law_row, c_law_row⟩, PySem.W.mg_of X G a_law_row, k_law_row⟩
  have b_law_row := C8.Fun.binds F_law_row.fn rfl (ps := ["reel", "level"]) fun _ _ _ _ _ _ us hl => match us, hl with | [_, _], _ => rfl
  have F_law_small_row : C8.Def K mg "_law_small_row" s_law_small_row f_law_small_row _ := ⟨⟨_, _, _, _, _, _, _, _, _, _, rfl, l_law_small_row, c_law_small_row⟩, PySem.W.mg_of X G a_law_small_row, k_law_small_row⟩
  have b_law_small_row := C8.Fun.binds F_law_small_row.fn rfl (ps := ["reel", "level"]) fun _ _ _ _ _ _ us hl => match us, hl with | [_, _], _ => rfl
  have F_law_tree : C8.Def K mg "_law_tree" s_law_tree f_law_tree _ := ⟨⟨_, _, _, _, _, _, _, _, _, _, rfl, l_law_tree, c_law_tree⟩, PySem.W.mg_of X G a_law_tree, k_law_tree⟩
  have b_law_tree := C8.Fun.binds F_law_tree.fn rfl (ps := ["reel"]) fun _ _ _ _ _ _ us hl => match us, hl with | [_], _ => rfl
  have F_law_place : C8.Def K mg "_law_place" s_law_place f_law_place _ := ⟨⟨_, _, _, _, _, _, _, _, _, _, rfl, l_law_place, c_law_place⟩, PySem.W.mg_of X G a_law_place, k_law_place⟩
  have b_law_place := C8.Fun.binds F_law_place.fn rfl (ps := ["reel", "size"]) fun _ _ _ _ _ _ us hl => match us, hl with | [_, _], _ => rfl
  have F_law_other : C8.Def K mg "_law_other" s_law_other f_law_other _ := ⟨⟨_, _, _, _, _, _, _, _, _, _, rfl, l_law_other, c_law_other⟩, PySem.W.mg_of X G a_law_other, k_law_other⟩
  have b_law_other := C8.Fun.binds F_law_other.fn rfl (ps := ["reel", "row", "slot"]) fun _ _ _ _ _ _ us hl => match us, hl with | [_, _, _], _ => rfl
  have F_law_change : C8.Def K mg "_law_change" s_law_change f_law_change _ := ⟨⟨_, _, _, _, _, _, _, _, _, _, rfl, l_law_change, c_law_change⟩, PySem.W.mg_of X G a_law_change, k_law_change⟩
  have b_law_change := C8.Fun.binds F_law_change.fn rfl (ps := ["reel", "rows"]) fun _ _ _ _ _ _ us hl => match us, hl with | [_, _], _ => rfl
  have F_law_made : C8.Def K mg "_law_made" s_law_made f_law_made _ := ⟨⟨_, _, _, _, _, _, _, _, _, _, rfl, l_law_made, c_law_made⟩, PySem.W.mg_of X G a_law_made, k_law_made⟩
  have b_law_made := C8.Fun.binds F_law_made.fn rfl (ps := ["rows"]) fun _ _ _ _ _ _ us hl => match us, hl with | [_], _ => rfl
  have F_law_told : C8.Def K mg "_law_told" s_law_told f_law_told _ := ⟨⟨_, _, _, _, _, _, _, _, _, _, rfl, l_law_told, c_law_told⟩, PySem.W.mg_of X G a_law_told, k_law_told⟩
  have b_law_told := C8.Fun.binds F_law_told.fn rfl (ps := ["root", "most"]) fun _ _ _ _ _ _ us hl => match us, hl with | [_, _], _ => rfl
  have F_law_end : C8.Def K mg "_law_end" s_law_end f_law_end _ := ⟨⟨_, _, _, _, _, _, _, _, _, _, rfl, l_law_end, c_law_end⟩, PySem.W.mg_of X G a_law_end, k_law_end⟩
  have b_law_end := C8.Fun.binds F_law_end.fn rfl (ps := ["rows", "at"]) fun _ _ _ _ _ _ us hl => match us, hl with | [_, _], _ => rfl
  have F_law_shared : C8.Def K mg "_law_shared" s_law_shared f_law_shared _ := ⟨⟨_, _, _, _, _, _, _, _, _, _, rfl, l_law_shared, c_law_shared⟩, PySem.W.mg_of X G a_law_shared, k_law_shared⟩
  have b_law_shared := C8.Fun.binds F_law_shared.fn rfl (ps := ["rows"]) fun _ _ _ _ _ _ us hl => match us, hl with | [_], _ => rfl
  have F_law_is_number : C8.Def K mg "_law_is_number" s_law_is_number f_law_is_number _ := ⟨⟨_, _, _, _, _, _, _, _, _, _, rfl, l_law_is_number, c_law_is_number⟩, PySem.W.mg_of X G a_law_is_number, k_law_is_number⟩
  have b_law_is_number := C8.Fun.binds F_law_is_number.fn rfl (ps := ["told", "due"]) fun _ _ _ _ _ _ us hl => match us, hl with | [_, _], _ => rfl
  have F_law_says : C8.Def K mg "_law_says" s_law_says f_law_says _ := ⟨⟨_, _, _, _, _, _, _, _, _, _, rfl, l_law_says, c_law_says⟩, PySem.W.mg_of X G a_law_says, k_law_says⟩
  have b_law_says := C8.Fun.binds F_law_says.fn rfl (ps := ["told", "due"]) fun _ _ _ _ _ _ us hl => match us, hl with | [_, _], _ => rfl
  have F_law_sized : C8.Def K mg "_law_sized" s_law_sized f_law_sized _ := ⟨⟨_, _, _, _, _, _, _, _, _, _, rfl, l_law_sized, c_law_sized⟩, PySem.W.mg_of X G a_law_sized, k_law_sized⟩
  have b_law_sized := C8.Fun.binds F_law_sized.fn rfl (ps := ["rows", "made", "at"]) fun _ _ _ _ _ _ us hl => match us, hl with | [_, _, _], _ => rfl
  have F_law : C8.Def K mg "law" s_law _ _ := ⟨⟨_, _, _, _, _, _, _, _, _, _, rfl, l_law, c_law⟩, PySem.W.mg_of X G a_law, k_law⟩
  have u_Node : F_Node K mg C_Node := ⟨⟨⟨pg_Node, hd_Node, po_Node, sa_Node⟩, PySem.W.mg_of X G a_Node, cl_Node, z1, z2, mo_Node⟩, nf_Node_kind, nf_Node_symbol, nf_Node_state, nf_Node_lead, nf_Node_width, nf_Node_look, nf_Node_alternative, nf_Node_nodes, nf_Node_popped⟩
  have F_Node_init : C8.Fun K "__init__" "Node.__init__" s_Node___init__ g_Node_init _ := ⟨_, _, _, _, _, _, _, _, _, _, rfl, l_Node_init, c_Node_init⟩
  have D_Node_init : FunD K "__init__" "Node.__init__" (C8.fnArgs s_Node___init__) (C8.fnBody s_Node___init__) (C8.fnScope s_Node___init__) [] [("alternative", .int (-1)), ("nodes", .ref e_Node_init), ("popped", .int (0))] g_Node_init _ := ⟨⟨_, _, _, _, _, _, _, _, _, _, rfl, l_Node_init, c_Node_init, .inl ⟨rfl, rfl⟩, .inr ⟨_, rfl, fun q hq => by
    simp only [List.mem_cons, List.not_mem_nil, or_false] at hq
    rcases hq with rfl | rfl | rfl
    · exact ⟨_, kd_Node_init_alternative, ⟨_, rfl⟩⟩
    · exact ⟨_, kd_Node_init_nodes, rfl⟩
    · exact ⟨_, kd_Node_init_popped, ⟨_, rfl⟩⟩⟩⟩, k_Node_init⟩
  obtain ⟨_, kb_Node_init4⟩ := FunD.kbinds0 D_Node_init (ps := ["self", "kind", "symbol", "state", "lead", "width", "look", "alternative", "nodes", "popped"]) 3 ["state", "lead", "width", "look"] [("alternative", .int (-1)), ("nodes", .ref e_Node_init), ("popped", .int (0))] (fun us mv ws => us ++ (ws ++ mv)) (by simp) (fun q hq => by simp only [List.mem_cons, List.not_mem_nil, or_false] at hq ⊢; rcases hq with rfl | rfl | rfl <;> simp) (fun r1 r2 r3 => r1.append (r3.append r2)) (fun D doc pm an cdv ct us mv ws h1 h2 h3 => match us, mv, ws, h1, h2, h3 with | [_, _, _], [_, _, _], [_, _, _, _], _, _, _ => ⟨_, _, _, _, _, _, rfl, rfl, ⟨_, _, _, _, _, _, rfl, rfl, ⟨_, _, _, _, _, _, rfl, rfl, rfl⟩⟩⟩)
  obtain ⟨_, kb_Node_init7⟩ := FunD.kbinds0 D_Node_init (ps := ["self", "kind", "symbol", "state", "lead", "width", "look", "alternative", "nodes", "popped"]) 3 ["state", "lead", "width", "look", "alternative", "nodes", "popped"] [] (fun us mv ws => us ++ (ws ++ mv)) (by simp) (fun q hq => nomatch hq) (fun r1 r2 r3 => r1.append (r3.append r2)) (fun D doc pm an cdv ct us mv ws h1 h2 h3 => match us, mv, ws, h1, h2, h3 with | [_, _, _], [], [_, _, _, _, _, _, _], _, _, _ => rfl)
  obtain ⟨_, kb_Node_init6⟩ := FunD.kbinds0 D_Node_init (ps := ["self", "kind", "symbol", "state", "lead", "width", "look", "alternative", "nodes", "popped"]) 3 ["state", "lead", "width", "look", "alternative", "nodes"] [("popped", .int (0))] (fun us mv ws => us ++ (ws ++ mv)) (by simp) (fun q hq => by simp only [List.mem_cons, List.not_mem_nil, or_false] at hq ⊢; rcases hq with rfl <;> simp) (fun r1 r2 r3 => r1.append (r3.append r2)) (fun D doc pm an cdv ct us mv ws h1 h2 h3 => match us, mv, ws, h1, h2, h3 with | [_, _, _], [_], [_, _, _, _, _, _], _, _, _ => ⟨_, _, _, _, _, _, rfl, rfl, rfl⟩)
  refine ⟨PySem.W.fnOf "law" "law" (C8.fnArgs s_law) (C8.fnBody s_law) (C8.fnScope s_law) .none kV_law dc_law pm_law an_law cd_law ct_law, fun s v => .of_eq rfl, fun base _ _ => ?_⟩
  have c_law_reel := cal_law_reel (P := PySem.Challenge.rw_mendedtree_k38_same_and_sizes.prog) (w := w) (base := base) T F_law_reel b_law_reel
  have c_law_draw := cal_law_draw (P := PySem.Challenge.rw_mendedtree_k38_same_and_sizes.prog) (w := w) (base := base) T F_law_draw b_law_draw
  have c_law_pick := cal_law_pick (P := PySem.Challenge.rw_mendedtree_k38_same_and_sizes.prog) (w := w) (base := base) T F_law_pick b_law_pick c_law_draw
  have c_law_levels := cal_law_levels (P := PySem.Challenge.rw_mendedtree_k38_same_and_sizes.prog) (w := w) (base := base) T F_law_levels b_law_levels c_law_pick
  have c_law_comb := cal_law_comb (P := PySem.Challenge.rw_mendedtree_k38_same_and_sizes.prog) (w := w) (base := base) T F_law_comb b_law_comb c_law_draw
  have c_law_word := cal_law_word (P := PySem.Challenge.rw_mendedtree_k38_same_and_sizes.prog) (w := w) (base := base) T F_law_word b_law_word c_law_pick c_law_draw
  have c_law_name := cal_law_name (P := PySem.Challenge.rw_mendedtree_k38_same_and_sizes.prog) (w := w) (base := base) T F_law_name b_law_name c_law_draw c_law_pick c_law_word
  have c_law_quoted := cal_law_quoted (P := PySem.Challenge.rw_mendedtree_k38_same_and_sizes.prog) (w := w) (base := base) T F_law_quoted b_law_quoted
  have c_law_literal := cal_law_literal (P := PySem.Challenge.rw_mendedtree_k38_same_and_sizes.prog) (w := w) (base := base) T F_law_literal b_law_literal c_law_quoted c_law_draw c_law_pick
  have c_law_sort := cal_law_sort (P := PySem.Challenge.rw_mendedtree_k38_same_and_sizes.prog) (w := w) (base := base) T F_law_sort b_law_sort c_law_name c_law_draw c_law_literal
  have c_law_count := cal_law_count (P := PySem.Challenge.rw_mendedtree_k38_same_and_sizes.prog) (w := w) (base := base) T F_law_count b_law_count c_law_draw
  have c_law_row := cal_law_row (P := PySem.Challenge.rw_mendedtree_k38_same_and_sizes.prog) (w := w) (base := base) T F_law_row b_law_row c_law_sort c_law_draw c_law_count
  have c_law_small_row := cal_law_small_row (P := PySem.Challenge.rw_mendedtree_k38_same_and_sizes.prog) (w := w) (base := base) T F_law_small_row b_law_small_row c_law_pick c_law_draw
  have c_law_tree := cal_law_tree (P := PySem.Challenge.rw_mendedtree_k38_same_and_sizes.prog) (w := w) (base := base) T F_law_tree b_law_tree c_law_draw c_law_levels c_law_comb c_law_row c_law_small_row c_law_pick
  have o_Node_init := fni_Node (P := PySem.Challenge.rw_mendedtree_k38_same_and_sizes.prog) (w := w) (base := base) T F_Node_init u_Node
  have c_Node_init4 : MakK PySem.Challenge.rw_mendedtree_k38_same_and_sizes.prog w K mg base 1 "Node" C_Node 2 ["state", "lead", "width", "look"] (sp_Node_init K C_Node) (gKW [.int (-1), .ref e_Node_init, .int (0)]) := ⟨_, _, _, _, ⟨mk_Node, at_Node_init, is_Node_init, kc_Node⟩, o_Node_init, PySem.W.mg_of X G a_Node, kb_Node_init4⟩
  have c_Node_init7 : MakK PySem.Challenge.rw_mendedtree_k38_same_and_sizes.prog w K mg base 1 "Node" C_Node 2 ["state", "lead", "width", "look", "alternative", "nodes", "popped"] (sp_Node_init K C_Node) (gKW []) := ⟨_, _, _, _, ⟨mk_Node, at_Node_init, is_Node_init, kc_Node⟩, o_Node_init, PySem.W.mg_of X G a_Node, kb_Node_init7⟩
  have c_Node_init6 : MakK PySem.Challenge.rw_mendedtree_k38_same_and_sizes.prog w K mg base 1 "Node" C_Node 2 ["state", "lead", "width", "look", "alternative", "nodes"] (sp_Node_init K C_Node) (gKW [.int (0)]) := ⟨_, _, _, _, ⟨mk_Node, at_Node_init, is_Node_init, kc_Node⟩, o_Node_init, PySem.W.mg_of X G a_Node, kb_Node_init6⟩
  have c_law_made := cal_law_made (P := PySem.Challenge.rw_mendedtree_k38_same_and_sizes.prog) (w := w) (base := base) T F_law_made b_law_made c_Node_init4 c_Node_init7 (fun H => .inr ⟨_, _, _, ke_Node_init, rfl, rfl, Nat.zero_le _, .nil⟩)
  have c_law_place := cal_law_place (P := PySem.Challenge.rw_mendedtree_k38_same_and_sizes.prog) (w := w) (base := base) T F_law_place b_law_place c_law_draw
  have c_law_end := cal_law_end (P := PySem.Challenge.rw_mendedtree_k38_same_and_sizes.prog) (w := w) (base := base) T F_law_end b_law_end
  have c_law_other := cal_law_other (P := PySem.Challenge.rw_mendedtree_k38_same_and_sizes.prog) (w := w) (base := base) T F_law_other b_law_other c_law_sort c_law_draw
  have c_law_change := cal_law_change (P := PySem.Challenge.rw_mendedtree_k38_same_and_sizes.prog) (w := w) (base := base) T F_law_change b_law_change c_law_place c_law_end c_law_draw c_law_other c_law_row
  have c_law_says := cal_law_says (P := PySem.Challenge.rw_mendedtree_k38_same_and_sizes.prog) (w := w) (base := base) T F_law_says b_law_says
  have c_law_shared := cal_law_shared (P := PySem.Challenge.rw_mendedtree_k38_same_and_sizes.prog) (w := w) (base := base) T F_law_shared b_law_shared c_Node_init7
  have c_law_is_number := cal_law_is_number (P := PySem.Challenge.rw_mendedtree_k38_same_and_sizes.prog) (w := w) (base := base) T F_law_is_number b_law_is_number
  have c_height := cal_height (P := PySem.Challenge.rw_mendedtree_k38_same_and_sizes.prog) (w := w) (base := base) T F_height b_height (u_Node)
  have c_count_nodes := cal_count_nodes (P := PySem.Challenge.rw_mendedtree_k38_same_and_sizes.prog) (w := w) (base := base) T F_count_nodes b_count_nodes (u_Node)
  have c_law_sized := cal_law_sized (P := PySem.Challenge.rw_mendedtree_k38_same_and_sizes.prog) (w := w) (base := base) T F_law_sized b_law_sized c_law_is_number c_height c_law_end c_count_nodes
  have c_attributes_of := cal_attributes_of (P := PySem.Challenge.rw_mendedtree_k38_same_and_sizes.prog) (w := w) (base := base) T F_attributes_of b_attributes_of (u_Node)
  have c_same := cal_same (P := PySem.Challenge.rw_mendedtree_k38_same_and_sizes.prog) (w := w) (base := base) T F_same b_same c_attributes_of (u_Node)
  have c_law_told := cal_law_told (P := PySem.Challenge.rw_mendedtree_k38_same_and_sizes.prog) (w := w) (base := base) T F_law_told b_law_told (u_Node)
  exact fn_law (P := PySem.Challenge.rw_mendedtree_k38_same_and_sizes.prog) (w := w) (base := base) T F_law c_law_reel c_law_tree c_law_made c_law_place c_law_pick c_law_change c_law_says c_law_shared c_law_sized c_same c_law_is_number c_height c_count_nodes c_law_told c_law_end c_Node_init6
theorem walk {q : Program} {loose : List Str} {XP : (Str → Option Value) → Heap → Prop} {YP : World → Heap → Prop} {d : DefRec} {K : Params → PySem.W.Frag} (hn : PySem.Challenge.rw_mendedtree_k38_same_and_sizes.most = some 63) (hdf : d.params.defaults = [])
    (hY : ∀ (w : World) (h : Heap), YP w h → (K w.params).In h)
    (F : ∀ (w : World) (mg : Str → Option Value) (fa : Addr) (h : Heap), (K w.params).In h → h.Ns mainGlobals mg → mg d.name = some (.ref fa) →
      ∃ fd : FuncData, (∀ (s : Shared) (u : Value), BindsTo s fd ⟨[u], []⟩ [("script", u)]) ∧ ∀ base : Heap, (K w.params).In base → base.Ns mainGlobals mg → FnOk PySem.Challenge.rw_mendedtree_k38_same_and_sizes.prog w (K w.params) mg base C8.CX0 8 fa fd ["script"] (sp_law (K w.params))) :
    PySem.W.WalkO q loose XP YP PySem.Challenge.rw_mendedtree_k38_same_and_sizes.row.toRowW d [] (fun f vs => PySem.call f vs) :=
  L2.walk_of (l := PySem.Challenge.rw_mendedtree_k38_same_and_sizes) (n := 63) (k := 8) (x := "script") (CX := fun _ => C8.CX0) (sp := fun w => sp_law (K w.params)) hn (by decide) hdf ⟨rfl, by decide, by decide⟩ hY F (fun _ _ a ns hl _ hS => ⟨a, ns, rfl, hS, hl, fun _ => rfl⟩) fun _ _ _ _ _ z => z
end Z
open PySem PySem.W PyProof.Rows in
set_option maxRecDepth 100000 in
set_option maxHeartbeats 0 in
theorem PySem.Challenge.cw_mendedtree_k38_same_and_sizes_holds : PySem.Challenge.rw_mendedtree_k38_same_and_sizes.Holds := by
  w_on; o_law; k_head; (case hw => w_witness2)
  k_fill
  refine Z.walk rfl rfl (fun w h Y => PySem.W.kIn_of Y) ?F
  case F =>
    intro w mg fa h KX G hmg
    refine' Z.all_mk KX G hmg ?z_abs ?z_bool ?z_int ?z_isinstance ?z_iter ?z_len ?z_list ?z_max ?z_min ?z_range ?z_str ?z_sum ?z_tuple ?z_zip ?a_attributes_of ?l_attributes_of ?c_attributes_of ?k_attributes_of ?a_same ?l_same ?c_same ?k_same ?a_count_nodes ?l_count_nodes ?c_count_nodes ?k_count_nodes ?a_height ?l_height ?c_height ?k_height ?a_law_reel ?l_law_reel ?c_law_reel ?k_law_reel ?a_law_draw ?l_law_draw ?c_law_draw ?k_law_draw ?a_law_pick ?l_law_pick ?c_law_pick ?k_law_pick ?a_law_word ?l_law_word ?c_law_word ?k_law_word ?a_law_quoted ?l_law_quoted ?c_law_quoted ?k_law_quoted ?a_law_literal ?l_law_literal ?c_law_literal ?k_law_literal ?a_law_name ?l_law_name ?c_law_name ?k_law_name ?a_law_sort ?l_law_sort ?c_law_sort ?k_law_sort ?a_law_comb ?l_law_comb ?c_law_comb ?k_law_comb ?a_law_levels ?l_law_levels ?c_law_levels ?k_law_levels ?a_law_count ?l_law_count ?c_law_count ?k_law_count ?a_law_row ?l_law_row ?c_law_row ?k_law_row ?a_law_small_row ?l_law_small_row ?c_law_small_row ?k_law_small_row ?a_law_tree ?l_law_tree ?c_law_tree ?k_law_tree ?a_law_place ?l_law_place ?c_law_place ?k_law_place ?a_law_other ?l_law_other ?c_law_other ?k_law_other ?a_law_change ?l_law_change ?c_law_change ?k_law_change ?a_law_made ?l_law_made ?c_law_made ?k_law_made ?a_law_told ?l_law_told ?c_law_told ?k_law_told ?a_law_end ?l_law_end ?c_law_end ?k_law_end ?a_law_shared ?l_law_shared ?c_law_shared ?k_law_shared ?a_law_is_number ?l_law_is_number ?c_law_is_number ?k_law_is_number ?a_law_says ?l_law_says ?c_law_says ?k_law_says ?a_law_sized ?l_law_sized ?c_law_sized ?k_law_sized ?a_law ?l_law ?c_law ?k_law ?a_Node ?pg_Node ?hd_Node ?po_Node ?sa_Node ?mk_Node ?kc_Node ?cl_Node ?mo_Node ?nf_Node_kind ?nf_Node_symbol ?nf_Node_state ?nf_Node_lead ?nf_Node_width ?nf_Node_look ?nf_Node_alternative ?nf_Node_nodes ?nf_Node_popped ?z1 ?z2 ?at_Node_init ?is_Node_init ?l_Node_init ?c_Node_init ?k_Node_init ?kd_Node_init_alternative ?kd_Node_init_nodes ?ke_Node_init ?kd_Node_init_popped
    (case z_abs => k_is)
    (case z_bool => k_is)
    (case z_int => k_is)
    (case z_isinstance => k_is)
    (case z_iter => k_is)
    (case z_len => k_is)
    (case z_list => k_is)
    (case z_max => k_is)
    (case z_min => k_is)
    (case z_range => k_is)
    (case z_str => k_is)
    (case z_sum => k_is)
    (case z_tuple => k_is)
    (case z_zip => k_is)
    (case a_attributes_of => k_is)
    (case l_attributes_of => k_is)
    (case c_attributes_of => k_is)
    (case k_attributes_of => k_is)
    (case a_same => k_is)
    (case l_same => k_is)
    (case c_same => k_is)
    (case k_same => k_is)
    (case a_count_nodes => k_is)
    (case l_count_nodes => k_is)
    (case c_count_nodes => k_is)
    (case k_count_nodes => k_is)
    (case a_height => k_is)
    (case l_height => k_is)
    (case c_height => k_is)
    (case k_height => k_is)
    (case a_law_reel => k_is)
    (case l_law_reel => k_is)
    (case c_law_reel => k_is)
    (case k_law_reel => k_is)
    (case a_law_draw => k_is)
    (case l_law_draw => k_is)
    (case c_law_draw => k_is)
    (case k_law_draw => k_is)
    (case a_law_pick => k_is)
    (case l_law_pick => k_is)
    (case c_law_pick => k_is)
    (case k_law_pick => k_is)
    (case a_law_word => k_is)
    (case l_law_word => k_is)
    (case c_law_word => k_is)
    (case k_law_word => k_is)
    (case a_law_quoted => k_is)
    (case l_law_quoted => k_is)
    (case c_law_quoted => k_is)
    (case k_law_quoted => k_is)
    (case a_law_literal => k_is)
    (case l_law_literal => k_is)
    (case c_law_literal => k_is)
    (case k_law_literal => k_is)
    (case a_law_name => k_is)
    (case l_law_name => k_is)
    (case c_law_name => k_is)
    (case k_law_name => k_is)
    (case a_law_sort => k_is)
    (case l_law_sort => k_is)
    (case c_law_sort => k_is)
    (case k_law_sort => k_is)
    (case a_law_comb => k_is)
    (case l_law_comb => k_is)
    (case c_law_comb => k_is)
    (case k_law_comb => k_is)
    (case a_law_levels => k_is)
    (case l_law_levels => k_is)
    (case c_law_levels => k_is)
    (case k_law_levels => k_is)
    (case a_law_count => k_is)
    (case l_law_count => k_is)
    (case c_law_count => k_is)
    (case k_law_count => k_is)
    (case a_law_row => k_is)
    (case l_law_row => k_is)
    (case c_law_row => k_is)
    (case k_law_row => k_is)
    (case a_law_small_row => k_is)
    (case l_law_small_row => k_is)
    (case c_law_small_row => k_is)
    (case k_law_small_row => k_is)
    (case a_law_tree => k_is)
    (case l_law_tree => k_is)
    (case c_law_tree => k_is)
    (case k_law_tree => k_is)
    (case a_law_place => k_is)
    (case l_law_place => k_is)
    (case c_law_place => k_is)
    (case k_law_place => k_is)
    (case a_law_other => k_is)
    (case l_law_other => k_is)
    (case c_law_other => k_is)
    (case k_law_other => k_is)
    (case a_law_change => k_is)
    (case l_law_change => k_is)
    (case c_law_change => k_is)
    (case k_law_change => k_is)
    (case a_law_made => k_is)
    (case l_law_made => k_is)
    (case c_law_made => k_is)
    (case k_law_made => k_is)
    (case a_law_told => k_is)
    (case l_law_told => k_is)
    (case c_law_told => k_is)
    (case k_law_told => k_is)
    (case a_law_end => k_is)
    (case l_law_end => k_is)
    (case c_law_end => k_is)
    (case k_law_end => k_is)
    (case a_law_shared => k_is)
    (case l_law_shared => k_is)
    (case c_law_shared => k_is)
    (case k_law_shared => k_is)
    (case a_law_is_number => k_is)
    (case l_law_is_number => k_is)
    (case c_law_is_number => k_is)
    (case k_law_is_number => k_is)
    (case a_law_says => k_is)
    (case l_law_says => k_is)
    (case c_law_says => k_is)
    (case k_law_says => k_is)
    (case a_law_sized => k_is)
    (case l_law_sized => k_is)
    (case c_law_sized => k_is)
    (case k_law_sized => k_is)
    (case a_law => k_is)
    (case l_law => k_is)
    (case c_law => k_is)
    (case k_law => k_is)
    (case a_Node => k_is)
    (case pg_Node => k_is)
    (case hd_Node => k_is)
    (case po_Node => k_is)
    (case sa_Node => k_is)
    (case mk_Node => k_is)
    (case kc_Node => k_is)
    (case cl_Node => k_is)
    (case mo_Node => k_is)
    (case nf_Node_kind => k_is)
    (case nf_Node_symbol => k_is)
    (case nf_Node_state => k_is)
    (case nf_Node_lead => k_is)
    (case nf_Node_width => k_is)
    (case nf_Node_look => k_is)
    (case nf_Node_alternative => k_is)
    (case nf_Node_nodes => k_is)
    (case nf_Node_popped => k_is)
    (case z1 => k_is)
    (case z2 => k_is)
    (case at_Node_init => k_is)
    (case is_Node_init => k_is)
    (case l_Node_init => k_is)
    (case c_Node_init => k_is)
    (case k_Node_init => k_is)
    (case kd_Node_init_alternative => k_is)
    (case kd_Node_init_nodes => k_is)
    (case ke_Node_init => k_is)
    (case kd_Node_init_popped => k_is)
